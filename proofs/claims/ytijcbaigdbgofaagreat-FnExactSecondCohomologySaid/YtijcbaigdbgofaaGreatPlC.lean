/- The program's SecondCohomology returns what the reference's returns,for all arguments;no conditions. -/
import Derived.Test.YtijcbaigdbgofaaGreatPlB
open List renaming replicate→J1,getD_eq_getElem?_getD→J2,getElem?_eq_getElem→J4,length_append→J6,length_cons→J7,mem_cons→J8,getElem?_append_right→J9,append_assoc→Jc,mem_append→Jd,append_nil→Je,length_replicate→Jf,range→Jg,length_map→Jh,mem_map→Jm,map_cons→Jo,replicate_succ→Jp,take_of_length_le→Jr,take_left'→Js,nil_append→Jt,getElem?_append_left→Ju,take_succ_eq_append_getElem→Jw,length_nil→Jx,length_drop→Jz,getElem?_map→K0,cons_append→K1,drop_left'→K3,take_zero→K8,getElem_mem→K9,length_take→Ka,eq_of_mem_replicate→Kb,all_eq_true→Kf,reverse_reverse→Ki,mem_range→Kq,range'→Ku,mem_iff_getElem→L6,map_append→L7,flatten_cons→Lg,range_eq_range'→Lh,length_range→Li,flatMap_cons→Lj,replicate_succ'→Lu,mem_flatMap→Lw,drop_eq_nil_of_le→Lx,getElem?_drop→He,replicate_zero→Hk,mem_append_right→Hn,flatten_nil→Ht,mem_cons_of_mem→G5,map_nil→Gv,mem_append_left→U8,drop_zero→U9,drop_eq_getElem_cons→Uf,reverse_cons→Ug,mem_of_mem_drop→Um,map_congr_left→Q9,ext_getElem→Qg,getElem?_replicate_of_lt→Qi,head?_cons→Qj,flatMap_append→Qk,take_length→Qt,map_map→Jaf,length_reverse→Jal,not_mem_nil→Jar,length_range'→Jat,mem_of_mem_head?→Jb1,map_take→Jb9,findSome?_cons→Jbf,drop_drop→Jbh,mem_reverse→Jbv,getElem_map→Jbw,getElem?_take→Jcc,map_drop→Jci,range'_succ→Jcr
open Int renaming toNat_natCast→Ja,emod_lt_of_pos→Kg,emod_nonneg→Kx,natCast_mul→La,mul_zero→Lb,add_zero→Ly,natCast_add→G6,mul_add→Jck,toNat_of_nonneg→Jcs
open Nat renaming zero_add→Jb,le_refl→Ji,lt_or_ge→Jj,mul_le_mul→Jv,succ_mul→K4,mul_le_mul_right→Kd,zero_le→Km,add_sub_cancel_left→Lz,zero_mul→Gg,eq_zero_or_pos→Gk,mul_comm→Gx,div_add_mod→U7,mod_lt→Ul,div_lt_iff_lt_mul→Q6,not_lt_zero→Qb,add_sub_cancel→Jaz,sub_zero→Jb5,lt_irrefl→Jbk
open Bool renaming not_true→K7,not_false→Kr,false_eq_true→Hq
open Option renaming some→Lq,map_some→H0,bind→Hp,isSome_none→Uk,getD_some→Q8
open Prod renaming mk→Jaj
open Option renaming some→i7,none→i8
open Bool renaming true→i9,false→ia
namespace Go.Pl
open Go Go.Ab Go.Wk Go.Pc
abbrev Trc:=List (Nat×List Nat)
structure PD where
 k:Nat
 wd:List Nat
 t:Nat
 r1:Nat
 s1:List Nat
 w1:List Nat
 r2:Nat
 s2:List Nat
 w2:List Nat
section
variable (x:SPr)
abbrev PD.B(d:PD)(t1 t2:Trc):Prop:=zKb x d.k d.r1 d.s1 d.w1 d.r2 d.s2 d.w2 t1 t2
def ups(n i:Nat):List Nat:=Ku (i+1) (n-(i+1))
def pd2(i j k:Nat):PD:=⟨i,[k,j,i],1,base x.zA.length j+(k-(j+1)),[i],j::(nw 0 (lcj x j k)++[i]),base x.zA.length i+(j-(i+1)),[],k::i::nw 0 (lcj x i j)⟩
def pd1(i j:Nat):PD:=⟨i,J1 (yH x j) j++[i],yH x j-1,j,[i],nw 0 (x.zT.getD j [])++[i],base x.zA.length i+(j-(i+1)),[],J1 (yH x j-1) j++i::nw 0 (lcj x i j)⟩
def pd4(i j:Nat):PD:=⟨i,j::J1 (yH x i) i,1,base x.zA.length i+(j-(i+1)),J1 (yH x i-1) i,i::(nw 0 (lcj x i j)++J1 (yH x i-1) i),i,[],j::nw 0 (x.zT.getD i [])⟩
def pd3(i:Nat):PD:=⟨i,J1 (yH x i+1) i,1,i,[i],nw 0 (x.zT.getD i [])++[i],i,[],i::nw 0 (x.zT.getD i [])⟩
def cps:List PD:=
 ((Jg x.zA.length).flatMap fun i=>(ups x.zA.length i).flatMap fun j=>(ups x.zA.length j).map fun k=>pd2 x i j k)++
 (((Jg x.zA.length).flatMap fun i=>(ups x.zA.length i).map fun j=>pd1 x i j)++
 (((Jg x.zA.length).flatMap fun i=>(ups x.zA.length i).map fun j=>pd4 x i j)++
 (Jg x.zA.length).map fun i=>pd3 x i))
end
theorem zEQ{n i j:Nat}:j∈ups n i↔i<j∧j<n:=by grind[ups]
section
variable {x:SPr}
theorem zAK{φ:PD→Prop}:(∀d∈cps x,φ d)↔(∀i j k,i<j→j<k→k<x.zA.length→φ (pd2 x i j k))∧(∀i j,i<j→j<x.zA.length→φ (pd1 x i j))∧(∀i j,i<j→j<x.zA.length→φ (pd4 x i j))∧ ∀i,i<x.zA.length→φ (pd3 x i):=by
 constructor
 ·intro g
  refine⟨fun i j k h1 h2 h3=>g _ ?_,fun i j h1 h2=>g _ ?_,fun i j h1 h2=>g _ ?_,fun i h1=>g _ ?_⟩
  ·exact U8 _ (Lw.2 ⟨i,by grind,Lw.2 ⟨j,by grind[zEQ],Jm.2 ⟨k,zEQ.2 ⟨h2,h3⟩,rfl⟩⟩⟩)
  ·exact Hn _ (U8 _ (Lw.2 ⟨i,by grind,Jm.2 ⟨j,zEQ.2 ⟨h1,h2⟩,rfl⟩⟩))
  ·exact Hn _ (Hn _ (U8 _ (Lw.2 ⟨i,by grind,Jm.2 ⟨j,zEQ.2 ⟨h1,h2⟩,rfl⟩⟩)))
  ·exact Hn _ (by grind)
 ·rintro⟨g2,g1,g4,g3⟩ d hd
  simp only[cps,Jd,Lw,Jm,Kq,zEQ]at hd
  grind
theorem zPD{D:Nat}{m:zE}{T:Mx}:zVG x D m T↔ ∀d∈cps x,∀t1 t2,d.B x t1 t2→tv m.Prime D m T t1=tv m.Prime D m T t2:=by
 rw[zAK (φ:=fun d=> ∀t1 t2,d.B x t1 t2→tv m.Prime D m T t1=tv m.Prime D m T t2)];constructor
 ·intro g
  exact⟨fun i j k h1 h2 h3=>g.p2 i j k h1 h2 h3,fun i j h1 h2=>g.p1 i j h1 h2,fun i j h1 h2=>g.p4 i j h1 h2,fun i h1=>g.p3 i h1⟩
 ·rintro⟨g2,g1,g4,g3⟩
  exact⟨fun k j h1 h2=>g1 k j h1 h2,fun k i j h1 h2 h3=>g2 k i j h1 h2 h3,fun k hk=>g3 k hk,fun k j h1 h2=>g4 k j h1 h2⟩
theorem zVJ(h6:x.zA.length≤6){w:List Nat}{r:zDY}(hw:∀a∈w,a<x.zA.length)(h:hdS x w=i7 r):r.1<base x.zA.length x.zA.length:=by
 unfold hdS at h;have hb:=uC x.zA.length (by omega)
 match w,h with
 | [],h=>cases h
 | [a],h=>
  grind[swp,pws]
 |a::b::w,h=>
  have ha:=hw a (by simp);simp only[swp]at h
  by_cases g:b<a
  ·rw[if_pos g]at h
   cases h;have:=zBK x.zA.length (by omega) b (by omega);omega
  ·rw[if_neg g]at h
   grind[pws]
theorem zVK(h6:x.zA.length≤6):∀{w:List Nat}{r:zDY},(∀a∈w,a<x.zA.length)→stS x w=i7 r→r.1<base x.zA.length x.zA.length
 | [],_,_,h=>by cases h
 |a::w,r,hw,h=>by
  simp only[stS]at h;cases e:hdS x (a::w)with
  |some q=>
   rw[e]at h;cases h;exact zVJ h6 hw e
  |none=>
   rw[e]at h;cases e2:stS x w with
   |none=>grind
   |some q=>
    rw[e2]at h;cases h;have:=zVK (w:=w) (r:=q) h6 (by grind) e2;exact this
theorem Col.lt(h6:x.zA.length≤6){k:Nat}{w w':List Nat}{tr:Trc}(hc:Col x k w tr w'):∀q∈tr,q.1<base x.zA.length x.zA.length:=by
 induction hc with
 |refl w=>simp
 |step hw hs _ ih=>
  intro q hq;rcases J8.1 hq with rfl|hq
  ·exact zVK h6 (by grind) hs
  grind
end
section
variable {x:SPr} (h:Pres x) (h6:x.zA.length≤6)
 include h
theorem zLT{d:PD}{t1 t2 u1 u2:Trc}(hk:d.k≤x.zA.length)(a:d.B x t1 t2)(b:d.B x u1 u2):t1=u1∧t2=u2:=by
 obtain⟨⟨v1,y1,rfl,k1⟩,⟨v2,y2,rfl,k2⟩⟩:=a;obtain⟨⟨v3,y3,rfl,k3⟩,⟨v4,y4,rfl,k4⟩⟩:=b;have nn:=fun(y:Vec)(hy:V (suf x d.k) y)=>zF9 h (x.zA.length-d.k) d.k (by omega) y hy
 exact⟨by rw[(Col.det k1.col k3.col (nn _ k1.v) (nn _ k3.v)).1],by rw[(Col.det k2.col k4.col (nn _ k2.v) (nn _ k4.v)).1]⟩
 include h6
theorem zGy:∀d∈cps x,d.k<x.zA.length∧(∀a∈d.wd,a<x.zA.length)∧ ∃t1 t2,d.B x t1 t2∧(∀q∈t1,q.1<base x.zA.length x.zA.length)∧ ∀q∈t2,q.1<base x.zA.length x.zA.length:=by
 have eC:∀i j,i<j→j<x.zA.length→ ∀a∈nw 0 (lcj x i j),i+1≤a∧a<x.zA.length:=fun i j hi hj=>(sP h (uD h hi hj) (by omega)).2
 have eH:∀i,i<x.zA.length→ ∀a∈nw 0 (x.zT.getD i []),i+1≤a∧a<x.zA.length:=fun i hi=>(sP h (jG h hi) hi).2
 have cR:=uC x.zA.length (by omega);have cG:=fun i(hi:i<x.zA.length)=>zBK x.zA.length (by omega) i hi
 have key:∀(d:PD),d.k<x.zA.length→(∀a∈d.wd,a<x.zA.length)→d.r1<base x.zA.length x.zA.length→d.r2<base x.zA.length x.zA.length→(∀a∈d.w1,d.k≤a∧a<x.zA.length)→(∀a∈d.w2,d.k≤a∧a<x.zA.length)→d.k<x.zA.length∧(∀a∈d.wd,a<x.zA.length)∧ ∃t1 t2,d.B x t1 t2∧(∀q∈t1,q.1<base x.zA.length x.zA.length)∧ ∀q∈t2,q.1<base x.zA.length x.zA.length:=by
  intro d hk mw b1 b2 c1 c2;obtain⟨u1,y1,k1⟩:=zUu h (x.zA.length-d.k) d.k (by omega) d.w1 c1;obtain⟨u2,y2,k2⟩:=zUu h (x.zA.length-d.k) d.k (by omega) d.w2 c2;refine⟨hk,mw,_,_,⟨⟨u1,y1,rfl,k1⟩,⟨u2,y2,rfl,k2⟩⟩,fun q hq=>?_,fun q hq=>?_⟩
  ·rcases J8.1 hq with rfl|hq
   ·exact b1
   ·exact k1.col.lt h6 q hq
  ·rcases J8.1 hq with rfl|hq
   ·exact b2
   ·exact k2.col.lt h6 q hq
 refine zAK.2 ⟨fun i j k h1 h2 h3=>key _ ?_ ?_ ?_ ?_ ?_ ?_,fun i j h1 h2=>key _ ?_ ?_ ?_ ?_ ?_ ?_,fun i j h1 h2=>key _ ?_ ?_ ?_ ?_ ?_ ?_,fun i h1=>key _ ?_ ?_ ?_ ?_ ?_ ?_⟩
 ·show i<_;omega
 ·intro a ha
  simp only[pd2,J8,Jar,or_false]at ha;omega
 ·have:=cG j (by omega);show base _ j+(k-(j+1))<_;omega
 ·have:=cG i (by omega);show base _ i+(j-(i+1))<_;omega
 ·intro a ha
  simp only[pd2,J8,Jd,Jar,or_false]at ha ⊢
  rcases ha with rfl|ha|rfl
  ·omega
  ·grind
  ·omega
 ·intro a ha
  simp only[pd2,J8]at ha ⊢
  rcases ha with rfl|rfl|ha
  ·omega
  ·omega
  grind
 ·show i<_;omega
 ·intro a ha
  simp only[pd1,Jd,List.mem_singleton]at ha;rcases ha with ha|rfl
  ·grind
  ·omega
 ·show j<_;omega
 ·have:=cG i (by omega);show base _ i+(j-(i+1))<_;omega
 ·intro a ha
  simp only[pd1,Jd,List.mem_singleton]at ha ⊢
  rcases ha with ha|rfl
  ·grind
  ·omega
 ·intro a ha
  simp only[pd1,Jd,J8]at ha ⊢
  rcases ha with ha|rfl|ha
  ·grind
  ·omega
  grind
 ·show i<_;omega
 ·intro a ha
  simp only[pd4,J8]at ha;rcases ha with rfl|ha
  ·omega
  grind
 ·have:=cG i (by omega);show base _ i+(j-(i+1))<_;omega
 ·show i<_;omega
 ·intro a ha
  simp only[pd4,J8,Jd]at ha ⊢
  rcases ha with rfl|ha|ha
  ·omega
  ·grind
  grind
 ·intro a ha
  simp only[pd4,J8]at ha ⊢
  rcases ha with rfl|ha
  ·omega
  grind
 ·exact h1
 ·intro a ha
  have:=Kb (show a∈J1 _ i from ha);omega
 ·show i<_;omega
 ·show i<_;omega
 ·intro a ha
  simp only[pd3,Jd,List.mem_singleton]at ha ⊢
  rcases ha with ha|rfl
  ·grind
  ·omega
 ·intro a ha
  simp only[pd3,J8]at ha ⊢
  rcases ha with rfl|ha
  ·omega
  grind
end
end Go.Pl

namespace Go.Pl
open Go Go.Ab Go.Wk Go.Pc
theorem zJg{α:Type}{F:α→Vec}{D:Nat}(hF:∀a,(F a).length=D):∀L:List α,((L.map F).flatten).length=L.length*D
 | []=>by simp
 |a::L=>by rw[Jo,Lg,J6,hF,zJg hF L,J7,K4];omega
theorem zHX{α:Type}{F:α→Vec}{D:Nat}(hF:∀a,(F a).length=D):∀(L:List α)(i j:Nat)(hi:i<L.length),j<D→at0 ((L.map F).flatten) (i*D+j)=at0 (F L[i]) j
 | [],i,j,hi,_=>by simp at hi
 |a::L,i,j,hi,hj=>by
  have hl:=hF a;rw[Jo,Lg];cases i with
  |zero=>
   rw[Gg,Jb,List.getElem_cons_zero,at0,J2,Ju (by omega),←J2]
  |succ i=>
   have ih:=zHX hF L i j (by simpa using hi) hj;rw[List.getElem_cons_succ,←ih,at0,J2,J9 (by rw[hl,K4];omega),hl,K4,show i*D+D+j-D=i*D+j from by omega,←J2]
def kV(p:Int)(D:Nat)(m:zE)(prs:List (Trc×Trc))(k:Nat):List Int:=(prs.map fun q=>prR p D m q.1 q.2 k).flatten
theorem zHY{p:Int}{D k:Nat}{m:zE}(prs:List (Trc×Trc)):(kV p D m prs k).length=prs.length*D:=zJg (F:=fun q:Trc×Trc=>prR p D m q.1 q.2 k) (fun _=>yA _ _) prs
theorem zSi{p:Int}{D N:Nat}{m:zE}{y:Vec}(hp:2≤p){prs:List (Trc×Trc)}(hl:∀q∈prs,(∀r∈q.1,r.1<N)∧ ∀r∈q.2,r.1<N):
  (∀c,c<prs.length*D→(S (N*D) fun k=>at0 y k*ent (gl (N*D) fun k=>kV p D m prs k) k c)%p=0)↔ ∀q∈prs,tv p D m (Tc N D y) q.1=tv p D m (Tc N D y) q.2:=by
 have e:∀i j(hi:i<prs.length),j<D→(S (N*D) fun k=>at0 y k*ent (gl (N*D) fun k=>kV p D m prs k) k (i*D+j))=S (N*D) fun k=>at0 y k*at0 (prR p D m prs[i].1 prs[i].2 k) j:=fun i j hi hj=>by
  refine xM fun k hk=>?_
  show at0 y k*at0 ((gl (N*D) fun k=>kV p D m prs k).getD k []) (i*D+j)=_;rw[xV hk,kV,zHX (F:=fun q:Trc×Trc=>prR p D m q.1 q.2 k) (fun _=>yA _ _) prs i j hi hj]
 constructor
 ·intro g q hq
  obtain⟨i,hi,rfl⟩:=L6.1 hq;refine(zOM hp (hl _ hq).1 (hl _ hq).2).1 fun j hj=>?_
  rw[←e i j hi hj];exact g _ (jZ hi hj)
 ·intro g c hc
  have hD:0<D:=by
   rcases Gk D with h|h
   ·rw[h,Nat.mul_zero]at hc;omega
   ·exact h
  have hi:c/D<prs.length:=(Q6 hD).2 hc;have hj:c%D<D:=Ul _ hD;have hm:=K9 hi;rw[show c=c/D*D+c%D from by rw[Gx];exact(U7 c D).symm,e _ _ hi hj];exact(zOM hp (hl _ hm).1 (hl _ hm).2).2 (g _ hm) _ hj
def sQ(x:SPr):List PD→List (Trc×Trc)→Prop
 | [],[]=>True
 |d::ds,q::qs=>d.B x q.1 q.2∧sQ x ds qs
 |_,_=>False
theorem sQ.len{x:SPr}:{ds:List PD}→{qs:List (Trc×Trc)}→sQ x ds qs→ds.length=qs.length
 | [],[],_=>rfl
 |d::ds,q::qs,h=>by rw[J7,J7,sQ.len h.2]
 | [],_::_,h=>by simp[sQ]at h
 |_::_,[],h=>by simp[sQ]at h
theorem sQ.all{x:SPr}{φ:Trc×Trc→Prop}:{ds:List PD}→{qs:List (Trc×Trc)}→sQ x ds qs→(∀d∈ds,∀t1 t2,d.B x t1 t2→φ (t1,t2))→ ∀q∈qs,φ q
 | [],[],_,_,q,hq=>by cases hq
 |d::ds,q::qs,h,g,r,hr=>by
  rcases J8.1 hr with rfl|hr
  ·exact g d (by simp) _ _ h.1
  ·exact sQ.all h.2 (fun d hd=>g d (G5 _ hd)) r hr
 | [],_::_,h,_,_,_=>by simp[sQ]at h
 |_::_,[],h,_,_,_=>by simp[sQ]at h
theorem sQ.of{x:SPr}{φ:Trc×Trc→Prop}:{ds:List PD}→{qs:List (Trc×Trc)}→sQ x ds qs→(∀q∈qs,φ q)→ ∀d∈ds,∃t1 t2,d.B x t1 t2∧φ (t1,t2)
 | [],[],_,_,d,hd=>by cases hd
 |d::ds,q::qs,h,g,r,hr=>by
  rcases J8.1 hr with rfl|hr
  ·exact⟨q.1,q.2,h.1,g q (by simp)⟩
  ·exact sQ.of h.2 (fun q hq=>g q (G5 _ hq)) r hr
 | [],_::_,h,_,_,_=>by simp[sQ]at h
 |_::_,[],h,_,_,_=>by simp[sQ]at h
section
variable {x:SPr}{m:zE}{D:Nat} (hx:zFU x) (hD:MOk x.zA.length m D)
 include hx hD
theorem zSj{prs:List (Trc×Trc)}(hq:sQ x (cps x) prs)(hc:wR (suf x 0))(hr:zDS x m D){y:Vec}(hy:Row m.Prime (base x.zA.length x.zA.length*D) y):
  (∀c,c<prs.length*D→(S (base x.zA.length x.zA.length*D) fun k=>at0 y k*ent (gl (base x.zA.length x.zA.length*D) fun k=>kV m.Prime D m prs k) k c)%m.Prime=0)↔wR (suf (exx D x m (Tc (base x.zA.length x.zA.length) D y)) 0):=by
 have hp:=hD.p.pos;have cD:=zGy hx.toPres hx.n6;have gD:∀q∈prs,(∀r∈q.1,r.1<base x.zA.length x.zA.length)∧ ∀r∈q.2,r.1<base x.zA.length x.zA.length:=hq.all fun d hd t1 t2 hb=>by obtain⟨hk,_,u1,u2,pI,l1,l2⟩:=cD d hd;obtain⟨rfl,rfl⟩:=zLT hx.toPres (by omega) hb pI;exact⟨l1,l2⟩
 obtain⟨e1,e2⟩:=zVI hx hD hy;rw[zSi (by omega) gD,←zPC hx.toPres e1 e2 hc hr,zPD];constructor
 ·intro g d hd t1 t2 hb
  obtain⟨u1,u2,pI,e⟩:=hq.of (φ:=fun q=>tv m.Prime D m (Tc (base x.zA.length x.zA.length) D y) q.1=tv m.Prime D m (Tc (base x.zA.length x.zA.length) D y) q.2) g d hd;obtain⟨rfl,rfl⟩:=zLT hx.toPres (by have:=(cD d hd).1;omega) hb pI;exact e
 ·intro g
  exact hq.all fun d hd t1 t2 hb=>g d hd t1 t2 hb
theorem zXj:∃prs,sQ x (cps x) prs:=by
 have _:=hD;have cD:=zGy hx.toPres hx.n6
 revert cD
 generalize cps x=ds
 intro cD
 induction ds with
 |nil=>exact⟨[],trivial⟩
 |cons d ds ih=>
  obtain⟨qs,hq⟩:=ih fun d hd=>cD d (G5 _ hd)
  obtain⟨_,_,t1,t2,hb,_⟩:=cD d (by simp);exact⟨(t1,t2)::qs,hb,hq⟩
end
end Go.Pl

namespace Go.Pl
open Go Go.Ab Go.Wk Go.Pc
section
variable {x:SPr}{m:zE}{D:Nat} (hD:MOk x.zA.length m D)
 include hD
theorem zPE{N i:Nat}(hi:i<N)(hN:N≤21){T:Mx}:zJ (zQb m (T,(i:Int))) (J1 (N*D*D) (0:Int),0)=i7 (mkv (N*D*D) fun j=>if j/D=i*D+j%D then 1 else 0):=by
 have h1:=hD.d1;have h3:=hD.d3;have i4:N*D≤21*3:=Jv hN h3;have hB:N*D*D≤63*3:=Jv i4 h3;have:=zY (body:=zQb m (T,(i:Int))) (r:=mkv (N*D*D) fun j=>if j/D=i*D+j%D then(1:Int)else 0)
  (fun c=>(mkv (N*D*D) fun j=>if j/D=i*D+j%D∧j%D<c then(1:Int)else 0,(c:Int))) D (fun c hc=>by
  unfold zQb;simp only
  have a1:i*D+D≤N*D:=by rw[←K4];exact Kd _ hi
  have a2:(i*D+c)*D+D≤N*D*D:=by rw[←K4];exact Kd _ (by omega)
  have b1:(i:Int)*(D:Int)=((i*D:Nat):Int):=by rw[La]
  have b2:((i*D+c:Nat):Int)*(D:Int)=(((i*D+c)*D:Nat):Int):=by rw[La]
  have b3:((i*D:Nat):Int)+(c:Int)=((i*D+c:Nat):Int):=by omega
  have b4:(((i*D+c)*D:Nat):Int)+(c:Int)=(((i*D+c)*D+c:Nat):Int):=by omega
  rw[hD.d,xJ hc,zN,b1,zC (by omega) (by omega),bs,b3,zC (by omega) (by omega),bs,b2,zC (by omega) (by omega),bs,b4,zC (by omega) (by omega),bs,yX 0 (by rw[yA];omega),bs,zC (by omega) (by omega),bs,Ja,jC,cs]
  congr 3
  refine yC fun j hj=>?_
  have pW:=U7 j D
  by_cases g:j=(i*D+c)*D+c
  ·have e:=sF (q:=i*D+c) hc
   rw[if_pos g,g,e.1,e.2,if_pos ⟨rfl,by omega⟩]
  ·rw[if_neg g]
   by_cases g2:j/D=i*D+j%D
   ·by_cases g3:j%D<c
    ·rw[if_pos ⟨g2,g3⟩,if_pos ⟨g2,by omega⟩]
    ·rw[if_neg fun z=>g3 z.2]
     refine(if_neg fun z=>g ?_).symm;have:j%D=c:=by omega
     rw[g2,this,Gx]at pW;exact pW.symm
   ·rw[if_neg fun z=>g2 z.1,if_neg fun z=>g2 z.1]) (by
  unfold zQb;simp only
  rw[hD.d,uH,zS]
  congr 2
  refine yC fun j _=>?_
  have:=Ul j (show 0<D by omega)
  by_cases g2:j/D=i*D+j%D
  ·rw[if_pos ⟨g2,this⟩,if_pos g2]
  ·rw[if_neg fun z=>g2 z.1,if_neg g2])
 rw[show(mkv (N*D*D) fun j=>if j/D=i*D+j%D∧j%D<0 then(1:Int)else 0)=J1 (N*D*D) 0 from by rw[show J1 (N*D*D) (0:Int)=mkv (N*D*D) fun _=>0 from tU _];exact yC fun j _=>if_neg fun z=>Qb _ z.2]at this
 exact this
theorem zHZ{N:Nat}(hN:N≤21):zJ (zT0 m (N:Int) ((N*D:Nat):Int)) ([],0)=i7 (uT N D):=by
 have h1:=hD.d1;have h3:=hD.d3;have i4:N*D≤21*3:=Jv hN h3;have hB:N*D*D≤63*3:=Jv i4 h3;refine jE N (fun i=>mkv (N*D*D) fun j=>if j/D=i*D+j%D then(1:Int)else 0) (fun i acc hi ha=>?_) (fun acc=>?_)
 ·unfold zT0
  simp only
  have b1:((N*D:Nat):Int)*(D:Int)=((N*D*D:Nat):Int):=by rw[La (N*D)]
  rw[hD.d,xJ hi,zN,b1,zC (by omega) (by omega),bs,xP (by omega),bs,zPE hD hi hN,bs,yT (by simp;omega),bs,zC (by omega) (by omega),bs,cs]
 ·unfold zT0
  simp only
  rw[uH,zS]
theorem zJh{B:Nat}(hB:B≤63){L:Mx}(hL:L.length≤1000)(hr:∀r∈L,r.length=B*D):zJ (zT1 m ((B:Nat):Int) L) ([],0)=i7 (gl B fun k=>zDs D k L):=by
 have h1:=hD.d1;have h3:=hD.d3;have hLD:L.length*D≤1000*3:=Jv hL h3;have hBD:B*D≤63*3:=Jv hB h3;refine jE B (fun k=>zDs D k L) (fun k acc hk ha=>?_) (fun acc=>?_)
 ·unfold zT1
  simp only
  have a1:k*D+D≤B*D:=by rw[←K4];exact Kd _ hk
  have inner:zJ (zQc m L (acc,(k:Int))) ([],0)=i7 (zDs D k L):=by
   have:=zRA (body:=zQc m L (acc,(k:Int))) L.length D (fun i=>blk D (L.getD i []) k) [] (fun i hi=>yA _ _) (fun i acc2 hi ha2=>by
    unfold zQc;simp only
    have b0:i*D+D≤L.length*D:=by rw[←K4];exact Kd _ hi
    have b1:(k:Int)*(D:Int)=((k*D:Nat):Int):=by rw[La]
    have b2:((k+1:Nat):Int)*(D:Int)=((k*D+D:Nat):Int):=by rw[←La,K4]
    have gj:(L.getD i []).length=B*D:=by rw[J2,J4 hi];exact hr _ (K9 hi)
    simp only[Jx,Jb]at ha2;rw[hD.d,xJ hi,zN,yX [] hi,bs,b1,zC (by omega) (by omega),bs,show(k:Int)+1=((k+1:Nat):Int)from by omega,zC (by omega) (by omega),bs,b2,zC (by omega) (by omega),bs,zF4 (by omega),bs,yT (by rw[yA];omega),bs,zC (by omega) (by omega),bs,cs];rfl) (fun acc2=>by
    unfold zQc;simp only
    rw[uH,zS])
   rw[this,Jt,zDs]
   congr 2
   rw[gl];refine Qg (by simp) fun j h1 h2=>?_
   simp only[Jh,Li]at h1;simp only[Jbw,List.getElem_range];rw[J2,J4 h1];rfl
  rw[xJ hk,zN,inner,bs,yT (by simp;omega),bs,zC (by omega) (by omega),bs,cs]
 ·unfold zT1
  simp only
  rw[uH,zS]
end
section
variable {x:SPr}{m:zE}{D:Nat} (hx:zFU x) (hD:MOk x.zA.length m D)
 include hx hD
theorem zGa(h0:0<x.zA.length)(hc:wR (suf x 0))(hr:zDS x m D):∃K pk,f_m x m=i7 K∧Red m.Prime (base x.zA.length x.zA.length*D) K pk∧
  ∀y,Row m.Prime (base x.zA.length x.zA.length*D) y→(Sp m.Prime (base x.zA.length x.zA.length*D) K y↔wR (suf (exx D x m (Tc (base x.zA.length x.zA.length) D y)) 0)):=by
 have h6:=hx.n6;have hb:=uC x.zA.length (by omega);have h1:=hD.d1;have h3:=hD.d3;have hB:base x.zA.length x.zA.length*D≤21*3:=Jv hb.2.1 h3;obtain⟨L,l1,l2,l3,l4⟩:=zSf hx hD h0 hc hr;have hLD:L.length*D≤1000*3:=Jv l2 h3;obtain⟨K,pk,k1,_,k3,k4⟩:=zF2 hD.p (c:=L.length*D) (N:=base x.zA.length x.zA.length*D) (A:=gl (base x.zA.length x.zA.length*D) fun k=>zDs D k L) (by omega) (fun k hk=>by rw[xV hk];refine⟨zLS L,fun j hj=>?_⟩;have hi:j/D<L.length:=(Q6 (by omega)).2 hj;have hm:j%D<D:=Ul _ (by omega);have e:=zKf (D:=D) (k:=k) L (j/D) (j%D) hi hm;rw[show j/D*D+j%D=j from by rw[Gx];exact U7 j D]at e;rw[e];have fD:=l3 (L.getD (j/D) []) (by rw[J2,J4 hi];exact K9 hi);exact fD.2 _ (jZ hk hm)) vH
 refine⟨K,pk,?_,k3,fun y hy=>?_⟩
 ·unfold f_m
  have b1:((base x.zA.length x.zA.length:Nat):Int)*(D:Int)=((base x.zA.length x.zA.length*D:Nat):Int):=by rw[La]
  rw[zHD rfl h6,bs,hD.d,b1,zC (by omega) (by omega),bs,zHZ hD hb.2.1,bs,l1,bs,zJh hD (by omega) l2 (fun r hr=>(l3 r hr).1),bs,show((L.length:Nat):Int)*(D:Int)=((L.length*D:Nat):Int)from by rw[La],zC (by omega) (by omega),bs,k1,bs]
 ·rw[k4 y,←l4 y hy,←zSg (L:=L)]
end
end Go.Pl

namespace Go.Pl
open Go Go.Ab Go.Wk Go.Pc
theorem tP{w:List Nat}{t:Nat}(h:t<w.length):ixO (enW w) (t:Int)=i7 (((w.getD t 0:Nat):Int)+1):=by rw[yX 0 (by simpa using h)];simp only[J2,K0,J4 h];rfl
theorem qM{w:List Nat}{t:Nat}(h:t<w.length):w.drop t=w.getD t 0::w.drop (t+1):=by rw[Uf h,J2,J4 h];rfl
theorem zDh{w:List Nat}{a b:Nat}(h1:a≤b)(h2:b≤w.length):yB (enW w) (a:Int) (b:Int)=i7 (enW ((w.drop a).take (b-a))):=by unfold yB;rw[if_pos ⟨by omega,by omega,by simp;omega⟩];simp only[Ja,enW,Jb9,Jci]
theorem zSk{w:List Nat}{t o:Nat}{L:Int→Option (Int⊕(Unit⊕Bool))}(hL:L=zN7 (enW w) (t:Int) (enW ((w.drop t).take o))∨L=zN8 (enW w) (t:Int) (enW ((w.drop t).take o)))(ht:t<w.length)(ho:t+o≤w.length)(hl:w.length≤1000000):
  zJ L 0=i7 (if decide ((w.drop t).take o=J1 o (w.getD t 0))then .inl ()else .inr ia):=by
 have gj:((w.drop t).take o).length=o:=by rw[Ka,Jz];omega
 have pz:(enW ((w.drop t).take o)).length=o:=by rw[enW,Jh,gj]
 have fk:∀i,i<o→((w.drop t).take o).getD i 0=w.getD (t+i) 0:=fun i hi=>by simp only[J2,Jcc,He];rw[if_pos hi]
 have hb:∀i,i<o→L (i:Int)=i7 (if(w.getD (t+i) 0==w.getD t 0)then .inl ((i+1:Nat):Int)else .inr (.inr ia)):=fun i hi=>by
  have e1:ixO (enW ((w.drop t).take o)) (i:Int)=i7 (((w.getD (t+i) 0:Nat):Int)+1):=by rw[tP (by omega),fk i hi]
  have e2:(((w.getD (t+i) 0:Nat):Int)+1 != ((w.getD t 0:Nat):Int)+1)= !(w.getD (t+i) 0==w.getD t 0):=by
   by_cases g:w.getD (t+i) 0=w.getD t 0
   ·rw[g];simp
   ·have:(w.getD (t+i) 0==w.getD t 0)=ia:=by simpa using g
    rw[this];have g2:((w.getD (t+i) 0:Nat):Int)+1≠((w.getD t 0:Nat):Int)+1:=by omega
    simpa using g2
  rcases hL with rfl|rfl<;>
  ·first|unfold zN7|unfold zN8
   rw[pz,xJ hi,zN,e1,bs,tP ht,bs,e2]
   by_cases g:(w.getD (t+i) 0==w.getD t 0)=i9
   ·rw[g,K7,zS,zC (by omega) (by omega),bs,cs];rfl
   ·have g':(w.getD (t+i) 0==w.getD t 0)=ia:=by simpa using g
    rw[g',Kr,zN];rfl
 have he:L (o:Int)=i7 (.inr (.inl ())):=by
  rcases hL with rfl|rfl
  ·unfold zN7
   rw[pz,uH,zS]
  ·unfold zN8
   rw[pz,uH,zS]
 rw[zIL o (fun i=>w.getD (t+i) 0==w.getD t 0) (fun i hi _=>hb i hi) (fun _=>he)]
 congr 1
 have pS:(Jg o).all (fun i=>w.getD (t+i) 0==w.getD t 0)=decide ((w.drop t).take o=J1 o (w.getD t 0)):=by
  rw[Bool.eq_iff_iff,Kf,decide_eq_true_iff];constructor
  ·intro g
   refine Qg (by rw[gj,Jf]) fun i h1 h2=>?_
   have:=g i (Kq.2 (by omega));have e:=fk i (by omega);rw[J2,J4 h1]at e;rw[List.getElem_replicate];simp only[Q8]at e;rw[e];simpa using this
  ·intro g i hi
   have e:=fk i (Kq.1 hi);rw[g,J2,Qi (Kq.1 hi)]at e;simp only[Q8]at e;rw[←e];simp
 rw[pS]
section
variable {x:SPr} (h:Pres x)
 include h
theorem qV{a:Nat}(ha:a<x.zA.length):ixO x.zA (a:Int)=i7 ((yH x a:Nat):Int)∧2≤yH x a∧yH x a≤7:=by
 have hp:=(h.os.2 a ha).pos;rw[yX 0 ha];refine⟨?_,zJX h ha,?_⟩
 ·show i7 (at0 x.zA a)=i7 (((at0 x.zA a).toNat:Nat):Int)
  rw[Jcs (by omega)]
 ·show(at0 x.zA a).toNat≤7
  omega
theorem zSl{w:List Nat}{t:Nat}(ht:t<w.length):(pws x (w.drop t)).isSome=decide (t+yH x (w.getD t 0)≤w.length∧(w.drop t).take (yH x (w.getD t 0))=J1 (yH x (w.getD t 0)) (w.getD t 0)):=by
 have _:=h;have hd:=qM ht
 by_cases g:(w.drop t).take (yH x (w.getD t 0))=J1 (yH x (w.getD t 0)) (w.getD t 0)
 ·have hl:=zBw g
  rw[Jz]at hl;rw[ic ⟨by omega,g⟩];rw[hd]at g ⊢
  simp only[pws];rw[if_pos g];rfl
 ·rw[ib fun z=>g z.2]
  rw[hd]at g ⊢
  simp only[pws];rw[if_neg g];rfl
theorem zIa{w:List Nat}(hw:∀a∈w,a<x.zA.length)(hl:w.length≤1000000){t:Nat}(ht:t<w.length):f_D x (enW w) (t:Int)=i7 (hdS x (w.drop t)).isSome:=by
 have ha:w.getD t 0<x.zA.length:=hw _ (by rw[J2,J4 ht];exact K9 ht);obtain⟨o1,o2,o3⟩:=qV h ha;have gj:(enW w).length=w.length:=by simp
 have hd:=qM ht;have a1:((w.getD t 0:Nat):Int)+1-1=((w.getD t 0:Nat):Int):=by omega
 have a2:(t:Int)+((yH x (w.getD t 0):Nat):Int)=((t+yH x (w.getD t 0):Nat):Int):=by omega
 have h9:=h.os.1;have fin:∀L:List Int→Int→Option (Int⊕(Unit⊕Bool)),(∀o,L (enW ((w.drop t).take o))=zN7 (enW w) (t:Int) (enW ((w.drop t).take o))∨L (enW ((w.drop t).take o))=zN8 (enW w) (t:Int) (enW ((w.drop t).take o)))→
   (cond (decide (((t+yH x (w.getD t 0):Nat):Int)> ((w.length:Nat):Int))) (i7 ia) ((i7 ((t+yH x (w.getD t 0):Nat):Int)).bind fun v9=>(yB (enW w) (t:Int) v9).bind fun v10=>(zJ (L v10) 0).bind fun r14=>match r14 with|(.inl _)=>i7 i9|(.inr r14)=>i7 r14))=i7 (pws x (w.drop t)).isSome:=by
  intro L hL;rw[zSl h ht]
  by_cases g:t+yH x (w.getD t 0)≤w.length
  ·rw[ib (by omega),zS,bs,zDh (by omega) g,bs,Lz,zSk (hL _) ht g hl,bs]
   by_cases g2:(w.drop t).take (yH x (w.getD t 0))=J1 (yH x (w.getD t 0)) (w.getD t 0)
   ·rw[ic g2,ic ⟨g,g2⟩];rfl
   ·rw[ib g2,ib fun z=>g2 z.2];rfl
  ·rw[ic (by omega),zN,ib fun z=>g z.1]
 unfold f_D;rw[gj,zC (by omega) (by omega),bs]
 by_cases g:t+1<w.length
 ·have pA:=qM g
  rw[ic (by omega),zN,tP ht,bs,bs,show(t:Int)+1=((t+1:Nat):Int)from by omega,tP g,bs]
  by_cases g2:w.getD (t+1) 0<w.getD t 0
  ·rw[ic (by omega),zN,hd,pA]
   unfold hdS;simp only[swp];rw[if_pos g2];rfl
  ·rw[ib (by omega),zS,bs,a1,zC (by omega) (by omega),bs,o1,bs,a2,zC (by omega) (by omega),bs]
   refine(fin (fun v=>zN7 (enW w) (t:Int) v) fun o=>.inl rfl).trans ?_;have:swp x (w.drop t)=i8:=by rw[hd,pA];simp only[swp];rw[if_neg g2]
   unfold hdS;rw[this]
 ·rw[ib (by omega),zS,tP ht,bs,a1,zC (by omega) (by omega),bs,o1,bs,a2,zC (by omega) (by omega),bs]
  refine(fin (fun v=>zN8 (enW w) (t:Int) v) fun o=>.inr rfl).trans ?_;have:swp x (w.drop t)=i8:=by rw[hd,Lx (by omega)];rfl
  unfold hdS;rw[this]
end
end Go.Pl

namespace Go.Pl
open Go Go.Ab Go.Wk Go.Pc
def stI(x:SPr):List Nat→Option (Nat×zDY)
 | []=>i8
 |a::w=>match hdS x (a::w)with
  |some r=>i7 (0,r)
  |none=>(stI x w).map fun z=>(z.1+1,z.2)
section
variable {x:SPr}
theorem zKg:∀w:List Nat,stS x w=(stI x w).map fun z=>(z.2.1,z.2.2.1,w.take z.1++z.2.2.2)
 | []=>rfl
 |a::w=>by
  simp only[stS,stI];cases hdS x (a::w)with
  |some r=>rfl
  |none=>
   rw[zKg w];cases stI x w with
   |none=>rfl
   |some z=>rfl
theorem zON:∀{w:List Nat}{z:Nat×zDY},stI x w=i7 z→z.1<w.length∧hdS x (w.drop z.1)=i7 z.2
 | [],_,h=>by cases h
 |a::w,z,h=>by
  simp only[stI]at h;cases e:hdS x (a::w)with
  |some r=>
   rw[e]at h;cases h;exact⟨by simp,e⟩
  |none=>
   rw[e]at h;cases e2:stI x w with
   |none=>rw[e2]at h;cases h
   |some q=>
    rw[e2]at h;cases h;obtain⟨h1,h2⟩:=zON e2;exact⟨by simpa using h1,by simpa using h2⟩
theorem zLU:∀(k i:Nat)(w:List Nat),i+k=w.length→(Ku i k).findSome? (fun j=>if(hdS x (w.drop j)).isSome then i7 (j:Int)else i8)=(stI x (w.drop i)).map fun z=>((i+z.1:Nat):Int)
 |0,i,w,h=>by rw[Lx (by omega)];rfl
 |k+1,i,w,h=>by
  rw[Jcr,Jbf,qM (show i<w.length by omega)];simp only[stI];cases e:hdS x (w.getD i 0::w.drop (i+1))with
  |some r=>rfl
  |none=>
   simp only[Uk,Hq,if_false];rw[zLU k (i+1) w (by omega)];cases stI x (w.drop (i+1))with
   |none=>rfl
   |some z=>
    simp only[H0]
    congr 2;omega
section
variable (h:Pres x)
 include h
theorem zBx{w:List Nat}(hw:∀a∈w,a<x.zA.length)(hl:w.length≤1000000):f_P x (enW w)=i7 (match stI x w with|some z=>(z.1:Int)|none=> -1):=by
 have gj:(enW w).length=w.length:=by simp
 unfold f_P;have:=zIK (body:=zT5 x (enW w)) w.length (fun j=>if(hdS x (w.drop j)).isSome then i7 (j:Int)else i8) 0 (Km _) (fun i _ hi _=>by
  unfold zT5;rw[gj,xJ hi,zN,zIa h hw hl hi,bs];cases hdS x (w.drop i)with
  |some r=>rfl
  |none=>
   simp only[Uk];rw[zS,zC (by omega) (by omega),bs,cs];rfl) (fun _=>by
  unfold zT5;rw[gj,uH,zS])
 rw[show((0:Nat):Int)=0 from rfl,Jb5,zLU w.length 0 w (by omega),U9]at this;rw[this,bs];cases stI x w with
 |none=>rfl
 |some z=>simp only[H0,zLb,Jb]
theorem zIb{v:List Int}(hn:x.zA.length≤6)(hv:zWA x.zA v):f_v v=i7 (enW (nw 0 v))∧(nw 0 v).length≤36:=by
 have hb:∀i,i<v.length→0≤at0 v i∧at0 v i≤6:=fun i hi=>by have h1:=hv.2 i hi;have h2:=(h.os.2 i (by have:=hv.1;omega)).pos;omega
 have:=zF0 0 v fun i hi=>(hb i hi).2
 have hl:=hv.1;exact⟨kT (by omega) hb,by omega⟩
theorem zCG(hn:x.zA.length≤6){w:List Nat}(hw:∀a∈w,a<x.zA.length)(hl:w.length≤900000){t:Nat}{r:zDY}(ht:t<w.length)(hr:hdS x (w.drop t)=i7 r):f_Z x (enW w) (t:Int)=i7 (enW (w.take t++r.2.2)):=by
 have gp:∀i,i<w.length→w.getD i 0<x.zA.length:=fun i hi=>hw _ (by rw[J2,J4 hi];exact K9 hi)
 have ha:=gp t ht;obtain⟨o1,o2,o3⟩:=qV h ha;have gj:(enW w).length=w.length:=by simp
 have hd:=qM ht;have a1:((w.getD t 0:Nat):Int)+1-1=((w.getD t 0:Nat):Int):=by omega
 have a2:(t:Int)+((yH x (w.getD t 0):Nat):Int)=((t+yH x (w.getD t 0):Nat):Int):=by omega
 obtain⟨p1,p2⟩:=zIb h hn (h.tl _ ha).1.1;have h0:yB (enW w) 0 (t:Int)=i7 (enW (w.take t)):=by have:=zDh (w:=w) (Km t) (by omega);rw[show((0:Nat):Int)=0 from rfl,U9,Jb5]at this;exact this
 have hs:∀q,q≤w.length→yB (enW w) (q:Int) (w.length:Int)=i7 (enW (w.drop q)):=fun q hq=>by rw[zDh hq (Ji _),Jr (by rw[Jz];omega)]
 have pw:swp x (w.drop t)=i8→(rng (((w.getD t 0:Nat):Int)+1-1)).bind (fun v3=>(yB (enW w) 0 (t:Int)).bind fun v4=>(ixO x.zT v3).bind fun v5=>(f_v v5).bind fun r6=>(ixO x.zA v3).bind fun v7=>(rng ((t:Int)+v7)).bind fun v8=>(yB (enW w) v8 (w.length:Int)).bind fun v9=>(f_A [v4,r6,v9]).bind fun r10=>i7 r10)=i7 (enW (w.take t++r.2.2)):=fun ma=>by
  unfold hdS at hr;rw[ma]at hr;simp only at hr;rw[hd]at hr;simp only[pws]at hr;split at hr
  ·rename_i g
   have ex:=zBw g;rw[←hd,Jz]at ex;cases hr;rw[a1,zC (by omega) (by omega),bs,h0,bs,yX [] (by rw[h.pl];exact ha),bs,p1,bs,o1,bs,a2,zC (by omega) (by omega),bs,hs _ (by omega),bs,zCA (by simp) (by simp only[Lg,Ht,J6,Jh,Ka,Jz,Jx,J7,enW];omega),bs];simp only[Lg,Ht,Je,enW,L7];rw[←hd,Jbh]
  ·cases hr
 unfold f_Z;rw[gj,zC (by omega) (by omega),bs]
 by_cases g:t+1<w.length
 ·have pA:=qM g
  have hb:=gp _ g;rw[ic (by omega),zN,tP ht,bs,bs,show(t:Int)+1=((t+1:Nat):Int)from by omega,tP g,bs]
  by_cases g2:w.getD (t+1) 0<w.getD t 0
  ·rw[hd,pA]at hr
   unfold hdS at hr;simp only[swp]at hr;rw[if_pos g2]at hr;cases hr;have cx:=h.tl _ hb;have d4:=cx.2.2 (w.getD t 0-(w.getD (t+1) 0+1)) (by have:=cx.2.1;omega);obtain⟨q1,q2⟩:=zIb h hn d4.1;have b1:((w.getD (t+1) 0:Nat):Int)+1-1=((w.getD (t+1) 0:Nat):Int):=by omega
   have b2:((w.getD t 0:Nat):Int)-((w.getD (t+1) 0:Nat):Int)-1=((w.getD t 0-(w.getD (t+1) 0+1):Nat):Int):=by omega
   rw[ic (by omega),zN,bs,a1,zC (by omega) (by omega),bs,bs,tP g,bs,b1,zC (by omega) (by omega),bs,h0,bs,zC (by omega) (by omega),bs,yX [] (by rw[h.cl];exact hb),bs,zC (by omega) (by omega),bs,b2,zC (by omega) (by omega),bs,yX [] (by have:=cx.2.1;omega),bs,q1,bs,zC (by omega) (by omega),bs,show(t:Int)+2=((t+2:Nat):Int)from by omega,hs _ (by omega),bs,zCA (by simp) (by simp only[Lg,Ht,J6,Jh,Ka,Jz,Jx,J7,enW];omega),bs];simp only[Lg,Ht,Je,enW,L7,Jo,K1,Jt]
  ·rw[ib (by omega),zS,bs]
   exact pw (by rw[hd,pA];simp only[swp];rw[if_neg g2])
 ·rw[ib (by omega),zS,tP ht,bs]
  exact pw (by rw[hd,Lx (by omega)];rfl)
end
end
end Go.Pl

namespace Go.Pl
open Go Go.Ab Go.Wk Go.Pc
def smx(p:Int)(D N:Nat)(F:Nat→Nat→Nat→Int):List zU:=gl N fun r=>zU.mk p (D:Int) (gl D fun i=>mkv D fun j=>F r i j%p)
def upd(F:Nat→Nat→Nat→Int)(s:Int)(r0:Nat)(A:Mx)(c:Nat):Nat→Nat→Nat→Int:=fun r i j=>F r i j+if r=r0∧i<c then s*ent A i j else 0
theorem zBy{β:Type}{n:Nat}{f g:Nat→β}(h:∀i,i<n→f i=g i):gl n f=gl n g:=by simp only[gl];exact Q9 fun i hi=>h i (Kq.1 hi)
section
variable {x:SPr}{m:zE}{D N:Nat}{s:Int}{r0:Nat}{A:Mx}{T0:List zU}
theorem zFA(hp:Prime m.Prime)(hD:D≤3)(hN:N≤100)(hs:-7≤s∧s≤7)(hr:r0<N)(hA:Mat m.Prime D A){F:Nat→Nat→Nat→Int}{L:(List zU)×Int→Option (((List zU)×Int)⊕(List zU))}
  (hL:L=zT2 ⟨x,m,T0⟩ s (r0:Int) (zU.mk m.Prime (D:Int) A)∨L=zT3 ⟨x,m,T0⟩ s (r0:Int) (zU.mk m.Prime (D:Int) A)∨L=zT4 ⟨x,m,T0⟩ s (r0:Int) (zU.mk m.Prime (D:Int) A)):
  zJ L (smx m.Prime D N F,0)=i7 (smx m.Prime D N (upd F s r0 A D)):=by
 have a9:=hp.pos;have fK:=hA.1;have gA:∀c,c<D→ ∀(k:Nat),(c:Int)+1=(k:Int)→((ixO A (c:Int)).bind fun v10=>(ixO (smx m.Prime D N (upd F s r0 A c)) (r0:Int)).bind fun v11=>(ixO v11.Rows (c:Int)).bind fun v12=>(f_u v12 v10 s m.Prime).bind fun r13=>(rng ((c:Int)+1)).bind fun v14=>
   (i7 (.inl ((smx m.Prime D N (upd F s r0 A c)).set (r0:Int).toNat (zU.mk v11.Prime v11.xG (v11.Rows.set (c:Int).toNat r13)),v14)):Option (((List zU)×Int)⊕(List zU))))=i7 (.inl (smx m.Prime D N (upd F s r0 A (c+1)),((c+1:Nat):Int))):=fun c hc k _=>by
  have fD:Row m.Prime D (mkv D fun j=>upd F s r0 A c r0 c j%m.Prime):=⟨yA _ _,fun j hj=>by rw[yG hj];exact⟨Kx _ (show m.Prime≠0 by omega),by have:=Kg (upd F s r0 A c r0 c j) (show 0<m.Prime by omega);omega⟩⟩
  rw[yX [] (by omega),bs,smx,zFX hr,bs];simp only
  rw[zFX hc,bs,zDb hp fD (hA.2 c hc) hs (by omega),bs,zC (by omega) (by omega),bs,Ja,Ja,zJL,zJL,cs]
  congr 3
  refine zBy fun r _=>?_
  by_cases g:r=r0
  ·rw[if_pos g,g]
   congr 1
   refine zBy fun i _=>?_
   by_cases g2:i=c
   ·rw[if_pos g2,g2,tN]
    refine yC fun j hj=>?_
    rw[yG hj,upd,upd,if_neg (fun z=>absurd z.2 (Jbk c)),if_pos ⟨rfl,Nat.lt_succ_self c⟩,Ly];show(F r0 c j%m.Prime+s*ent A c j)%m.Prime=_;rw[Int.emod_add_emod]
   ·rw[if_neg g2]
    refine yC fun j hj=>?_
    rw[upd,upd]
    by_cases g3:i<c
    ·rw[if_pos ⟨rfl,g3⟩,if_pos ⟨rfl,by omega⟩]
    ·rw[if_neg (fun z=>g3 z.2),if_neg (fun z=>g3 (by omega))]
  ·rw[if_neg g]
   congr 1
   refine zBy fun i _=>yC fun j _=>?_
   rw[upd,upd,if_neg (fun z=>g z.1),if_neg (fun z=>g z.1)]
 have:=zY (body:=L) (r:=smx m.Prime D N (upd F s r0 A D)) (fun c=>(smx m.Prime D N (upd F s r0 A c),(c:Int))) D (fun c hc=>by
  rcases hL with rfl|rfl|rfl
  ·unfold zT2
   simp only
   rw[show((A.length:Nat):Int)=(D:Int)from by rw[fK],xJ hc,zN];exact gA c hc (c+1) (by omega)
  ·unfold zT3
   simp only
   rw[show((A.length:Nat):Int)=(D:Int)from by rw[fK],xJ hc,zN];exact gA c hc (c+1) (by omega)
  ·unfold zT4
   simp only
   rw[show((A.length:Nat):Int)=(D:Int)from by rw[fK],xJ hc,zN];exact gA c hc (c+1) (by omega)) (by
  rcases hL with rfl|rfl|rfl
  ·unfold zT2
   simp only
   rw[show((A.length:Nat):Int)=(D:Int)from by rw[fK],uH,zS]
  ·unfold zT3
   simp only
   rw[show((A.length:Nat):Int)=(D:Int)from by rw[fK],uH,zS]
  ·unfold zT4
   simp only
   rw[show((A.length:Nat):Int)=(D:Int)from by rw[fK],uH,zS])
 rw[show smx m.Prime D N (upd F s r0 A 0)=smx m.Prime D N F from zBy fun r _=>by
  congr 1
  refine zBy fun i _=>yC fun j _=>?_
  rw[upd,if_neg (fun z=>Qb _ z.2),Ly]]at this
 exact this
end
theorem zSm:∀n:Nat,n<7→ ∀j:Nat,j<n→ ∀i:Nat,i<j→((rng ((n:Int)-1)).bind fun v10=>(rng ((i:Int)*v10)).bind fun v11=>(rng ((n:Int)+v11)).bind fun v12=>(rng ((i:Int)-1)).bind fun v13=>(rng ((i:Int)*v13)).bind fun v14=>(tH v14 2).bind fun v15=>(rng (v12-v15)).bind fun v16=>(rng (v16+(j:Int))).bind fun v17=>(rng (v17-(i:Int))).bind fun v18=>(rng (v18-1)).bind fun v19=>i7 v19)=i7 ((base n i+(j-(i+1)):Nat):Int):=by decide+kernel
end Go.Pl

namespace Go.Pl
open Go Go.Ab Go.Wk Go.Pc
section
variable {x:SPr}{m:zE}{D:Nat}{T0:List zU} (h:Pres x) (hn:x.zA.length≤6) (hD:MOk x.zA.length m D)
 include h hn
theorem zGh{w:List Nat}(hw:∀a∈w,a<x.zA.length)(hl:w.length≤900000){t:Nat}{r:zDY}(ht:t<w.length)(hr:hdS x (w.drop t)=i7 r):zVc ⟨x,m,T0⟩ (enW w) (t:Int)=i7 (r.1:Int):=by
 have _:=h;have gp:∀i,i<w.length→w.getD i 0<x.zA.length:=fun i hi=>hw _ (by rw[J2,J4 hi];exact K9 hi)
 have ha:=gp t ht;have gj:(enW w).length=w.length:=by simp
 have hd:=qM ht;have a1:((w.getD t 0:Nat):Int)+1-1=((w.getD t 0:Nat):Int):=by omega
 have pw:swp x (w.drop t)=i8→(rng (((w.getD t 0:Nat):Int)+1-1)).bind (fun v3=>i7 v3)=i7 (r.1:Int):=fun ma=>by
  unfold hdS at hr;rw[ma]at hr;simp only at hr;rw[hd]at hr;simp only[pws]at hr;split at hr
  ·cases hr
   rw[a1,zC (by omega) (by omega),bs]
  ·cases hr
 unfold zVc;rw[gj,zC (by omega) (by omega),bs]
 by_cases g:t+1<w.length
 ·have pA:=qM g
  have hb:=gp _ g;rw[ic (by omega),zN,tP ht,bs,bs,show(t:Int)+1=((t+1:Nat):Int)from by omega,tP g,bs]
  by_cases g2:w.getD (t+1) 0<w.getD t 0
  ·rw[hd,pA]at hr
   unfold hdS at hr;simp only[swp]at hr;rw[if_pos g2]at hr;cases hr;have b1:((w.getD (t+1) 0:Nat):Int)+1-1=((w.getD (t+1) 0:Nat):Int):=by omega
   rw[ic (by omega),zN,bs,a1,zC (n:=((w.getD t 0:Nat):Int)) (by omega) (by omega),bs,bs,tP g,bs,b1,zC (n:=((w.getD (t+1) 0:Nat):Int)) (by omega) (by omega),bs];exact zSm x.zA.length (by omega) (w.getD t 0) ha (w.getD (t+1) 0) g2
  ·rw[ib (by omega),zS,bs]
   exact pw (by rw[hd,pA];simp only[swp];rw[if_neg g2])
 ·rw[ib (by omega),zS,tP ht,bs]
  exact pw (by rw[hd,Lx (by omega)];rfl)
 include hD
theorem zFB{w:List Nat}(hw:∀a∈w,a<x.zA.length)(hl:w.length≤60000){t:Nat}{r:zDY}(ht:t<w.length)(hr:hdS x (w.drop t)=i7 r){s:Int}(hs:-7≤s∧s≤7){F:Nat→Nat→Nat→Int}:
  f_j ⟨x,m,smx m.Prime D (base x.zA.length x.zA.length) F⟩ (enW w) (t:Int) s=i7 (enW (w.take t++r.2.2),⟨x,m,smx m.Prime D (base x.zA.length x.zA.length) (upd F s r.1 (wM m.Prime D m.zH r.2.1 (idM D)) D)⟩):=by
 have hp:=hD.p.pos;have h3:=hD.d3;have cR:=uC x.zA.length (by omega);have gp:∀i,i<w.length→w.getD i 0<x.zA.length:=fun i hi=>hw _ (by rw[J2,J4 hi];exact K9 hi)
 have ha:=gp t ht;obtain⟨o1,o2,o3⟩:=qV h ha;have gj:(enW w).length=w.length:=by simp
 have hd:=qM ht;have a1:((w.getD t 0:Nat):Int)+1-1=((w.getD t 0:Nat):Int):=by omega
 have a2:(t:Int)+((yH x (w.getD t 0):Nat):Int)=((t+yH x (w.getD t 0):Nat):Int):=by omega
 have dK:=zVJ hn (fun a ha=>hw a (Um ha)) hr;have hA:∀z,Mat m.Prime D (wM m.Prime D m.zH z (idM D)):=fun z=>zBG (by omega) _ (tM (by omega))
 have gI:∀q,q≤w.length→yB (enW w) (q:Int) (w.length:Int)=i7 (enW (w.drop q)):=fun q hq=>by rw[zDh hq (Ji _),Jr (by rw[Jz];omega)]
 have bn:∀q,q≤w.length→f_B m (enW (w.drop q))=i7 (zU.mk m.Prime (D:Int) (wM m.Prime D m.zH (w.drop q) (idM D))):=fun q hq=>
  zAV hD (by omega) (fun a ha=>hw a (Um ha)) (by rw[Jz];omega)
 have pw:swp x (w.drop t)=i8→r.2.1=w.drop (t+yH x (w.getD t 0))∧t+yH x (w.getD t 0)≤w.length:=fun ma=>by
  unfold hdS at hr;rw[ma]at hr;simp only at hr;rw[hd]at hr;simp only[pws]at hr;split at hr
  ·rename_i g
   have ex:=zBw g;rw[←hd,Jz]at ex;cases hr;exact⟨by rw[←hd,Jbh],by omega⟩
  ·cases hr
 unfold f_j;rw[zGh h hn hw (by omega) ht hr,bs,zCG h hn hw (by omega) ht hr,bs,gj,zC (by omega) (by omega),bs]
 by_cases g:t+1<w.length
 ·have pA:=qM g
  have hb:=gp _ g;rw[ib (by omega),zS,tP ht,bs,bs,show(t:Int)+1=((t+1:Nat):Int)from by omega,tP g,bs]
  by_cases g2:w.getD (t+1) 0<w.getD t 0
  ·rw[hd,pA]at hr
   unfold hdS at hr;simp only[swp]at hr;rw[if_pos g2]at hr;cases hr;rw[ib (by omega),zS,zC (by omega) (by omega),bs,show(t:Int)+2=((t+2:Nat):Int)from by omega,gI _ (by omega),bs,bn _ (by omega),bs,zFA hD.p h3 (by omega) hs dK (hA _) (.inr (.inr rfl)),bs]
  ·obtain⟨e1,e2⟩:=pw (by rw[hd,pA];simp only[swp];rw[if_neg g2])
   rw[ic (by omega),zN,bs,a1,zC (by omega) (by omega),bs,o1,bs,a2,zC (by omega) (by omega),bs,gI _ e2,bs,bn _ e2,bs,zFA hD.p h3 (by omega) hs dK (hA _) (.inr (.inl rfl)),bs,e1]
 ·obtain⟨e1,e2⟩:=pw (by rw[hd,Lx (by omega)];rfl)
  rw[ic (by omega),zN,tP ht,bs,a1,zC (by omega) (by omega),bs,o1,bs,a2,zC (by omega) (by omega),bs,gI _ e2,bs,bn _ e2,bs,zFA hD.p h3 (by omega) hs dK (hA _) (.inl rfl),bs,e1]
end
end Go.Pl

namespace Go.Pl
open Go Go.Ab Go.Wk Go.Pc
inductive Cb (x:SPr) (M:Nat):List Nat→Trc→List Nat→Prop where
 |refl (w:List Nat) (hl:w.length≤M) (hw:∀a∈w,a<x.zA.length):Cb x M w [] w
 |step {w w1 w' s:List Nat}{r:Nat}{tr:Trc} (hl:w.length≤M) (hw:∀a∈w,a<x.zA.length) (hs:stS x w=i7 (r,s,w1)) (h:Cb x M w1 tr w'):Cb x M w ((r,s)::tr) w'
theorem Cb.st{x:SPr}{M:Nat}{w w':List Nat}{tr:Trc}(h:Cb x M w tr w'):w.length≤M∧ ∀a∈w,a<x.zA.length:=by
 cases h with
 |refl _ hl hw=>exact⟨hl,hw⟩
 |step hl hw _ _=>exact⟨hl,hw⟩
def zDt(m:zE)(D:Nat)(s:Int):(Nat→Nat→Nat→Int)→Trc→Nat→Nat→Nat→Int
 |F,[]=>F
 |F,(r,z)::tr=>zDt m D s (upd F s r (wM m.Prime D m.zH z (idM D)) D) tr
theorem zKh{m:zE}{D:Nat}{s:Int}{r i j:Nat}(hi:i<D):∀(tr:Trc)(F:Nat→Nat→Nat→Int),zDt m D s F tr r i j=F r i j+s*zAY m.Prime D m tr r i j
 | [],F=>by rw[zDt,zAY,Lb,Ly]
 |(q,z)::tr,F=>by
  rw[zDt,zKh hi tr,upd,zAY,Jck,Int.add_assoc]
  congr 2
  by_cases g:q=r
  ·rw[if_pos g,if_pos ⟨g.symm,hi⟩]
  ·rw[if_neg g,if_neg fun z=>g z.1.symm,Lb]
abbrev zNt(x:SPr)(w:List Nat):Int:=match stI x w with
 |some z=>(z.1:Int)
 |none=> -1
section
variable {x:SPr}{m:zE}{D:Nat} (h:Pres x) (hn:x.zA.length≤6) (hD:MOk x.zA.length m D)
 include h hn hD
theorem zKi{s:Int}(hs:-7≤s∧s≤7){w w':List Nat}{tr:Trc}(hc:Cb x 60000 w tr w')(eE:stS x w'=i8):∀F:Nat→Nat→Nat→Int,
  zJ (zQl s) (x,m,smx m.Prime D (base x.zA.length x.zA.length) F,enW w,zNt x w)=i7 (x,m,smx m.Prime D (base x.zA.length x.zA.length) (zDt m D s F tr)):=by
 induction hc with
 |refl w hl hw=>
  intro F;have e:zNt x w= -1:=by
   rw[zKg]at eE;unfold zNt;cases g:stI x w with
   |none=>rfl
   |some z=>rw[g]at eE;cases eE
  rw[xT,e];unfold zQl;simp only
  rw[ib (by omega),zS];rfl
 |step hl hw gA hc ih=>
  rename_i w w1 w2 z r tr;intro F;rw[zKg]at gA;cases g:stI x w with
  |none=>rw[g]at gA;cases gA
  |some q=>
   rw[g]at gA;obtain⟨t,q⟩:=q;simp only[H0,Lq.injEq,Jaj.injEq]at gA;obtain⟨e1,e2,e3⟩:=gA;obtain⟨ht,hh⟩:=zON g;simp only at ht hh;have fb:=hc.st;have e:zNt x w=(t:Int):=by unfold zNt;rw[g]
   have h1:=zFB h hn hD hw hl ht hh hs (F:=F);rw[e3,e1,e2]at h1;have h2:=zBx h fb.2 (by omega);rw[xT,e];have hb:zQl s (x,m,smx m.Prime D (base x.zA.length x.zA.length) F,enW w,(t:Int))=i7 (.inl (x,m,smx m.Prime D (base x.zA.length x.zA.length) (upd F s r (wM m.Prime D m.zH z (idM D)) D),enW w1,zNt x w1)):=by
    unfold zQl;simp only
    rw[ic (by omega),zN];refine(congrArg (fun o=>Hp o _) h1).trans ?_;rw[bs];simp only
    rw[h2,bs]
    try rfl
   rw[hb];simp only
   exact ih eE _
theorem zER{s:Int}(hs:-7≤s∧s≤7){w w':List Nat}{tr:Trc}(hc:Cb x 60000 w tr w')(eE:stS x w'=i8)(F:Nat→Nat→Nat→Int):
  f_q ⟨x,m,smx m.Prime D (base x.zA.length x.zA.length) F⟩ (enW w) s=i7 ⟨x,m,smx m.Prime D (base x.zA.length x.zA.length) (zDt m D s F tr)⟩:=by
 have fb:=hc.st;unfold f_q;rw[show f_P (xL.p ⟨x,m,smx m.Prime D (base x.zA.length x.zA.length) F⟩) (enW w)=i7 (zNt x w)from zBx h fb.2 (by omega),bs];have:=zKi h hn hD hs hc eE F;refine(congrArg (fun o=>Hp o _) this).trans ?_;rw[bs]
end
end Go.Pl

namespace Go.Pl
open Go Go.Ab Go.Wk Go.Pc
inductive Cl (x:SPr) (k M:Nat):List Nat→Trc→List Nat→Prop where
 |refl (w:List Nat) (hl:w.length≤M) (hw:∀a∈w,k≤a∧a<x.zA.length):Cl x k M w [] w
 |step {w w1 w' s:List Nat}{r:Nat}{tr:Trc} (hl:w.length≤M) (hw:∀a∈w,k≤a∧a<x.zA.length) (hs:stS x w=i7 (r,s,w1)) (h:Cl x k M w1 tr w'):Cl x k M w ((r,s)::tr) w'
theorem Cl.trans{x:SPr}{k M:Nat}{w w1 w2:List Nat}{t1 t2:Trc}(h:Cl x k M w t1 w1)(h2:Cl x k M w1 t2 w2):Cl x k M w (t1++t2) w2:=by
 induction h with
 |refl w=>exact h2
 |step hl hw hs _ ih=>exact .step hl hw hs (ih h2)
theorem Cl.mono{x:SPr}{k M M2:Nat}(hM:M≤M2){w w':List Nat}{tr:Trc}(h:Cl x k M w tr w'):Cl x k M2 w tr w':=by
 induction h with
 |refl w hl hw=>exact .refl _ (by omega) hw
 |step hl hw hs _ ih=>exact .step (by omega) hw hs ih
theorem Cl.cb{x:SPr}{k M:Nat}{w w':List Nat}{tr:Trc}(h:Cl x k M w tr w'):Cb x M w tr w':=by
 induction h with
 |refl w hl hw=>exact .refl _ hl fun a ha=>(hw a ha).2
 |step hl hw hs _ ih=>exact .step hl (fun a ha=>(hw a ha).2) hs ih
theorem Cl.col{x:SPr}{k M:Nat}{w w':List Nat}{tr:Trc}(h:Cl x k M w tr w'):Col x k w tr w':=by
 induction h with
 |refl w hl hw=>exact .refl _
 |step hl hw hs _ ih=>exact .step hw hs ih
section
variable {x:SPr} (h:Pres x)
 include h
theorem zOO:∀(d k:Nat),k+d=x.zA.length→ ∀y,V (suf x k) y→(nw k y).length≤6*d
 |0,k,hk,y,hy=>by
  rw[vO (x:=x) (k:=k) (by omega)]at hy;cases y with
  |nil=>simp[nw]
  |cons b y=>cases hy
 |d+1,k,hk,y,hy=>by
  have hp:=(h.os.2 k (by omega)).pos;rw[yE (x:=x) (by omega)]at hy;cases y with
  |nil=>exact hy.elim
  |cons b y=>
   obtain⟨⟨h1,h2⟩,h3⟩:=hy;have ih:=zOO d (k+1) (by omega) y h3;have cr:b<at0 x.zA k:=h2;simp only[nw,J6,Jf];omega
theorem Cl.ctx{i a M:Nat}(hi:i<x.zA.length)(ha:a<yH x i){s:List Nat}(hs:∀b∈s,i≤b∧b<x.zA.length){w w':List Nat}{tr:Trc}(hc:Cl x (i+1) M w tr w'):
  Cl x i (a+M+s.length) (J1 a i++(w++s)) (tr.map fun q=>(q.1,q.2++s)) (J1 a i++(w'++s)):=by
 have mem:∀{w:List Nat},(∀b∈w,i+1≤b∧b<x.zA.length)→ ∀b∈J1 a i++(w++s),i≤b∧b<x.zA.length:=fun hw b hb=>by
  simp only[Jd]at hb;rcases hb with hb|hb|hb
  ·have:=Kb hb;omega
  ·have:=hw b hb;omega
  ·exact hs b hb
 induction hc with
 |refl w hl hw=>exact .refl _ (by simp;omega) (mem hw)
 | @step w w1 w' s1 r tr hl hw gA _ ih=>
  refine .step (by simp;omega) (mem hw) ?_ ih;rw[zDZ ha a (Ji _) fun b hb=>?_,zJU (fun b hb=>zJX h (hw b hb).2) gA]
  ·rfl
  ·cases w with
   |nil=>cases gA
   |cons c w=>
    simp only[K1,Qj,Lq.injEq]at hb;have:=hw c (by simp);omega
theorem zKj(hn:x.zA.length≤6){i j:Nat}(hi:i<j)(hj:j<x.zA.length):(nw 0 (lcj x i j)).length≤36:=(zIb h hn (uD h hi hj).1).2
theorem zOP(hn:x.zA.length≤6){i:Nat}:∀{ur:List Nat},(∀b∈ur,i+1≤b∧b<x.zA.length)→(cwd x i ur).length≤36*ur.length
 | [],_=>by simp[cwd]
 |l::ur,hu=>by
  have h1:=hu l (by simp);have h2:=zKj h hn (show i<l by omega) h1.2;have ih:=zOP hn (ur:=ur) fun b hb=>hu b (by simp[hb])
  simp only[cwd,J6,J7];omega
theorem Cl.move(hn6:x.zA.length≤6){i a:Nat}(hi:i<x.zA.length)(ha:a<yH x i):∀{ur:List Nat},(∀b∈ur,i+1≤b∧b<x.zA.length)→stS x ur.reverse=i8→ ∀{z:List Nat},(∀b∈z,i≤b∧b<x.zA.length)→
  Cl x i (a+1+37*ur.length+z.length) (J1 a i++(ur.reverse++i::z)) (mtr x i ur z) (J1 (a+1) i++(cwd x i ur++z))
 | [],_,_,z,hz=>by
  have e:J1 a i++(([]:List Nat).reverse++i::z)=J1 (a+1) i++(cwd x i []++z):=by rw[Lu];simp[cwd]
  rw[e];refine .refl _ (by simp[cwd]) fun b hb=>?_
  simp only[Jd,cwd,Jt]at hb;rcases hb with hb|hb
  ·have:=Kb hb;omega
  ·exact hz b hb
 |l::ur,hu,hn,z,hz=>by
  obtain⟨l1,l2⟩:=hu l (by simp);have fM:∀b∈ur,i+1≤b∧b<x.zA.length:=fun b hb=>hu b (by simp[hb])
  have cM:=sP h (uD h (show i<l by omega) l2) hi;have mZ:=zKj h hn6 (show i<l by omega) l2;rw[Ug]at hn ⊢
  have mV:=zFY (fun b hb=>zJX h (fM b (by simpa using hb)).2) hn;have eJ:∀b∈nw 0 (lcj x i l)++z,i≤b∧b<x.zA.length:=fun b hb=>by
   simp only[Jd]at hb;rcases hb with hb|hb
   ·have:=cM.2 b hb;omega
   ·exact hz b hb
  have ih:=(Cl.move hn6 hi ha fM mV eJ).mono (M2:=a+1+37*(l::ur).length+z.length) (by rw[J6,J7];omega);rw[show cwd x i (l::ur)++z=cwd x i ur++(nw 0 (lcj x i l)++z)from by simp[cwd]];have e1:ur.reverse++[l]++i::z=ur.reverse++l::i::z:=by simp
  rw[e1];refine .step (by simp;omega) (fun b hb=>?_) ?_ ih
  ·simp only[Jd,J8,Jbv]at hb
   rcases hb with hb|hb|hb|hb|hb
   ·have:=Kb hb;omega
   ·have:=fM b hb;omega
   ·omega
   ·omega
   ·exact hz b hb
  ·rw[zDZ ha a (Ji _) fun b hb=>?_,zRT (fun b hb=>by have:=fM b (by simpa using hb);omega) (by omega) hn]
   ·rfl
   ·have:b∈ur.reverse++l::i::z:=Jb1 (by rw[hb];rfl)
    cases e:ur.reverse with
    |nil=>rw[e]at hb;simp only[Jt,Qj,Lq.injEq]at hb;omega
    |cons c t=>
     rw[e]at hb;simp only[K1,Qj,Lq.injEq]at hb;have:=fM c (by rw[←Jbv,e];simp);omega
end
end Go.Pl

namespace Go.Pl
open Go Go.Ab Go.Wk Go.Pc
section
variable {x:SPr} (h:Pres x) (hn:x.zA.length≤6)
 include h hn
theorem zKk{k M W L:Nat}(hk:k<x.zA.length)(P:∀v:List Nat,v.length≤W→(∀a∈v,k+1≤a∧a<x.zA.length)→ ∃tr y,Cl x (k+1) M v tr (nw (k+1) y)∧V (suf x (k+1)) y):∀(z:List Nat),z.length≤L→(∀a∈z,k≤a∧a<x.zA.length)→ ∀(a:Nat),a<yH x k→ ∀(v:List Nat),v.length+z.length≤W→1400+z.length≤W→(∀a∈v,k+1≤a∧a<x.zA.length)→
  ∃tr y,Cl x k (M+L+1500) (J1 a k++(v++z)) tr (nw k y)∧V (suf x k) y
 | [],_,_,a,ha,v,p5,_,hv=>by
  obtain⟨tr,y,c1,c2⟩:=P v (by simpa using p5) hv;have ho:=(qV h hk).2.2;have hc:=(Cl.ctx h hk ha (s:=[]) (fun b hb=>by simp at hb) c1).mono (M2:=M+L+1500) (by simp;omega);rw[show(fun q:Nat×List Nat=>(q.1,q.2++[]))=id from by funext q;simp,List.map_id,Je,Je]at hc;refine⟨tr,(a:Int)::y,?_,?_⟩
  ·simp only[nw,Ja];rw[Je];exact hc
  ·rw[yE hk]
   refine⟨⟨by omega,?_⟩,c2⟩;show(a:Int)<at0 x.zA k;have:a<(at0 x.zA k).toNat:=ha;omega
 |l::z,mo,hz,a,ha,v,p5,hW,hv=>by
  have ho:=(qV h hk).2.2;have hzl2:z.length+1≤L:=by simpa using mo
  have pJ:v.length+(z.length+1)≤W:=by simpa using p5
  have hW2:1400+(z.length+1)≤W:=by simpa using hW
  have eJ:∀b∈z,k≤b∧b<x.zA.length:=fun b hb=>hz b (by simp[hb])
  obtain⟨l1,l2⟩:=hz l (by simp);rcases Jj k l with g|g
  ·obtain⟨tr,y,c1,c2⟩:=zKk (L:=L) hk P z (by omega) eJ a ha (v++[l]) (by simp;omega) (by omega) (fun b hb=>by
    simp only[Jd,List.mem_singleton]at hb;rcases hb with hb|rfl
    ·exact hv b hb
    ·omega)
   exact⟨tr,y,by rw[Jc]at c1;exact c1,c2⟩
  ·obtain rfl:l=k:=by omega
   obtain⟨tr1,y1,c1,c2⟩:=P v (by omega) hv;have gU:=zOD h (show l+1≤x.zA.length by omega) c2;have cP:∀b∈(nw (l+1) y1).reverse,l+1≤b∧b<x.zA.length:=fun b hb=>gU b (by simpa using hb)
   have ff:(nw (l+1) y1).length≤36:=by have:=zOO h (x.zA.length-(l+1)) (l+1) (by omega) y1 c2;omega
   have gE:(cwd x l (nw (l+1) y1).reverse).length≤1296:=by have:=zOP h hn cP;rw[Jal]at this;omega
   have k1:=(Cl.ctx h hk ha (s:=l::z) hz c1).mono (M2:=M+L+1500) (by simp;omega);have k2:=(Cl.move h hn hk ha cP (by rw[Ki];exact zF9 h _ _ (by omega:l+1+(x.zA.length-(l+1))=x.zA.length) y1 c2) eJ).mono (M2:=M+L+1500) (by rw[Jal];omega);rw[Ki]at k2;have cX:=zJY h cP;rcases Jj (a+1) (yH x l)with g2|g2
   ·obtain⟨tr2,y2,d1,d2⟩:=zKk (L:=L) hk P z (by omega) eJ (a+1) g2 (cwd x l (nw (l+1) y1).reverse) (by omega) (by omega) cX
    exact⟨_,y2,k1.trans (k2.trans d1),d2⟩
   ·have g4:a+1=yH x l:=by omega
    have cV:=jG h hk;have pu:=sP h cV hk;have po:=(zIb h hn cV.1).2;have aN:∀b∈nw 0 (x.zT.getD l [])++cwd x l (nw (l+1) y1).reverse,l+1≤b∧b<x.zA.length:=fun b hb=>by
     simp only[Jd]at hb;rcases hb with hb|hb
     ·exact pu.2 b hb
     ·exact cX b hb
    obtain⟨tr2,y2,d1,d2⟩:=zKk (L:=L) hk P z (by omega) eJ 0 (by omega) _ (by rw[J6];omega) (by omega) aN;rw[Hk,Jt,Jc]at d1;have k3:Cl x l (M+L+1500) (J1 (a+1) l++(cwd x l (nw (l+1) y1).reverse++z)) ((l,cwd x l (nw (l+1) y1).reverse++z)::tr2) (nw l y2):=by
     refine .step (by rw[J6,J6,Jf];omega) (fun b hb=>?_) (by rw[g4];exact zV5 (zJX h hk) _) d1;simp only[Jd]at hb;rcases hb with hb|hb|hb
     ·have:=Kb hb;omega
     ·have:=cX b hb;omega
     ·exact eJ b hb
    exact⟨_,y2,k1.trans (k2.trans k3),d2⟩
def lnB:Nat→Nat→Nat
 |0,l=>l
 |d+1,l=>lnB d (l+1400)+l+1500
theorem zVL:∀(d k:Nat),k+d=x.zA.length→ ∀(L:Nat)(z:List Nat),z.length≤L→(∀a∈z,k≤a∧a<x.zA.length)→ ∃tr y,Cl x k (lnB d L) z tr (nw k y)∧V (suf x k) y
 |0,k,hk,L,z,_,hz=>by
  have:z=[]:=by
   cases z with
   |nil=>rfl
   |cons a z=>have:=hz a (by simp);omega
  subst this;exact⟨[],[],.refl _ (by simp) (by simp),by rw[vO (x:=x) (k:=k) (by omega)];rfl⟩
 |d+1,k,hk,L,z,hl,hz=>by have ho:=zJX h (show k<x.zA.length by omega);obtain⟨tr,y,c1,c2⟩:=zKk h hn (M:=lnB d (L+1400)) (W:=L+1400) (L:=L) (show k<x.zA.length by omega) (fun v hv hvm=>zVL d (k+1) (by omega) (L+1400) v hv hvm) z hl hz 0 (by omega) [] (by simp;omega) (by omega) (fun b hb=>by simp at hb);exact⟨tr,y,by simpa[lnB]using c1,c2⟩
theorem zOQ{k L:Nat}(hk:k≤x.zA.length){z:List Nat}(hl:z.length≤L){tr:Trc}{y:Vec}(hc:qH x k z tr y)(hz:∀a∈z,k≤a∧a<x.zA.length):Cb x (lnB (x.zA.length-k) L) z tr (nw k y)∧stS x (nw k y)=i8:=by obtain⟨tr2,y2,c1,c2⟩:=zVL h hn (x.zA.length-k) k (by omega) L z hl hz;have n1:=zF9 h (x.zA.length-k) k (by omega) y hc.v;have n2:=zF9 h (x.zA.length-k) k (by omega) y2 c2;obtain⟨e1,e2⟩:=Col.det hc.col c1.col n1 n2;rw[e1,e2];exact⟨c1.cb,n2⟩
end
theorem zXk:∀d:Nat,d<7→lnB d 100≤60000:=by decide
end Go.Pl

namespace Go.Pl
open Go Go.Ab Go.Wk Go.Pc
structure PD.Ok (x:SPr) (d:PD):Prop where
 h1:hdS x (d.wd.drop 0)=i7 (d.r1,d.s1,d.w1)
 ht:d.t<d.wd.length
 h2:∃q,hdS x (d.wd.drop d.t)=i7 (d.r2,d.s2,q)∧d.w2=d.wd.take d.t++q
 l:d.wd.length≤9
 l1:d.w1.length≤100
 l2:d.w2.length≤100
 m1:∀a∈d.w1,d.k≤a∧a<x.zA.length
 m2:∀a∈d.w2,d.k≤a∧a<x.zA.length
section
variable {x:SPr} (h:Pres x) (hn:x.zA.length≤6)
 include h hn
theorem zOR{a b:Nat}{s:List Nat}(bK:b<a):hdS x (a::b::s)=i7 (base x.zA.length b+(a-(b+1)),s,b::(nw 0 (lcj x b a)++s)):=by have _:=h;have _:=hn;unfold hdS;simp only[swp];rw[if_pos bK]
theorem zOS{a:Nat}{s:List Nat}(ha:a<x.zA.length):hdS x (J1 (yH x a) a++s)=i7 (a,s,nw 0 (x.zT.getD a [])++s):=by
 have _:=hn;obtain⟨q,hq⟩:∃q,yH x a=q+2:=⟨yH x a-2,by have:=(qV h ha).2.1;omega⟩;have e:swp x (J1 (yH x a) a++s)=i8:=by rw[hq,Jp,Jp];simp only[K1,swp];rw[if_neg (Jbk a)]
 unfold hdS;rw[e];have e2:J1 (yH x a) a++s=a::(J1 (q+1) a++s):=by rw[hq,Jp];rfl
 have e3:(J1 (yH x a) a++s).take (yH x a)=J1 (yH x a) a:=Js (Jf);have e4:(J1 (yH x a) a++s).drop (yH x a)=s:=K3 (Jf);rw[e2]at e3 e4;rw[e2];simp only[pws];rw[if_pos e3,e4]
theorem zKl:∀d∈cps x,d.Ok x:=by
 have eC:∀i j,i<j→j<x.zA.length→ ∀a∈nw 0 (lcj x i j),i+1≤a∧a<x.zA.length:=fun i j hi hj=>(sP h (uD h hi hj) (by omega)).2
 have eH:∀i,i<x.zA.length→ ∀a∈nw 0 (x.zT.getD i []),i+1≤a∧a<x.zA.length:=fun i hi=>(sP h (jG h hi) hi).2
 have lcon:∀i j,i<j→j<x.zA.length→(nw 0 (lcj x i j)).length≤36:=fun i j hi hj=>zKj h hn hi hj
 have lpow:∀i,i<x.zA.length→(nw 0 (x.zT.getD i [])).length≤36:=fun i hi=>(zIb h hn (jG h hi).1).2
 have od:∀i,i<x.zA.length→2≤yH x i∧yH x i≤7:=fun i hi=>(qV h hi).2
 refine zAK.2 ⟨fun i j k h1 h2 h3=>?_,fun i j h1 h2=>?_,fun i j h1 h2=>?_,fun i h1=>?_⟩
 ·have c1:=lcon j k h2 h3
  have c2:=lcon i j h1 (by omega);refine⟨zOR h hn h2,by simp[pd2],⟨i::(nw 0 (lcj x i j)++[]),zOR h hn h1,by simp[pd2]⟩,by simp[pd2],by simp only[pd2,J7,J6,Jx];omega,by simp only[pd2,J7];omega,fun a ha=>?_,fun a ha=>?_⟩
  ·simp only[pd2,J8,Jd,Jar,or_false]at ha ⊢
   rcases ha with rfl|ha|rfl
   ·omega
   ·have:=eC j k (by omega) h3 a ha;omega
   ·omega
  ·simp only[pd2,J8]at ha ⊢
   rcases ha with rfl|rfl|ha
   ·omega
   ·omega
   ·have:=eC i j (by omega) (by omega) a ha;omega
 ·have c1:=lpow j h2
  have c2:=lcon i j h1 h2;have o:=od j h2;have e:J1 (yH x j) j++[i]=J1 (yH x j-1) j++[j,i]:=by obtain⟨q,hq⟩:∃q,yH x j=q+1:=⟨yH x j-1,by omega⟩;rw[hq,Lu,Jaz,Jc];rfl
  refine⟨zOS h hn h2,by simp only[pd1,J6,Jf,J7,Jx];omega,⟨i::(nw 0 (lcj x i j)++[]),?_,?_⟩,by simp only[pd1,J6,Jf,J7,Jx];omega,by simp only[pd1,J7,J6,Jx];omega,by simp only[pd1,J6,Jf,J7];omega,fun a ha=>?_,fun a ha=>?_⟩
  ·show hdS x ((J1 (yH x j) j++[i]).drop (yH x j-1))=_
   rw[e,K3 (Jf)];exact zOR h hn h1
  ·show _=(J1 (yH x j) j++[i]).take (yH x j-1)++_
   rw[e,Js (Jf),Je];rfl
  ·simp only[pd1,Jd,List.mem_singleton]at ha ⊢
   rcases ha with ha|rfl
   ·have:=eH j h2 a ha;omega
   ·omega
  ·simp only[pd1,Jd,J8]at ha ⊢
   rcases ha with ha|rfl|ha
   ·have:=Kb ha;omega
   ·omega
   ·have:=eC i j h1 h2 a ha;omega
 ·have c1:=lpow i (by omega)
  have c2:=lcon i j h1 h2;have o:=od i (by omega);have e:J1 (yH x i) i=i::J1 (yH x i-1) i:=by obtain⟨q,hq⟩:∃q,yH x i=q+1:=⟨yH x i-1,by omega⟩;rw[hq,Jp,Jaz]
  refine⟨?_,by simp only[pd4,Jf,J7];omega,⟨nw 0 (x.zT.getD i [])++[],?_,by simp[pd4]⟩,by simp only[pd4,Jf,J7];omega,by simp only[pd4,J7,J6,Jf];omega,by simp only[pd4,J7];omega,fun a ha=>?_,fun a ha=>?_⟩
  ·show hdS x (j::J1 (yH x i) i)=_
   rw[e];exact zOR h hn h1
  ·show hdS x (J1 (yH x i) i)=_
   have:=zOS h hn (s:=[]) (show i<x.zA.length by omega);rw[Je]at this;exact this
  ·simp only[pd4,J8,Jd]at ha ⊢
   rcases ha with rfl|ha|ha
   ·omega
   ·have:=eC i j h1 h2 a ha;omega
   ·have:=Kb ha;omega
  ·simp only[pd4,J8]at ha ⊢
   rcases ha with rfl|ha
   ·omega
   ·have:=eH i (by omega) a ha;omega
 ·have c1:=lpow i h1
  have o:=od i h1;refine⟨?_,by simp only[pd3,Jf];omega,⟨nw 0 (x.zT.getD i [])++[],?_,?_⟩,by simp only[pd3,Jf];omega,by simp only[pd3,J7,J6,Jx];omega,by simp only[pd3,J7];omega,fun a ha=>?_,fun a ha=>?_⟩
  ·show hdS x (J1 (yH x i+1) i)=_
   rw[Lu];exact zOS h hn h1
  ·show hdS x ((J1 (yH x i+1) i).drop 1)=_
   rw[Jp,List.drop_succ_cons,U9];have:=zOS h hn (s:=[]) h1;rw[Je]at this;exact this
  ·show i::nw 0 (x.zT.getD i [])=(J1 (yH x i+1) i).take 1++_
   rw[Jp,Je];rfl
  ·simp only[pd3,Jd,List.mem_singleton]at ha ⊢
   rcases ha with ha|rfl
   ·have:=eH i h1 a ha;omega
   ·omega
  ·simp only[pd3,J8]at ha ⊢
   rcases ha with rfl|ha
   ·omega
   ·have:=eH i h1 a ha;omega
end
end Go.Pl

namespace Go.Pl
open Go Go.Ab Go.Wk Go.Pc
section
variable {x:SPr}{m:zE}{D:Nat} (h:Pres x) (hn:x.zA.length≤6) (hD:MOk x.zA.length m D)
 include h hn hD
theorem zPF{d:PD}(hd:d∈cps x){t1 t2:Trc}(hb:d.B x t1 t2)(F:Nat→Nat→Nat→Int):
  ((f_j ⟨x,m,smx m.Prime D (base x.zA.length x.zA.length) F⟩ (enW d.wd) ((0:Nat):Int) 1).bind fun r=>(f_q r.2 r.1 1).bind fun k2=>(f_j k2 (enW d.wd) (d.t:Int) (-1)).bind fun r3=>f_q r3.2 r3.1 (-1))=
   i7 ⟨x,m,smx m.Prime D (base x.zA.length x.zA.length) (zDt m D (-1) (zDt m D 1 F t1) t2)⟩:=by
 have ok:=zKl h hn d hd;obtain⟨hk,mw,_⟩:=zGy h hn d hd;obtain⟨⟨u1,y1,rfl,k1⟩,⟨u2,y2,rfl,k2⟩⟩:=hb;obtain⟨q,q1,q2⟩:=ok.h2;have hl:=ok.l;have ht:=ok.ht;obtain⟨c1,n1⟩:=zOQ h hn (by omega) ok.l1 k1 ok.m1;obtain⟨c2,n2⟩:=zOQ h hn (by omega) ok.l2 k2 ok.m2;have up:∀{w w':List Nat}{tr:Trc},Cb x (lnB (x.zA.length-d.k) 100) w tr w'→Cb x 60000 w tr w':=fun{w w' tr} hc=>by
  have hM:=zXk (x.zA.length-d.k) (by omega)
  generalize lnB (x.zA.length-d.k) 100=M at hc hM
  induction hc with
  |refl w hl hw=>exact .refl _ (by omega) hw
  |step hl hw hs _ ih=>exact .step (by omega) hw hs ih
 rw[zFB h hn hD mw (by omega) (by omega) ok.h1 (s:=1) (by omega) (F:=F),bs];simp only[K8,Jt];rw[zER h hn hD (by omega) (up c1) n1,bs,zFB h hn hD mw (by omega) ht q1 (s:=-1) (by omega),bs];simp only
 rw[←q2,zER h hn hD (by omega) (up c2) n2];rfl
end
theorem zSn{p:Int}{m:zE}{D r i:Nat}(hi:i<D){t1 t2:Trc}(hp:m.Prime=p):(mkv D fun j=>zDt m D (-1) (zDt m D 1 (fun _ _ _=>0) t1) t2 r i j%m.Prime)=prR p D m t1 t2 (r*D+i):=by
 subst hp;have e:=sF (q:=r) hi;rw[prR,e.1,e.2];refine yC fun j _=>?_
 rw[zKh hi,zKh hi]
 congr 1
 omega
end Go.Pl

namespace Go.Pl
open Go Go.Ab Go.Wk Go.Pc
theorem uV{α β:Type}{f:α→List β}{c:Nat}(hf:∀a,(f a).length≤c):∀l:List α,(l.flatMap f).length≤l.length*c
 | []=>by simp
 |a::l=>by have:=uV hf l;have:=hf a;rw[Lj,J6,J7,K4];omega
theorem zGz{x:SPr}(hn:x.zA.length≤6):(cps x).length≤300:=by
 have hu:∀i,(ups x.zA.length i).length≤6:=fun i=>by rw[ups,Jat];omega
 have h1:=uV (c:=36) (f:=fun i=>(ups x.zA.length i).flatMap fun j=>(ups x.zA.length j).map fun k=>pd2 x i j k) (fun i=>by have:=uV (c:=6) (f:=fun j=>(ups x.zA.length j).map fun k=>pd2 x i j k) (fun j=>by rw[Jh];exact hu j) (ups x.zA.length i);have:=hu i;omega) (Jg x.zA.length)
 have h2:=uV (c:=6) (f:=fun i=>(ups x.zA.length i).map fun j=>pd1 x i j) (fun i=>by rw[Jh];exact hu i) (Jg x.zA.length);have h3:=uV (c:=6) (f:=fun i=>(ups x.zA.length i).map fun j=>pd4 x i j) (fun i=>by rw[Jh];exact hu i) (Jg x.zA.length);rw[Li]at h1 h2 h3;rw[cps,J6,J6,J6,Jh,Li];omega
section
variable {x:SPr}{m:zE}{D:Nat} (hx:zFU x) (hD:MOk x.zA.length m D)
 include hx hD
theorem zLV(h0:0<x.zA.length)(hc:wR (suf x 0))(hr:zDS x m D){prs:List (Trc×Trc)}(hq:sQ x (cps x) prs):∃K,f_m x m=i7 K∧
  f_H m.Prime (gl (base x.zA.length x.zA.length*D) fun k=>kV m.Prime D m prs k) ((prs.length*D:Nat):Int)=i7 K:=by
 have h6:=hx.n6;have hp:=hD.p.pos;have hb:=uC x.zA.length (by omega);have h3:=hD.d3;have hB:base x.zA.length x.zA.length*D≤21*3:=Jv hb.2.1 h3;have hql:prs.length≤300:=by rw[←hq.len];exact zGz h6
 have hqD:prs.length*D≤300*3:=Jv hql h3;obtain⟨K,pk,k1,k2,k3⟩:=zGa hx hD h0 hc hr;obtain⟨K2,pk2,_,j2,j3,j4⟩:=zF2 hD.p (c:=prs.length*D) (N:=base x.zA.length x.zA.length*D) (A:=gl (base x.zA.length x.zA.length*D) fun k=>kV m.Prime D m prs k) (by omega) (fun k hk=>by rw[xV hk];refine⟨zHY prs,fun j hj=>?_⟩;have aK:0<D:=hD.d1;have hi:j/D<prs.length:=(Q6 aK).2 hj;have hm:j%D<D:=Ul _ aK;have e:=zHX (F:=fun q:Trc×Trc=>prR m.Prime D m q.1 q.2 k) (fun _=>yA _ _) prs (j/D) (j%D) hi hm;rw[show j/D*D+j%D=j from by rw[Gx];exact U7 j D]at e;rw[kV,e,prR,yG hm];exact⟨Kx _ (show m.Prime≠0 by omega),by have:=Kg (zAY m.Prime D m (prs[j/D]).1 (k/D) (k%D) (j%D)-zAY m.Prime D m (prs[j/D]).2 (k/D) (k%D) (j%D)) (show 0<m.Prime by omega);omega⟩) vH
 have key:∀y,Row m.Prime (base x.zA.length x.zA.length*D) y→(Sp m.Prime (base x.zA.length x.zA.length*D) K y↔Sp m.Prime (base x.zA.length x.zA.length*D) K2 y):=fun y hy=>by rw[k3 y hy,j4 y,zSj hx hD hq hc hr hy]
 have e:K=K2:=Red.unique (by omega) k2 j3 ⟨fun i hi=>(key _ (k2.row i hi)).1 (qG hi),fun i hi=>(key _ (j3.row i hi)).2 (qG hi)⟩;exact⟨K,k1,by rw[e];exact j2⟩
end
end Go.Pl

namespace Go.Pl
open Go Go.Ab Go.Wk Go.Pc
section
variable {x:SPr}{m:zE}{D:Nat} (h0:x.zA.length=0) (hD:MOk x.zA.length m D)
 include h0 hD
theorem zPG{T:Mx}:f_M ⟨x,m,T⟩=i7 []:=by
 have _:=hD;unfold f_M;rw[xT];unfold zPZ;simp only
 rw[h0,show decide ((0:Int)<((0:Nat):Int))=ia from rfl,zS];rfl
theorem zNu:∃K pk,f_m x m=i7 K∧f_H m.Prime [] 0=i7 K∧Red m.Prime 0 K pk:=by obtain⟨K,pk,k1,k2,k3,_⟩:=zF2 hD.p (c:=0) (N:=0) (A:=[]) (by omega) (fun i hi=>absurd hi (Qb i)) rfl;refine⟨K,pk,?_,k2,k3⟩;unfold f_m;have e1:=zHZ hD (N:=0) (by omega);have e2:=zJh hD (B:=0) (L:=[]) (by omega) (by simp) (fun r hr=>by cases hr);rw[Gg]at e1;rw[zHD h0 (by omega),bs,hD.d,show base 0 0=0 from rfl,show((0:Nat):Int)*(D:Int)=((0:Nat):Int)from by simp,zC (by omega) (by omega),bs,e1,bs,zPG h0 hD,bs,e2,bs,show((([]:Mx).length:Nat):Int)*(D:Int)=((0:Nat):Int)from by simp,zC (by omega) (by omega),bs];rw[show gl 0 (fun k=>zDs D k [])=([]:Mx)from rfl,k1,bs]
end
end Go.Pl

namespace Go.Pl
open Go Go.Ab Go.Wk Go.Pc
theorem zZV{v:Int}:f_k [v] 4=i7 [v,v,v,v]:=by
 unfold f_k;have h:=zY (body:=kW) (r:=[v,v,v,v]) (fun i=>match i with|0=>([v,0,0,0],1)|1=>([v,v,0,0],2)|_=>([v,v,v,v],4)) 2 (fun i hi=>by
  match i,hi with
  |0,_=>simp[kW,yB,wP,rng,inR]
  |1,_=>simp[kW,yB,wP,rng,inR]) (by simp[kW])
 rw[show decide ((4:Int)<0)=ia from rfl,zS,zMV (by decide+kernel),bs];have hl:xF (IntKind.wrap .i64 4)=i7 4:=by decide+kernel
 simp only[hl,bs];rw[show decide ((0:Int)> 0)=ia from rfl,zS,show decide ((4:Int)> 9223372036854775807)=ia from by decide,zS];have e2:wP (J1 4 (0:Int)) 0 (([v]:List Int).take ((J1 4 (0:Int)).length-0))=[v,0,0,0]:=by simp[wP,J1]
 have e3:((min ([v]:List Int).length ((J1 4 (0:Int)).length-0):Nat):Int)=1:=by simp
 rw[e2,e3];have h':zJ kW ([v,0,0,0],1)=_:=h;rw[h',bs]
theorem zZW{v:Int}:f_k [v] 6=i7 [v,v,v,v,v,v]:=by
 unfold f_k;have h:=zY (body:=kW) (r:=[v,v,v,v,v,v]) (fun i=>match i with|0=>([v,0,0,0,0,0],1)|1=>([v,v,0,0,0,0],2)|2=>([v,v,v,v,0,0],4)|_=>([v,v,v,v,v,v],6)) 3 (fun i hi=>by
  match i,hi with
  |0,_=>simp[kW,yB,wP,rng,inR]
  |1,_=>simp[kW,yB,wP,rng,inR]
  |2,_=>simp[kW,yB,wP,rng,inR]) (by simp[kW])
 rw[show decide ((6:Int)<0)=ia from rfl,zS,zMV (by decide+kernel),bs];have hl:xF (IntKind.wrap .i64 6)=i7 6:=by decide+kernel
 simp only[hl,bs];rw[show decide ((0:Int)> 0)=ia from rfl,zS,show decide ((6:Int)> 9223372036854775807)=ia from by decide,zS];have e2:wP (J1 6 (0:Int)) 0 (([v]:List Int).take ((J1 6 (0:Int)).length-0))=[v,0,0,0,0,0]:=by simp[wP,J1]
 have e3:((min ([v]:List Int).length ((J1 6 (0:Int)).length-0):Nat):Int)=1:=by simp
 rw[e2,e3];have h':zJ kW ([v,0,0,0,0,0],1)=_:=h;rw[h',bs]
theorem zZX{v:Int}:f_k [v] 8=i7 [v,v,v,v,v,v,v,v]:=by
 unfold f_k;have h:=zY (body:=kW) (r:=[v,v,v,v,v,v,v,v]) (fun i=>match i with|0=>([v,0,0,0,0,0,0,0],1)|1=>([v,v,0,0,0,0,0,0],2)|2=>([v,v,v,v,0,0,0,0],4)|_=>([v,v,v,v,v,v,v,v],8)) 3 (fun i hi=>by
  match i,hi with
  |0,_=>simp[kW,yB,wP,rng,inR]
  |1,_=>simp[kW,yB,wP,rng,inR]
  |2,_=>simp[kW,yB,wP,rng,inR]) (by simp[kW])
 rw[show decide ((8:Int)<0)=ia from rfl,zS,zMV (by decide+kernel),bs];have hl:xF (IntKind.wrap .i64 8)=i7 8:=by decide+kernel
 simp only[hl,bs];rw[show decide ((0:Int)> 0)=ia from rfl,zS,show decide ((8:Int)> 9223372036854775807)=ia from by decide,zS];have e2:wP (J1 8 (0:Int)) 0 (([v]:List Int).take ((J1 8 (0:Int)).length-0))=[v,0,0,0,0,0,0,0]:=by simp[wP,J1]
 have e3:((min ([v]:List Int).length ((J1 8 (0:Int)).length-0):Nat):Int)=1:=by simp
 rw[e2,e3];have h':zJ kW ([v,0,0,0,0,0,0,0],1)=_:=h;rw[h',bs]
theorem zAL{β:Type}{body:List β×Int→Option ((List β×Int)⊕List β)}(s n B:Nat)(F:Nat→List β)(a0:List β)(hB:a0.length+((Ku s n).flatMap F).length≤B)
  (h:∀i acc,s≤i→i<s+n→acc.length+(F i).length≤B→body (acc,((i+1:Nat):Int))=i7 (.inl (acc++F i,((i+1+1:Nat):Int))))(he:∀acc,body (acc,((s+n+1:Nat):Int))=i7 (.inr acc)):
  zJ body (a0,((s+1:Nat):Int))=i7 (a0++(Ku s n).flatMap F):=by
 have:=zY (body:=body) (r:=a0++(Ku s n).flatMap F) (fun i=>(a0++(Ku s i).flatMap F,((s+i+1:Nat):Int))) n (fun i hi=>by
  have e:(Ku s (i+1)).flatMap F=(Ku s i).flatMap F++F (s+i):=by rw[List.range'_1_concat,Qk,Lj,List.flatMap_nil,Je]
  have cO:((Ku s (i+1)).flatMap F).length≤((Ku s n).flatMap F).length:=by obtain⟨k,rfl⟩:∃k,n=i+1+k:=⟨n-(i+1),by omega⟩;have e3:Ku s (i+1+k)=Ku s (i+1)++Ku (s+(i+1)) k:=List.range'_append_1.symm;rw[e3,Qk,J6];omega
  rw[e,J6]at cO;rw[h (s+i) _ (by omega) (by omega) (by rw[J6];omega),e,Jc];rfl) (he _)
 simpa using this
def CPd(d:PD):zK:=⟨enW d.wd,enW d.w1,enW d.w2⟩
section
variable {x:SPr} (h:Pres x) (hn:x.zA.length≤6)
 include h
theorem zLW{v:Int}{a:Nat}(ha:a<x.zA.length):zMx v ((yH x a:Nat):Int)=i7 (J1 (yH x a) v):=by
 have hp:=h.os.2 a ha;have e:=(qV h ha).1;have e2:at0 x.zA a=((yH x a:Nat):Int):=by rw[yW ha]at e;exact Lq.inj e
 rw[e2]at hp;unfold zMx;rw[zC9 hp,bs,Ja]
theorem zPH{v:Int}{a:Nat}(ha:a<x.zA.length):zMx v (((yH x a+1:Nat)):Int)=i7 (J1 (yH x a+1) v):=by
 have hp:=h.os.2 a ha;have e:=(qV h ha).1;have e2:at0 x.zA a=((yH x a:Nat):Int):=by rw[yW ha]at e;exact Lq.inj e
 rw[e2]at hp;have:yH x a=2∨yH x a=3∨yH x a=5∨yH x a=7:=by rcases hp with g|g|g|g<;>omega
 unfold zMx;rcases this with g|g|g|g<;>rw[g]
 ·exact(congrArg (fun o=>Hp o _) (zC9 (v:=v) (o:=3) (.inr (.inl rfl)))).trans rfl
 ·exact(congrArg (fun o=>Hp o _) (zZV (v:=v))).trans rfl
 ·exact(congrArg (fun o=>Hp o _) (zZW (v:=v))).trans rfl
 ·exact(congrArg (fun o=>Hp o _) (zZX (v:=v))).trans rfl
 include hn
theorem zES{d:PD}(hd:d∈cps x){out:List zK}(ho:out.length≤100000):f_Q (enW d.wd) (d.t:Int) out x=i7 (out++[CPd d]):=by have ok:=zKl h hn d hd;obtain⟨_,mw,_⟩:=zGy h hn d hd;obtain⟨q,q1,q2⟩:=ok.h2;have hl:=ok.l;have ht:=ok.ht;unfold f_Q;rw[show(0:Int)=((0:Nat):Int)from rfl,zCG h hn mw (by omega) (by omega) ok.h1,bs,zCG h hn mw (by omega) ht q1,bs,yT (by simp only[J7,Jx];omega),bs];simp only[K8,Jt];rw[←q2];rfl
end
end Go.Pl

namespace Go.Pl
open Go Go.Ab Go.Wk Go.Pc
theorem zBR{α β:Type}{f:α→β}:∀l:List α,(l.flatMap fun a=>[f a])=l.map f
 | []=>rfl
 |a::l=>by rw[Lj,zBR l];rfl
theorem zAp{N i:Nat}(hN:N≤6):(ups N i).length≤6:=by grind[ups]
section
variable {x:SPr} (h:Pres x) (hn:x.zA.length≤6)
 include h hn
theorem zYW{i j:Nat}(gM:i<j)(hj:j<x.zA.length){o1 o2 out:List zK}(ho:out.length≤3000):
  zJ (zQd x (o1,((i+1:Nat):Int)) (o2,((j+1:Nat):Int))) (out,((j+1+1:Nat):Int))=i7 (out++(ups x.zA.length j).map fun k=>CPd (pd2 x i j k)):=by
 have hm:=((zAK (x:=x) (φ:=fun d=>d∈cps x)).1 fun d hd=>hd).1;have hu:=zAp (i:=j) hn;have:=zAL (body:=zQd x (o1,((i+1:Nat):Int)) (o2,((j+1:Nat):Int))) (j+1) (x.zA.length-(j+1)) 4000 (fun k=>[CPd (pd2 x i j k)]) out (by rw[zBR,Jh];grind) (fun k acc hk1 fj hb=>by
  unfold zQd;simp only
  have e:([((k+1:Nat):Int),((j+1:Nat):Int),((i+1:Nat):Int)])=enW (pd2 x i j k).wd:=by rfl
  rw[ic (by omega),zN,e,show(1:Int)=((pd2 x i j k).t:Int)from rfl,zES h hn (by grind) (by omega),bs,show((k+1:Nat):Int)+((pd2 x i j k).t:Int)=((k+1+1:Nat):Int)from rfl,zC (by omega) (by omega),bs]) (fun acc=>by
  unfold zQd
  grind)
 rw[zBR]at this;exact this
theorem zYX{i:Nat}(hi:i<x.zA.length){o1 out:List zK}(ho:out.length≤2000):
  zJ (zQe x (o1,((i+1:Nat):Int))) (out,((i+1+1:Nat):Int))=i7 (out++(ups x.zA.length i).flatMap fun j=>(ups x.zA.length j).map fun k=>CPd (pd2 x i j k)):=by
 have hu:=zAp (i:=i) hn;have hf:=uV (c:=6) (f:=fun j=>(ups x.zA.length j).map fun k=>CPd (pd2 x i j k)) (by grind[zAp]) (ups x.zA.length i);have:=zAL (body:=zQe x (o1,((i+1:Nat):Int))) (i+1) (x.zA.length-(i+1)) 3000 (fun j=>(ups x.zA.length j).map fun k=>CPd (pd2 x i j k)) out (by grind[ups]) (fun j acc hj1 b6 hb=>by
  unfold zQe;simp only
  rw[ic (by omega),zN,show((j+1:Nat):Int)+1=((j+1+1:Nat):Int)from by omega,zC (by omega) (by omega),bs,zYW h hn (by omega) (by omega) (by omega),bs,bs]) (fun acc=>by
  unfold zQe
  grind)
 exact this
theorem zYY:zJ (zQf x) ([],1)=i7 ((Jg x.zA.length).flatMap fun i=>(ups x.zA.length i).flatMap fun j=>(ups x.zA.length j).map fun k=>CPd (pd2 x i j k)):=by
 have hf:=uV (c:=36) (f:=fun i=>(ups x.zA.length i).flatMap fun j=>(ups x.zA.length j).map fun k=>CPd (pd2 x i j k)) (fun i=>by
  have:=uV (c:=6) (f:=fun j=>(ups x.zA.length j).map fun k=>CPd (pd2 x i j k)) (by grind[zAp]) (ups x.zA.length i)
  grind[zAp]) (Jg x.zA.length)
 rw[Li]at hf;have:=zAL (body:=zQf x) 0 x.zA.length 2000 (fun i=>(ups x.zA.length i).flatMap fun j=>(ups x.zA.length j).map fun k=>CPd (pd2 x i j k)) [] (by grind[Lh]) (fun i acc aw eO hb=>by
  unfold zQf;simp only
  rw[ic (by omega),zN,show((i+1:Nat):Int)+1=((i+1+1:Nat):Int)from by omega,zC (by omega) (by omega),bs,zYX h hn (by omega) (by omega),bs,bs]) (fun acc=>by
  unfold zQf
  grind)
 grind[Lh]
theorem zYZ{i:Nat}(hi:i<x.zA.length){o1 out:List zK}(ho:out.length≤3000):
  zJ (zQg x (o1,((i+1:Nat):Int))) (out,((i+1+1:Nat):Int))=i7 (out++(ups x.zA.length i).map fun j=>CPd (pd1 x i j)):=by
 have hm:=((zAK (x:=x) (φ:=fun d=>d∈cps x)).1 fun d hd=>hd).2.1;have hu:=zAp (i:=i) hn;have:=zAL (body:=zQg x (o1,((i+1:Nat):Int))) (i+1) (x.zA.length-(i+1)) 4000 (fun j=>[CPd (pd1 x i j)]) out (by rw[zBR,Jh];rw[ups]at hu;omega) (fun j acc hj1 b6 hb=>by
  have ho:=qV h (show j<x.zA.length by omega);unfold zQg;simp only
  have e:J1 (yH x j) ((j+1:Nat):Int)++[((i+1:Nat):Int)]=enW (pd1 x i j).wd:=by show _=enW (J1 (yH x j) j++[i]);simp only[enW,L7,List.map_replicate,Jo,Gv];rfl
  have et:((yH x j:Nat):Int)-1=((pd1 x i j).t:Int):=by show _=((yH x j-1:Nat):Int);omega
  rw[ic (by omega),zN,show((j+1:Nat):Int)-1=(j:Int)from by omega,zC (n:=(j:Int)) (by omega) (by omega),bs,ho.1,bs,zLW h (by omega),bs,yT (by simp only[Jf,J7,Jx];omega),bs,bs,ho.1,bs,zC (n:=((yH x j:Nat):Int)-1) (by omega) (by omega),bs,e,et,zES h hn (hm i j (by omega) (by omega)) (by simp only[J7,Jx]at hb;omega),bs,show((j+1:Nat):Int)+1=((j+1+1:Nat):Int)from by omega,zC (by omega) (by omega),bs]) (fun acc=>by
  unfold zQg;simp only
  rw[ib (by omega),zS])
 rw[zBR]at this;exact this
theorem zZa{out:List zK}(ho:out.length≤1000):zJ (zQh x) (out,1)=i7 (out++(Jg x.zA.length).flatMap fun i=>(ups x.zA.length i).map fun j=>CPd (pd1 x i j)):=by
 have hf:=uV (c:=6) (f:=fun i=>(ups x.zA.length i).map fun j=>CPd (pd1 x i j)) (by grind[zAp]) (Jg x.zA.length);rw[Li]at hf;have:=zAL (body:=zQh x) 0 x.zA.length 2000 (fun i=>(ups x.zA.length i).map fun j=>CPd (pd1 x i j)) out (by grind[Lh]) (fun i acc aw eO hb=>by
  unfold zQh;simp only
  rw[ic (by omega),zN,show((i+1:Nat):Int)+1=((i+1+1:Nat):Int)from by omega,zC (by omega) (by omega),bs,zYZ h hn (by omega) (by omega),bs,bs]) (fun acc=>by
  unfold zQh
  grind)
 grind[Lh]
theorem zZb{i:Nat}(hi:i<x.zA.length){o1 out:List zK}(ho:out.length≤3000):
  zJ (zQi x (o1,((i+1:Nat):Int))) (out,((i+1+1:Nat):Int))=i7 (out++(ups x.zA.length i).map fun j=>CPd (pd4 x i j)):=by
 have hm:=((zAK (x:=x) (φ:=fun d=>d∈cps x)).1 fun d hd=>hd).2.2.1;have hu:=zAp (i:=i) hn;have ho:=qV h hi;have:=zAL (body:=zQi x (o1,((i+1:Nat):Int))) (i+1) (x.zA.length-(i+1)) 4000 (fun j=>[CPd (pd4 x i j)]) out (by rw[zBR,Jh];grind) (fun j acc hj1 b6 hb=>by
  unfold zQi;simp only
  have e:[((j+1:Nat):Int)]++J1 (yH x i) ((i+1:Nat):Int)=enW (pd4 x i j).wd:=by show _=enW (j::J1 (yH x i) i);simp
  rw[ic (by omega),zN,show((i+1:Nat):Int)-1=(i:Int)from by omega,zC (n:=(i:Int)) (by omega) (by omega),bs,ho.1,bs,zLW h hi,bs,yT (by simp only[Jf,J7,Jx];omega),bs,e,show(1:Int)=((pd4 x i j).t:Int)from rfl,zES h hn (hm i j (by omega) (by omega)) (by simp only[J7,Jx]at hb;omega),bs,show((j+1:Nat):Int)+((pd4 x i j).t:Int)=((j+1+1:Nat):Int)from rfl,zC (by omega) (by omega),bs]) (fun acc=>by
  unfold zQi
  grind)
 rw[zBR]at this;exact this
theorem zZc{out:List zK}(ho:out.length≤1000):zJ (zQj x) (out,1)=i7 (out++(Jg x.zA.length).flatMap fun i=>(ups x.zA.length i).map fun j=>CPd (pd4 x i j)):=by
 have hf:=uV (c:=6) (f:=fun i=>(ups x.zA.length i).map fun j=>CPd (pd4 x i j)) (by grind[zAp]) (Jg x.zA.length);rw[Li]at hf;have:=zAL (body:=zQj x) 0 x.zA.length 2000 (fun i=>(ups x.zA.length i).map fun j=>CPd (pd4 x i j)) out (by grind[Lh]) (fun i acc aw eO hb=>by
  unfold zQj;simp only
  rw[ic (by omega),zN,show((i+1:Nat):Int)+1=((i+1+1:Nat):Int)from by omega,zC (by omega) (by omega),bs,zZb h hn (by omega) (by omega),bs,bs]) (fun acc=>by
  unfold zQj
  grind)
 grind[Lh]
theorem zZd{out:List zK}(ho:out.length≤1000):zJ (zQk x) (out,1)=i7 (out++(Jg x.zA.length).map fun i=>CPd (pd3 x i)):=by
 have hm:=((zAK (x:=x) (φ:=fun d=>d∈cps x)).1 fun d hd=>hd).2.2.2;have:=zAL (body:=zQk x) 0 x.zA.length 2000 (fun i=>[CPd (pd3 x i)]) out (by rw[zBR,Jh,Jat];omega) (fun i acc aw eO hb=>by
  have ho:=qV h (show i<x.zA.length by omega);unfold zQk;simp only
  have e:J1 (yH x i+1) ((i+1:Nat):Int)=enW (pd3 x i).wd:=by show _=enW (J1 (yH x i+1) i);simp
  rw[ic (by omega),zN,show((i+1:Nat):Int)-1=(i:Int)from by omega,zC (n:=(i:Int)) (by omega) (by omega),bs,ho.1,bs,show((yH x i:Nat):Int)+1=((yH x i+1:Nat):Int)from by omega,zC (n:=((yH x i+1:Nat):Int)) (by omega) (by omega),bs,zPH h (by omega),bs,e,show(1:Int)=((pd3 x i).t:Int)from rfl,zES h hn (hm i (by omega)) (by simp only[J7,Jx]at hb;omega),bs,show((i+1:Nat):Int)+((pd3 x i).t:Int)=((i+1+1:Nat):Int)from rfl,zC (by omega) (by omega),bs]) (fun acc=>by
  unfold zQk
  grind)
 grind[zBR,Lh]
theorem zEb:f_e x=i7 ((cps x).map CPd):=by
 have hl:=zGz (x:=x) hn;have em:(cps x).map CPd=((Jg x.zA.length).flatMap fun i=>(ups x.zA.length i).flatMap fun j=>(ups x.zA.length j).map fun k=>CPd (pd2 x i j k))++(((Jg x.zA.length).flatMap fun i=>(ups x.zA.length i).map fun j=>CPd (pd1 x i j))++(((Jg x.zA.length).flatMap fun i=>(ups x.zA.length i).map fun j=>CPd (pd4 x i j))++(Jg x.zA.length).map fun i=>CPd (pd3 x i))):=by simp only[cps,L7,List.map_flatMap,Jaf];rfl
 have ap:((cps x).map CPd).length≤300:=by grind
 rw[em]at ap;simp only[J6]at ap;unfold f_e;rw[zYY h hn,bs,zZa h hn (by omega),bs,zZc h hn (by grind),bs,zZd h hn (by simp only[J6];omega),bs,em];simp
end
end Go.Pl

namespace Go.Pl
open Go Go.Ab Go.Wk Go.Pc
theorem zZY:zXy=zMy:=rfl
theorem zZZ:zXz=zMy:=rfl
theorem sQ.get{x:SPr}:{ds:List PD}→{qs:List (Trc×Trc)}→sQ x ds qs→ ∀k(h1:k<ds.length)(h2:k<qs.length),(ds[k]).B x (qs[k]).1 (qs[k]).2
 | [],[],_,k,h1,_=>by simp at h1
 |d::ds,q::qs,h,0,_,_=>h.1
 |d::ds,q::qs,h,k+1,h1,h2=>by simpa using sQ.get h.2 k (by simpa using h1) (by simpa using h2)
 | [],_::_,h,_,_,_=>by grind
 |_::_,[],h,_,_,_=>by grind
theorem zPI{p:Int}{D:Nat}{m:zE}{prs:List (Trc×Trc)}{k q:Nat}(hk:k<prs.length):kV p D m (prs.take (k+1)) q=kV p D m (prs.take k) q++prR p D m (prs[k]).1 (prs[k]).2 q:=by grind[kV,Jw]
section
variable {x:SPr}{m:zE}{D:Nat} (hD:MOk x.zA.length m D)
 include hD
theorem zZe:zJ (zQm ⟨m.Prime,(D:Int),idM D⟩) (idM D,0)=i7 (gl D fun _=>mkv D fun _=>0):=by
 have h3:=hD.d3;have:=zY (body:=zQm ⟨m.Prime,(D:Int),idM D⟩) (r:=gl D fun _=>mkv D fun _=>0) (fun i=>(gl D fun a=>mkv D fun j=>if j=a then(if a<i then 0 else 1)else 0,(i:Int))) D (fun i hi=>by
  unfold zQm;simp only
  rw[uB,xJ hi,zN,zFX hi,bs,yW (by grind[yA]),bs,zC (by omega) (by omega),bs];simp only[Ja];rw[zJL,jC]
  grind) (by
  unfold zQm;simp only
  rw[uB,uH,zS]
  simp_all)
 have e:(gl D fun a=>mkv D fun j=>if j=a then(if a<0 then(0:Int)else 1)else 0)=idM D:=rfl
 grind
theorem zZf{N:Nat}(hN:N≤100):zJ (zQn m (N:Int)) ([],0)=i7 (smx m.Prime D N fun _ _ _=>0):=by
 refine(jE (body:=zQn m (N:Int)) N (fun _=>zU.mk m.Prime (D:Int) (gl D fun _=>mkv D fun _=>0)) (fun i acc hi ha=>?_) (fun acc=>?_)).trans ?_
 ·unfold zQn
  simp only
  rw[xJ hi,zN,hD.d,zD3 hD.p (by have:=hD.d3;omega),bs]
  grind[zZe,yT,zC]
 ·unfold zQn
  simp
 ·rfl
section
variable {N:Nat}{G:Nat→Nat→Nat→Int}{R:Nat→List Int}
abbrev zET(p:Int)(D:Nat)(G:Nat→Nat→Nat→Int)(R:Nat→List Int)(k:Nat):List Int:=R k++mkv D fun j=>G (k/D) (k%D) j%p
theorem zZg(hN:N≤100)(hR:∀k,(R k).length≤100000){r:Nat}(hr:r<N){z:Mx}:
  zJ (zQo m (z,(r:Int)) ⟨m.Prime,(D:Int),gl D fun i=>mkv D fun j=>G r i j%m.Prime⟩) (gl (N*D) fun k=>if k<r*D then zET m.Prime D G R k else R k,0)=i7 (gl (N*D) fun k=>if k<(r+1)*D then zET m.Prime D G R k else R k):=by
 have h3:=hD.d3;have h1:=hD.d1;have hb:(r+1)*D≤N*D:=Kd D (by omega);have pI:N*D≤100*3:=Jv hN h3;rw[K4]at hb;have:=zY (body:=zQo m (z,(r:Int)) ⟨m.Prime,(D:Int),gl D fun i=>mkv D fun j=>G r i j%m.Prime⟩) (r:=gl (N*D) fun k=>if k<(r+1)*D then zET m.Prime D G R k else R k) (fun i=>(gl (N*D) fun k=>if k<r*D+i then zET m.Prime D G R k else R k,(i:Int))) D (fun i hi=>by
  obtain⟨e1,e2⟩:=sF (q:=r) hi;unfold zQo;simp only
  rw[vH,xJ hi,zN,zFX hi,bs,hD.d,←La,zC (by omega) (by omega),bs,←G6,zC (by omega) (by omega),bs,zFX (by omega),bs,if_neg (by omega),yT (by rw[yA];have:=hR (r*D+i);omega),bs,zC (by omega) (by omega),bs];simp only[Ja];rw[zJL]
  grind) (by
  unfold zQo
  grind)
 exact this
theorem zZh(hN:N≤100)(hR:∀k,(R k).length≤100000):zJ (zMy m ⟨x,m,smx m.Prime D N G⟩) (gl (N*D) R,0)=i7 (gl (N*D) (zET m.Prime D G R)):=by
 have gj:(smx m.Prime D N G).length=N:=vH;have:=zY (body:=zMy m ⟨x,m,smx m.Prime D N G⟩) (r:=gl (N*D) (zET m.Prime D G R)) (fun i=>(gl (N*D) fun k=>if k<i*D then zET m.Prime D G R k else R k,(i:Int))) N (fun i hi=>by
  unfold zMy;simp only
  rw[gj,xJ hi,zN,smx,zFX hi,bs,zZg hD hN hR hi,bs,zC (by omega) (by omega),bs];rfl) (by
  unfold zMy
  simp_all)
 grind
end
end
theorem zZi{x:SPr}(h:Pres x):∀d∈cps x,2≤d.wd.length∧((d.wd.getD 0 0=d.wd.getD 1 0∧d.wd.getD (d.wd.length-1) 0≠d.wd.getD 0 0∧d.t=d.wd.length-2)∨(d.wd.getD 0 0=d.wd.getD 1 0∧d.wd.getD (d.wd.length-1) 0=d.wd.getD 0 0∧d.t=1)∨(d.wd.getD 0 0≠d.wd.getD 1 0∧d.t=1)):=by
 refine zAK.2 ⟨fun i j k h1 h2 h3=>?_,fun i j h1 h2=>?_,fun i j h1 h2=>?_,fun i h1=>?_⟩
 ·refine⟨by simp[pd2],.inr (.inr ⟨?_,rfl⟩)⟩
  show k≠j;omega
 ·have o:=(qV h h2).2
  obtain⟨q,hq⟩:∃q,yH x j=q+2:=⟨yH x j-2,by omega⟩;simp only[pd1,hq,J6,Jf,J7,Jx];refine⟨by omega,.inl ⟨rfl,?_,by omega⟩⟩;have:(J1 (q+2) j++[i]).getD (q+2+(0+1)-1) 0=i:=by simp
  grind
 ·have o:=(qV h (show i<x.zA.length by omega)).2
  obtain⟨q,hq⟩:∃q,yH x i=q+2:=⟨yH x i-2,by omega⟩;simp only[pd4,hq,Jf,J7]
  grind
 ·have o:=(qV h h1).2
  obtain⟨q,hq⟩:∃q,yH x i=q+2:=⟨yH x i-2,by omega⟩;simp only[pd3,hq,Jf];simp
section
variable {x:SPr}{m:zE}{D:Nat} (h:Pres x) (hn:x.zA.length≤6) (hD:MOk x.zA.length m D)
 include h hn hD
theorem zUz{prs:List (Trc×Trc)}(hq:sQ x (cps x) prs){k:Nat}(hk:k<(cps x).length){N:Nat}(hN:N=base x.zA.length x.zA.length):
  zQp x m (N:Int) ((cps x).map CPd) (gl (N*D) (fun q=>kV m.Prime D m (prs.take k) q),(k:Int))=i7 (.inl (gl (N*D) (fun q=>kV m.Prime D m (prs.take (k+1)) q),((k+1:Nat):Int))):=by
 subst hN;have hl:=hq.len;have hd:=K9 hk;have fj:k<prs.length:=by omega
 have cR:=uC x.zA.length (by omega);have h3:=hD.d3;have h1:=hD.d1;have gE:=zGz (x:=x) hn;have cd:=zPF h hn hD hd (hq.get k hk fj) (fun _ _ _=>0);obtain⟨w2,ht⟩:=zZi h _ hd;have hlw:=(zKl h hn _ hd).l;have cx:=(zKl h hn _ hd).ht;have hR:∀q,(kV m.Prime D m (prs.take k) q).length≤100000:=fun q=>by rw[zHY,Ka];have:min k prs.length*D≤300*3:=Jv (by omega) h3;omega
 have cy:=zZh (x:=x) (G:=zDt m D (-1) (zDt m D 1 (fun _ _ _=>0) (prs[k]).1) (prs[k]).2) hD (show base x.zA.length x.zA.length≤100 by omega) hR;have erow:gl (base x.zA.length x.zA.length*D) (zET m.Prime D (zDt m D (-1) (zDt m D 1 (fun _ _ _=>0) (prs[k]).1) (prs[k]).2) (fun q=>kV m.Prime D m (prs.take k) q))=gl (base x.zA.length x.zA.length*D) fun q=>kV m.Prime D m (prs.take (k+1)) q:=zR8 fun q _=>by have hm:q%D<D:=Ul _ (by omega);rw[zPI fj,zET,zSn hm rfl,show q/D*D+q%D=q from by grind[U7]]
 rw[erow]at cy;have hix:ixO ((cps x).map CPd) (k:Int)=i7 (CPd (cps x)[k]):=by grind[zAG]
 generalize (cps x)[k]=d at*
 have key:∀K:xL→Option ((Mx×Int)⊕Mx),((f_j ⟨x,m,smx m.Prime D (base x.zA.length x.zA.length) fun _ _ _=>0⟩ (enW d.wd) 0 1).bind fun r=>(f_q r.2 r.1 1).bind fun k2=>(f_j k2 (enW d.wd) (d.t:Int) (-1)).bind fun r3=>(f_q r3.2 r3.1 (-1)).bind K)=K ⟨x,m,smx m.Prime D (base x.zA.length x.zA.length) (zDt m D (-1) (zDt m D 1 (fun _ _ _=>0) (prs[k]).1) (prs[k]).2)⟩:=fun K=>by have e:=congrArg (fun o=>Hp o K) cd;simp only[Option.bind_assoc,bs]at e;exact e
 unfold zQp;simp only
 rw[Jh,xJ hk,zN,hix,bs,zZf hD (by omega),bs];simp only[CPd];have i0:=tP (w:=d.wd) (t:=0) (by omega);have i1:=tP (w:=d.wd) (t:=1) (by omega);have il:=tP (w:=d.wd) (t:=d.wd.length-1) (by omega);rw[show((0:Nat):Int)=0 from rfl]at i0;rw[show((1:Nat):Int)=1 from rfl]at i1;rw[i0,bs,i1,bs,Jh];rcases ht with⟨t1,t2,t3⟩|⟨t1,t2,t3⟩|⟨t1,t3⟩
 ·rw[show((((d.wd.getD 0 0:Nat):Int)+1)==(((d.wd.getD 1 0:Nat):Int)+1))=i9 from by grind,zN,zC (by omega) (by omega),bs,show(d.wd.length:Int)-1=((d.wd.length-1:Nat):Int)from by omega,il,bs,show((((d.wd.getD (d.wd.length-1) 0:Nat):Int)+1) != (((d.wd.getD 0 0:Nat):Int)+1))=i9 from by rw[bne_iff_ne];omega,zN,zC (by omega) (by omega),bs,show(d.wd.length:Int)-2=(d.t:Int)from by omega,key,cy,bs,zC (by omega) (by omega),bs]
  rfl
 ·rw[show((((d.wd.getD 0 0:Nat):Int)+1)==(((d.wd.getD 1 0:Nat):Int)+1))=i9 from by grind,zN,zC (by omega) (by omega),bs,show(d.wd.length:Int)-1=((d.wd.length-1:Nat):Int)from by omega,il,bs,show((((d.wd.getD (d.wd.length-1) 0:Nat):Int)+1) != (((d.wd.getD 0 0:Nat):Int)+1))=ia from by rw[t2];exact bne_self_eq_false _,zS]
  rw[t3]at key;rw[show(1:Int)=((1:Nat):Int)from rfl]at*
  rw[key,zZY,cy,bs,zC (by omega) (by omega),bs];rfl
 ·rw[show((((d.wd.getD 0 0:Nat):Int)+1)==(((d.wd.getD 1 0:Nat):Int)+1))=ia from by grind,zS]
  rw[t3]at key;rw[show(1:Int)=((1:Nat):Int)from rfl]at*
  rw[key,zZZ,cy,bs,zC (by omega) (by omega),bs];rfl
end
end Go.Pl

namespace Go.Pl
open Go Go.Ab Go.Wk Go.Pc
section
variable {x:SPr}{m:zE}{D:Nat} (hx:zFU x) (hD:MOk x.zA.length m D)
 include hx hD
theorem zIs(hc:wR (suf x 0))(hr:zDS x m D):∃K pk,f_m x m=i7 K∧f_f x m=i7 K∧Red m.Prime (base x.zA.length x.zA.length*D) K pk:=by
 have h6:=hx.n6;have h3:=hD.d3;have h1:=hD.d1;have cR:=uC x.zA.length (by omega);have hbD:base x.zA.length x.zA.length*D≤21*3:=Jv cR.2.1 h3;obtain⟨prs,hq⟩:=zXj hx hD;have hl:=hq.len;have gE:=zGz (x:=x) h6;have eM:=zY (body:=zQp x m ((base x.zA.length x.zA.length:Nat):Int) ((cps x).map CPd)) (r:=gl (base x.zA.length x.zA.length*D) (fun q=>kV m.Prime D m prs q)) (fun k=>(gl (base x.zA.length x.zA.length*D) (fun q=>kV m.Prime D m (prs.take k) q),(k:Int))) (cps x).length (fun k hk=>zUz hx.toPres h6 hD hq hk rfl) (by
  unfold zQp;simp only
  rw[Jh,uH,zS,hl,Qt])
 have e0:gl (base x.zA.length x.zA.length*D) (fun q=>kV m.Prime D m (prs.take 0) q)=J1 (base x.zA.length x.zA.length*D) ([]:List Int):=by simp only[K8,kV,Gv,Ht];rw[List.eq_replicate_iff];exact⟨vH,fun b hb=>by obtain⟨i,_,rfl⟩:=Jm.1 hb;rfl⟩
 rw[e0]at eM;have pj:f_f x m=cond (decide (((gl (base x.zA.length x.zA.length*D) (fun q=>kV m.Prime D m prs q)).length:Int)> 0)) (
   (ixO (gl (base x.zA.length x.zA.length*D) (fun q=>kV m.Prime D m prs q)) 0).bind fun v32=>(f_H m.Prime (gl (base x.zA.length x.zA.length*D) (fun q=>kV m.Prime D m prs q)) (v32.length:Int)).bind fun r33=>i7 r33) (
   (f_H m.Prime (gl (base x.zA.length x.zA.length*D) (fun q=>kV m.Prime D m prs q)) 0).bind fun r34=>i7 r34):=by
  unfold f_f;rw[zNg rfl h6,bs,hD.d,←La,zC (by omega) (by omega),bs,xP (by omega),bs,zEb hx.toPres h6,bs];rw[show((0:Nat):Int)=0 from rfl]at eM;rw[eM,bs]
 rcases Gk x.zA.length with h0|h0
 ·obtain⟨K,pk,k1,k2,k3⟩:=zNu h0 hD
  refine⟨K,pk,k1,?_,?_⟩
  ·rw[pj,h0,show base 0 0=0 from rfl,Gg]
   simp only[gl,List.range_zero,Gv,Jx];rw[show decide (((0:Nat):Int)> 0)=ia from rfl,zS,k2,bs]
  ·rw[h0,show base 0 0=0 from rfl,Gg];exact k3
 ·obtain⟨K,pk,k1,k2,_⟩:=zGa hx hD h0 hc hr
  obtain⟨K2,j1,j2⟩:=zLV hx hD h0 hc hr hq;rw[k1]at j1;cases j1;refine⟨K,pk,k1,?_,k2⟩;have pm:0<base x.zA.length x.zA.length*D:=Nat.mul_pos (by omega) h1;rw[pj,vH,ic (by omega),zN,show(0:Int)=((0:Nat):Int)from rfl,zFX pm,bs,zHY,j2,bs]
end
end Go.Pl

namespace Go.Pl
open Go Go.Ab Go.Wk Go.Pc
theorem zBS{x:SPr}{m:zE}(hx:zFR x)(hm:zLg m):∃g k,zT6 x m=i7 (g,k)∧zT7 x m=i7 (g,k):=by
 have hl:x.zA.length≤1048576:=hx.1;have u5:=S3.len hm;unfold zT6 zT7;rcases(zIo (m:=m) hl).both (zIp (m:=m) hl u5)with⟨s1,i1,hM⟩|⟨s1,i1,hM⟩
 ·obtain⟨hc,D,hD,hr⟩:=hM
  have h6:=hc.1.os.1;have h3:=hD.d3;have cL:x.zA.length*D≤9*3:=Jv h6 h3;have fU:=zGp hc.1 hD (zLD hc.1 hD (k:=0));have hrD:(wV x).length*D≤100*3:=Jv fU h3;have po:(zJd (x.zA.length*D) (fun k=>dfc m D (uv x.zA.length D k)) (wV x)).length=x.zA.length*D:=vH;obtain⟨R,pv,r1,r2,r3,_⟩:=zAH hD.p (n:=(wV x).length*D) (by omega) (rows:=zJd (x.zA.length*D) (fun k=>dfc m D (uv x.zA.length D k)) (wV x)) (by omega) (by rw[po];exact zP5 (zWM hc.1 hD) (wV x));have cR:=uC x.zA.length (by have:=hc.2.2.n6;omega);have hbD:base x.zA.length x.zA.length*D≤21*3:=Jv cR.2.1 hD.d3;obtain⟨K,pk,k1,k2,k3⟩:=zIs hc.2.2 hD hc.2.1 hr;have l1:=k3.len_le;have l2:=r3.len_le;simp only[s1,i1,bs,K7,zS];unfold zX0 zXx;rw[k1,k2,zLE hc.1 hD,zGg hc.1 hD];simp only[bs,r1,r2];rw[zC (by omega) (by omega)];simp only[bs];exact⟨_,_,rfl,rfl⟩
 ·simp only[s1,i1,bs,Kr,zN]
  exact⟨_,_,rfl,rfl⟩
theorem zCH(x0:SPr)(x1:zE)(v0:zOr x0)(v1:zUa x1)
  (h:zFR x0→zLg x1→ ∃g k,zT6 x0 x1=i7 (g,k)∧zT7 x0 x1=i7 (g,k)):zVd x0 x1=i7 i9:=by
 unfold zVd;rw[zHs v0 (by decide) (by decide),bs];rcases zOs (c:=zLf x0) (b:=1048576) (by decide) (by decide)with e|⟨e,a0,b0,w0⟩<;>rw[e]
 ·rfl
 rw[zS,zRt v1 a0 b0,bs];rcases zOs (c:=zUb x1) a0 b0 with e|⟨e,a1,b1,w1⟩<;>rw[e]
 ·rfl
 have s0:zFR x0:=zFR.of w0;have s1:zLg x1:=zLg.of w1;obtain⟨g,k,hs,hi⟩:=h s0 s1;rw[zS,zHt s0,bs,zRu s1,bs];simp only[bs];rw[hs,bs,hi,bs];simp only
 rw[bne_self_eq_false,zS,bne_self_eq_false,zS,zHu s0,bs,K7,zS,zRv s1,bs,K7,zS]
theorem zBT(x0:SPr)(x1:zE)(v0:zOr x0)(v1:zUa x1):zVd x0 x1=i7 i9:=
 zCH x0 x1 v0 v1 zBS
end Go.Pl
