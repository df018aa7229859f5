/- The program's IsAllowable returns what the reference's returns,for all arguments;no conditions. -/
import Derived.Test.YtfeijieociajaaaGreatPlC
import Derived.Test.YtfeijieociajaaaGreatPlA
open List renaming replicate→J1,getD_eq_getElem?_getD→J2,getElem?_eq_getElem→J3,length_append→J5,length_cons→J7,mem_cons→J9,mem_append→Ja,length_singleton→Jb,mem_map→Jc,range→Jd,length_map→Jf,append_assoc→Jg,append_nil→Jh,getElem?_append_right→Jk,length_replicate→Jl,getElem_mem→Jp,take_left'→Js,length_nil→Jt,map_cons→Ju,replicate_succ→Jv,getElem?_map→Jw,take_of_length_le→Jx,getElem?_append_left→Jy,nil_append→K0,drop_left'→K1,take_succ_eq_append_getElem→K5,map_append→K6,range'→K7,cons_append→K9,take_zero→Kd,length_take→Ke,length_drop→Kl,flatMap_cons→Kr,range_succ→Kt,range_eq_range'→Kw,ext_getElem?→L4,mem_iff_getElem→Ld,map_nil→Le,length_range→Lh,getElem?_eq_none→Li,mem_range→Lj,mem_flatMap→Ll,take_length→Ln,take_add_one→Lt,eq_of_mem_replicate→H2,filterMap_cons→Hk,range'_succ→Ho,flatMap_append→U4,getD→U7,drop_zero→Uf,flatMap_nil→qe9,range_zero→qf9,getElem?_range→Qv,append_cancel_left→Qw,mem_filterMap→Jai,map_map→Jaz,mem_range'→Jb6,mem_filter→Jb7,flatten_append→Jba,take_append_drop→Jbl
open Int renaming toNat_natCast->J8,emod_eq_of_lt->Jq,mul_emod->Jz,emod_emod->K3,add_emod->Ka,emod_lt_of_pos->Kh,emod_nonneg->Kk,zero_add->Kq,add_zero->L9,emod_add_emod->G4,one_mul->Gp,sub_emod->Qg,natCast_succ->Jbd,add_mul->Jbo
open Nat renaming le_refl->Je,zero_add->Ji,lt_or_ge->Jo,mul_le_mul->Jr,succ_mul->K8,mul_one->Lz,add_sub_cancel_left->H4,le_trans->H8,add_zero->Um,add_sub_cancel->Jaw
open Bool renaming not_true->Kb,not_false->Ky
open Option renaming isSome_iff_exists->Kv,getD_some->Lq
open Option renaming some->jf,none->jg
open Bool renaming true->jh,false->ji
namespace Go.Pl
open Go Go.Ab Go.Wk Go.Pc
variable {a:Vec}{u C:Mx}{i k q j:Nat}{x:SPr}{pc:Nat->Nat}
section
variable {x:SPr} (h:Pres x) (hc:xC (suf x 0))
 include h hc
theorem yEK{b:Vec}(ha:V (suf x 0) a)(hb:V (suf x 0) b):∃w,V (suf x 0) w/\mul (suf x 0) (mul (suf x 0) b a) w=mul (suf x 0) a b/\zNV x a b=jf w/\zPT x a b=jf w:=by
 have G:=g0 h hc;have ok:=ok0 h hc;obtain⟨w,w1,w2,w3⟩:=yA4 h hc ha hb;obtain⟨z,z1,z2,z3⟩:=zVI h hc ha hb;rw[G.cancel_l (yO ok hb ha) z1 w1 (z2.trans w2.symm)]at z3;exact⟨w,w1,w2,w3,z3⟩
 omit h hc in
noncomputable def cmf (x:SPr) (a b:Vec):Vec:=(zNV x a b).getD []
theorem zCH{b:Vec}(ha:V (suf x 0) a)(hb:V (suf x 0) b):V (suf x 0) (cmf x a b)/\mul (suf x 0) (mul (suf x 0) b a) (cmf x a b)=mul (suf x 0) a b/\zNV x a b=jf (cmf x a b)/\zPT x a b=jf (cmf x a b):=by
 obtain⟨w,w1,w2,w3,w4⟩:=yEK h hc ha hb;have:cmf x a b=w:=by rw[cmf,w3];rfl
 rw[this];exact⟨w1,w2,w3,w4⟩
 omit h hc in
noncomputable def cms (x:SPr) (u v:Mx) (i:Nat):Mx:=((u.take i).map fun a=>v.map fun b=>cmf x a b).flatten
 omit h hc in
theorem zIz{v:Mx}(hi:i<u.length:=by omega):cms x u v (i+1)=cms x u v i++v.map (fun b=>cmf x (u.getD i []) b):=by
  rw[cms,Lt,K6,Jba,J3 hi,J2,J3 hi];simp[cms]
 omit h hc in
theorem zLq{u v:Mx}:∀i,i<=u.length->(cms x u v i).length=i*v.length
  |0,_=>by simp[cms]
  |i+1,hi=>by rw[zIz,J5,zLq i (by omega),Jf,K8]
 omit h hc in
theorem zLr{v:Mx}{c:Vec}:c∈cms x u v u.length↔ ∃a∈u,∃b∈v,cmf x a b=c:=by
  simp only[cms,Ln,List.mem_flatten,Jc];constructor
  · rintro⟨l,⟨b,hb,rfl⟩,hc⟩
    obtain⟨a,ha,rfl⟩:=Jc.1 hc;exact⟨b,hb,a,ha,rfl⟩
  · rintro⟨b,hb,a,ha,rfl⟩
    exact⟨_,⟨b,hb,rfl⟩,Jc.2 ⟨a,ha,rfl⟩⟩
theorem yEL{v:Mx}(hu:∀a∈u,V (suf x 0) a)(hv:∀a∈v,V (suf x 0) a):∀c∈cms x u v u.length,V (suf x 0) c:=fun c bB=>by obtain⟨a,ha,b,hb,rfl⟩:=zLr.1 bB;exact(zCH h hc (hu a ha) (hv b hb)).1
theorem zPs{v:Mx}(hu:∀a∈u,V (suf x 0) a)(gU:u.length<=14)(hv:∀a∈v,V (suf x 0) a)(fT:v.length<=14):
  zE (zTt x u v) ([],0)=jf (cms x u v u.length)/\zE (zTs x u v) ([],0)=jf (cms x u v u.length):=by
 have gf:∀i,i<=u.length->(cms x u v i).length<=196:=fun i hi=>by rw[zLq i hi];exact H8 (Jr (H8 hi gU) fT) (by decide)
 have um:∀i,i<u.length->V (suf x 0) (u.getD i []):=fun i hi=>hu _ (by rw[J2,J3 hi];exact Jp hi)
 have vm:∀i,i<v.length->V (suf x 0) (v.getD i []):=fun i hi=>hv _ (by rw[J2,J3 hi];exact Jp hi)
 have ev:∀j(hj:j<v.length),v.getD j []=v[j]:=fun j hj=>by rw[J2,J3 hj];rfl
 constructor
 ·have l:=zO (body:=zTt x u v) (r:=cms x u v u.length) (fun i=>(cms x u v i,(i:Int))) u.length (fun i hi=>by
   have gy:=gf i (by omega);have inner:=zO (body:=zXG x v (u.getD i [])) (r:=cms x u v (i+1)) (fun j=>(cms x u v i++(v.take j).map (fun b=>cmf x (u.getD i []) b),(j:Int))) v.length (fun j hj=>by
    unfold zXG;simp only
    rw[show decide ((j:Int)<(v.length:Int))=jh from jk,zH,yA [] hj,bs,(zCH h hc (um i hi) (vm j hj)).2.2.1,bs,zV (by simp only[J5,Jf,Ke,Jb];omega),bs,zB,bs];rw[Lt,K6,J3 hj,ev j hj,<-Jg];rfl) (by
    unfold zXG;simp only
    rw[show decide ((v.length:Int)<(v.length:Int))=ji from jj (by omega),zK,Ln,zIz hi])
   rw[Kd,Le,Jh,show((0:Nat):Int)=0 from rfl]at inner;unfold zTt;simp only
   rw[show decide ((i:Int)<(u.length:Int))=jh from jk,zH,yA [] hi,bs,inner,bs,zB,bs];rfl) (by
   unfold zTt;simp only
   rw[show decide ((u.length:Int)<(u.length:Int))=ji from jj (by omega),zK])
  exact l
 ·have l:=zO (body:=zTs x u v) (r:=cms x u v u.length) (fun i=>(cms x u v i,(i:Int))) u.length (fun i hi=>by
   have gy:=gf i (by omega);have inner:=zO (body:=zX9 x u v (cms x u v i,(i:Int))) (r:=cms x u v (i+1)) (fun j=>(cms x u v i++(v.take j).map (fun b=>cmf x (u.getD i []) b),(j:Int))) v.length (fun j hj=>by
    unfold zX9;simp only
    rw[show decide ((j:Int)<(v.length:Int))=jh from jk,zH,yA [] hi,bs,yA [] hj,bs,(zCH h hc (um i hi) (vm j hj)).2.2.2,bs,zV (by simp only[J5,Jf,Ke,Jb];omega),bs,zB,bs];rw[Lt,K6,J3 hj,ev j hj,<-Jg];rfl) (by
    unfold zX9;simp only
    rw[show decide ((v.length:Int)<(v.length:Int))=ji from jj (by omega),zK,Ln,zIz hi])
   rw[Kd,Le,Jh,show((0:Nat):Int)=0 from rfl]at inner;unfold zTs;simp only
   rw[show decide ((i:Int)<(u.length:Int))=jh from jk,zH,inner,bs,zB,bs];rfl) (by
   unfold zTs;simp only
   rw[show decide ((u.length:Int)<(u.length:Int))=ji from jj (by omega),zK])
  exact l
end
theorem zPt(hk:k<=1000000:=by omega):zXF (k:Int)=jf []:=by
 unfold zXF;rw[jj (by omega),zK,zB,bs,zB,bs]
 by_cases h:k=0
 ·subst h;rfl
 ·rw[jk,zH]
  rw[show(((k:Nat):Int)-(0-0))=(k:Int)from by omega];unfold wK;rw[if_pos (by simp only[Jt];omega),bs];unfold zS;rw[if_pos ⟨by omega,by omega,by omega⟩,bs];simp
theorem zLs{v:Mx}(hu:u.length<=1000:=by omega)(hv:v.length<=1000:=by omega):zZ4 [u,v]=jf (u++v):=by
 unfold zZ4;have l1:=zO (body:=zNX [u,v]) (r:=(((u.length+v.length:Nat)):Int)) (fun i=>((match i with|0=>0|1=>(u.length:Int)|_=>((u.length+v.length:Nat):Int)),(i:Int))) 2 (fun i hi=>by
  unfold zNX
  match i,hi with
  |0,_=>
   simp only
   rw[show decide (((0:Nat):Int)<(([u,v]:List Mx).length:Int))=jh from rfl,zH,show ixO [u,v] ((0:Nat):Int)=jf u from rfl,bs,zB,bs,jj (by omega),zK,zB,bs];simp
  |1,_=>
   simp only
   rw[show decide (((1:Nat):Int)<(([u,v]:List Mx).length:Int))=jh from rfl,zH,show ixO [u,v] ((1:Nat):Int)=jf v from rfl,bs,zB,bs,jj (by omega),zK,zB,bs];simp) (by
  unfold zNX;simp only
  rw[show decide (((2:Nat):Int)<(([u,v]:List Mx).length:Int))=ji from rfl,zK])
 have l2:=zO (body:=zNY [u,v]) (r:=u++v) (fun i=>((match i with|0=>[] |1=>u|_=>u++v),(i:Int))) 2 (fun i hi=>by
  unfold zNY
  match i,hi with
  |0,_=>
   simp only
   rw[show decide (((0:Nat):Int)<(([u,v]:List Mx).length:Int))=jh from rfl,zH,show ixO [u,v] ((0:Nat):Int)=jf u from rfl,bs,zV (by simp only[Jt];omega),bs,zB,bs];simp
  |1,_=>
   simp only
   rw[show decide (((1:Nat):Int)<(([u,v]:List Mx).length:Int))=jh from rfl,zH,show ixO [u,v] ((1:Nat):Int)=jf v from rfl,bs,zV,bs,zB,bs];simp) (by
  unfold zNY;simp only
  rw[show decide (((2:Nat):Int)<(([u,v]:List Mx).length:Int))=ji from rfl,zK])
 simp only at l1 l2;rw[show((0:Nat):Int)=0 from rfl]at l1 l2;rw[l1,bs,zPt,bs,l2,bs]
section
variable {x:SPr} (h:Pres x) (hc:xC (suf x 0))
 include h hc
theorem zG3{v:Mx}(hu:∀a∈u,V (suf x 0) a)(gU:u.length<=14)(hv:∀a∈v,V (suf x 0) a)(fT:v.length<=14):
  ∃(L:Vec->Prop)(C:Nat->Option Vec),f_X x u v=jf (wB C 0 x.zA.length)/\f_W x u v=jf (wB C 0 x.zA.length)/\zAz x L C/\(∀a,L a->V (suf x 0) a)/\
   ∀a,vS x L a↔NCl (V (suf x 0)) (mul (suf x 0)) (zeros (suf x 0).length) (· ∈cms x u v u.length) (· ∈u++v) a:=by
 obtain⟨li,ls⟩:=zPs h hc hu gU hv fT;have hV:=yEL h hc hu hv;have gy:(cms x u v u.length).length<=196:=by rw[zLq u.length (Je _)];exact H8 (Jr gU fT) (by decide)
 have hB:∀a∈u++v,V (suf x 0) a:=fun a ha=>(Ja.1 ha).elim (hu a) (hv a)
 have pq:(u++v).length<=50:=by rw[J5];omega
 obtain⟨C0,c1,c2⟩:=zEd h hc hV (by omega);obtain⟨L,C,s1,s2,s3,s4⟩:=zNq h hc (M:=cms x u v u.length) hB pq (L0:=(· ∈cms x u v u.length)) (fun a ha=>hV a ha) (fun a ha=>.x ha) (fun a ha=>.x ha) c2;obtain⟨L',C',i1,i2,i3,i4⟩:=zLn h hc hV (by omega) hB (by omega);have e:=zIy h hc s2 i2 fun a=>(s4 a).trans (i4 a).symm
 have h9:=h.os.1;refine⟨L,C,?_,?_,s2,s3,s4⟩
 ·unfold f_X
  rw[ls,bs,c1,bs,zDb (by omega) (fun i hi=>by have:=hu (u.getD i []) (by rw[J2,J3 hi];exact Jp hi);rw[zBy h hc this];omega),bs,zV,bs,s1,bs]
 ·unfold f_W
  rw[li,bs,zLs,bs,i1,bs,e]
end
noncomputable def gns (x:SPr):Mx:=(Jd x.zA.length).map (vC x.zA.length)
theorem zNr(h:Pres x):zXE x=jf (gns x):=by
 have h9:=h.os.1;have l:=zO (body:=zNW x) (r:=gns x) (fun i=>((Jd i).map (vC x.zA.length),(i:Int))) x.zA.length (fun i hi=>by
  unfold zNW;simp only
  rw[show decide ((i:Int)<(x.zA.length:Int))=jh from jk,zH,qF hi,bs,zV (by simp only[Jf,Lh,Jb];omega),bs,zB,bs,Kt,K6];rfl) (by
  unfold zNW;simp only
  rw[show decide ((x.zA.length:Int)<(x.zA.length:Int))=ji from jj (by omega),zK];rfl)
 unfold zXE yCB;rw[qf9,Le,show((0:Nat):Int)=0 from rfl]at l;rw[l,bs,bs]
section
variable {x:SPr} (h:Pres x) (hc:xC (suf x 0))
 include h hc
theorem zNs{l0:Mx}(hu:∀a∈u,V (suf x 0) a)(gU:u.length<=14)(iB:l0.length<=100){q:Int}(q0:0<=q)(q1:q<=1000):
  zE (zKc u x q) (l0,0)=jf (l0++u.map fun a=>pw (mul (suf x 0)) (zeros (suf x 0).length) a q.toNat)/\zE (zKa x u q) (l0,0)=jf (l0++u.map fun a=>pw (mul (suf x 0)) (zeros (suf x 0).length) a q.toNat):=by
 have um:∀i,i<u.length->V (suf x 0) (u.getD i []):=fun i hi=>hu _ (by rw[J2,J3 hi];exact Jp hi)
 have eu:∀j(hj:j<u.length),u.getD j []=u[j]:=fun j hj=>by rw[J2,J3 hj];rfl
 constructor
 ·have l:=zO (body:=zKc u x q) (r:=l0++u.map fun a=>pw (mul (suf x 0)) (zeros (suf x 0).length) a q.toNat) (fun i=>(l0++(u.take i).map (fun a=>pw (mul (suf x 0)) (zeros (suf x 0).length) a q.toNat),(i:Int))) u.length (fun i hi=>by
   unfold zKc;simp only
   rw[show decide ((i:Int)<(u.length:Int))=jh from jk,zH,yA [] hi,bs,zYI h hc (um i hi) q0 q1,bs,zV (by simp only[J5,Jf,Ke,Jb];omega),bs,zB,bs];rw[Lt,K6,J3 hi,eu i hi,<-Jg];rfl) (by
   unfold zKc;simp only
   rw[show decide ((u.length:Int)<(u.length:Int))=ji from jj (by omega),zK,Ln])
  rw[Kd,Le,Jh,show((0:Nat):Int)=0 from rfl]at l;exact l
 ·have l:=zO (body:=zKa x u q) (r:=l0++u.map fun a=>pw (mul (suf x 0)) (zeros (suf x 0).length) a q.toNat) (fun i=>(l0++(u.take i).map (fun a=>pw (mul (suf x 0)) (zeros (suf x 0).length) a q.toNat),(i:Int))) u.length (fun i hi=>by
   unfold zKa;simp only
   rw[show decide ((i:Int)<(u.length:Int))=jh from jk,zH,yA [] hi,bs,zVH h hc (um i hi) q0 q1,bs,zV (by simp only[J5,Jf,Ke,Jb];omega),bs,zB,bs];rw[Lt,K6,J3 hi,eu i hi,<-Jg];rfl) (by
   unfold zKa;simp only
   rw[show decide ((u.length:Int)<(u.length:Int))=ji from jj (by omega),zK,Ln])
  rw[Kd,Le,Jh,show((0:Nat):Int)=0 from rfl]at l;exact l
end
theorem zNt(h:Pres x):zX6 x=jf (gns x):=by
 have h9:=h.os.1;have l:=zO (body:=zFj (x.zA.length:Int)) (r:=gns x) (fun i=>((Jd i).map (vC x.zA.length),(i:Int))) x.zA.length (fun i hi=>by
  unfold zFj;simp only
  rw[show decide ((i:Int)<(x.zA.length:Int))=jh from jk,zH,yI,bs,yA 0 (by rw[Jl];exact hi),bs,show((i:Nat):Int).toNat=i from rfl,zV (by simp only[Jf,Lh,Jb];omega),bs,zB,bs,Kt,K6,uD,sP];rfl) (by
  unfold zFj;simp only
  rw[show decide ((x.zA.length:Int)<(x.zA.length:Int))=ji from jj (by omega),zK];rfl)
 unfold zX6 f_v;rw[qf9,Le,show((0:Nat):Int)=0 from rfl]at l;rw[l,bs,bs]
theorem zD5(h:Pres x):∀a∈gns x,V (suf x 0) a:=fun a ha=>by
 obtain⟨k,hk,rfl⟩:=Jc.1 ha;have bp:=Lj.1 hk;refine zYp x.zA.length 0 _ (by omega) (by simp[vC,mkv]) fun i hi=>?_
 have hp:=(h.os.2 i hi).pos;have e:at0 (vC x.zA.length k) i=if i=k then 1 else 0:=by exact zW hi
 rw[Ji,e];split<;>omega
theorem zRx:(gns x).length=x.zA.length:=by simp[gns]
section
variable {x:SPr} (h:Pres x) (hc:xC (suf x 0))
 include h hc
theorem zS4(hu:∀a∈u,V (suf x 0) a)(gU:u.length<=14){q:Int}(q0:0<=q)(q1:q<=1000):
  ∃(L:Vec->Prop)(C D:Nat->Option Vec),zXA x u q=jf (wB C 0 x.zA.length)/\zXH u x q=jf (wB C 0 x.zA.length)/\
   zAz x (· ∈wB D 0 x.zA.length++u.map fun a=>pw (mul (suf x 0)) (zeros (suf x 0).length) a q.toNat) C/\zAz x L D/\(∀a,L a->V (suf x 0) a)/\
   ∀a,vS x L a↔NCl (V (suf x 0)) (mul (suf x 0)) (zeros (suf x 0).length) (· ∈cms x u (gns x) u.length) (· ∈u++gns x) a:=by
 have h9:=h.os.1;have G:=g0 h hc;obtain⟨L,D,s1,i1,d1,d2,d3⟩:=zG3 h hc hu gU (zD5 h) (by rw[zRx];exact h9);have hdl:=zCG D 0 x.zA.length;obtain⟨pi,ps⟩:=zNs h hc (l0:=wB D 0 x.zA.length) hu gU (by omega) q0 q1;have tz:∀a∈wB D 0 x.zA.length++u.map (fun a=>pw (mul (suf x 0)) (zeros (suf x 0).length) a q.toNat),V (suf x 0) a:=fun a ha=>by
  rcases Ja.1 ha with ha|ha
  ·obtain⟨k,_,hk⟩:=Jai.1 ha
   exact(d1.i hk).2.2.1
  ·obtain⟨a0,k0,rfl⟩:=Jc.1 ha
   exact wV G.toMon (hu a0 k0) _
 obtain⟨C,c1,c2,c3⟩:=zIx h hc tz (by simp only[J5,Jf];omega);refine⟨L,C,D,?_,?_,c3,d1,d2,d3⟩
 ·unfold zXA
  rw[zNt h,bs,s1,bs,ps,bs,c1,bs]
 ·unfold zXH
  rw[zNr h,bs,i1,bs,pi,bs,c2,bs]
end
theorem zNu(a:List Int):∀l:Nat,(∀j,j<l->at0 a j=0)\/ ∃j,j<l/\(∀i,i<j->at0 a i=0)/\at0 a j≠0
 |0=>.inl fun j hj=>by omega
 |l+1=>by
  rcases zNu a l with h|⟨j,h1,h2⟩
  ·by_cases hl:at0 a l=0
   ·refine .inl fun j hj=>?_
    by_cases hjl:j=l
    ·subst hjl;exact hl
    ·exact h j (by omega)
   ·exact .inr ⟨l,by omega,h,hl⟩
  ·exact .inr ⟨j,by omega,h2⟩
noncomputable def gtb (x:SPr) (k:Nat):Option Vec:=if k<x.zA.length then jf (vC x.zA.length k)else jg
theorem zYK:wB (gtb x) 0 x.zA.length=gns x:=by
 have:∀(l:List Nat),(∀k∈l,k<x.zA.length)->l.filterMap (gtb x)=l.map (vC x.zA.length):=by
  intro l
  induction l with
  |nil=>intro _;rfl
  |cons k l ih=>
   intro hk;rw[Hk,gtb,if_pos (hk k (by simp)),Ju,ih fun j hj=>hk j (by simp[hj])]
 rw[wB,this _ fun k hk=>by simpa[Jb6]using hk,gns,Kw]
section
variable {x:SPr} (h:Pres x) (hc:xC (suf x 0))
 include h hc
theorem zDh:zAz x (· ∈gns x) (gtb x):=by
 have G:=g0 h hc;have F:=zBX h hc;have at_:∀{k j},j<x.zA.length->at0 (vC x.zA.length k) j=if j=k then 1 else 0:=fun hj=>zW hj
 refine⟨fun{k t} hk=>?_,fun{a} ha gc=>?_⟩
 ·by_cases eY:k<x.zA.length
  ·rw[gtb,if_pos eY]at hk
   cases hk;have hm:vC x.zA.length k∈gns x:=Jc.2 ⟨k,Lj.2 eY,rfl⟩;refine⟨eY,.x hm,zD5 h _ hm,fun j hj=>?_,?_,fun j hj fL _=>?_⟩
   ·rw[at_ (by omega),if_neg (by omega)]
   ·rw[at_ eY,if_pos rfl]
   ·rw[at_ fL,if_neg (by omega)]
  ·rw[gtb,if_neg eY]at hk;cases hk
 ·have haV:=ha.in G (zD5 h)
  rcases zNu a x.zA.length with hz|⟨j,h1,h2,h3⟩
  ·exact absurd (F.ex haV G.ein fun d hd=>by rw[F.e0 hd];exact hz d hd) gc
  ·exact⟨j,h1,by rw[gtb,if_pos h1];rfl,h2,h3⟩
end
section
variable {x:SPr} (h:Pres x) (hc:xC (suf x 0))
 include h hc
theorem zD6{c:Vec}(cV:V (suf x 0) c):vS x (· ∈gns x) c:=by
 have G:=g0 h hc;have F:=zBX h hc;have key:∀l k:Nat,k+l=x.zA.length-> ∀{a:Vec},V (suf x 0) a->(∀j,j<k->at0 a j=0)->vS x (· ∈gns x) a:=by
  intro l
  induction l with
  |zero=>
   intro k hk a ha za;rw[F.ex ha G.ein fun d hd=>by rw[F.e0 hd];exact za d (by omega)];exact .one
  |succ l ih=>
   intro k hk a ha za
   by_cases h0:at0 a k=0
   ·exact ih (k+1) (by omega) ha fun j hj=>by
     by_cases hjk:j=k
     ·subst hjk;exact h0
     ·exact za j (by omega)
   ·obtain⟨_,t2,t3,t4,t5,_⟩:=(zDh h hc).i (k:=k) (t:=vC x.zA.length k) (by rw[gtb,if_pos (by omega)])
    have eZ:=F.killl (d:=k) (by omega) t3 t4 t5 ha za;have hp:=F.pw1 (d:=k) (by omega) t3 t4 t5 (at0 x.zA k-at0 a k).toNat;have hy:=ih (k+1) (by omega) (G.cl hp.1 ha) fun j hj=>by
     by_cases hjk:j=k
     ·subst hjk;exact eZ
     ·exact F.dm (d:=k) (by omega) hp.1 ha hp.2.1 za j (by omega)
    exact Gen.right G (zD5 h) (t2.pw _) ha hy
 exact key x.zA.length 0 (by omega) cV fun j hj=>by omega
end
open Go Go.Ab Go.Wk Go.Pc GrT
def EA(x:SPr)(_:Pres x/\xC (suf x 0)):Type:={a:Vec // V (suf x 0) a}
variable {x:SPr}{w:Pres x/\xC (suf x 0)}
noncomputable instance:GrT (EA x w) where
 mul a b:=⟨mul (suf x 0) a.1 b.1,(g0 w.1 w.2).cl a.2 b.2⟩
 one:=⟨zeros (suf x 0).length,(g0 w.1 w.2).ein⟩
 inv a:=⟨Classical.choose ((g0 w.1 w.2).invl a.2),(Classical.choose_spec ((g0 w.1 w.2).invl a.2)).1⟩
 as a b c:=Subtype.ext ((g0 w.1 w.2).assoc a.2 b.2 c.2)
 ol a:=Subtype.ext ((g0 w.1 w.2).onel a.2)
 or1 a:=Subtype.ext ((g0 w.1 w.2).oner a.2)
 il a:=Subtype.ext (Classical.choose_spec ((g0 w.1 w.2).invl a.2)).2.2
 ir a:=Subtype.ext (Classical.choose_spec ((g0 w.1 w.2).invl a.2)).2.1
def mkE(w:Pres x/\xC (suf x 0))(a:Vec)(h:V (suf x 0) a):EA x w:=⟨a,h⟩
theorem yCk(a b:EA x w):(a*b).1=mul (suf x 0) a.1 b.1:=rfl
theorem zRy(a:EA x w):∀k,(pg a k).1=pw (mul (suf x 0)) (zeros (suf x 0).length) a.1 k
 |0=>rfl
 |k+1=>by rw[pg,yCk,zRy a k,Pc.pw,Pc.pw,xR]
theorem yA6{a b c:EA x w}(h:mul (suf x 0) (mul (suf x 0) b.1 a.1) c.1=mul (suf x 0) a.1 b.1):c=a⁻¹*b⁻¹*a*b:=
 zQG (a:=b*a) (by simp only[as,cl2];rw[<-as];exact Subtype.ext h)
theorem yEM{a b c:EA x w}(h:mul (suf x 0) b.1 c.1=mul (suf x 0) a.1 b.1):c=b⁻¹*a*b:=
 zQG (a:=b) (by simp only[as,cl2];exact Subtype.ext h)
theorem zVO(X:Vec->Prop):Sg (A:=EA x w) fun a=>vS x X a.1:=⟨.one,fun h1 h2=>.m h1 h2,fun{a} h=>.i h (a⁻¹).2 (congrArg (·.1) (ir a))⟩
theorem zLt{X:Vec->Prop}{H:EA x w->Prop}(hH:Sg H)(hX:∀a,X a-> ∃h,H (mkE w a h))(ha:vS x X a):∃h,H (mkE w a h):=by
 induction ha with
 |one=>exact⟨_,hH.o⟩
 |x k=>exact hX _ k
 |m _ _ k1 k2=>obtain⟨a,a1⟩:=k1;obtain⟨b,b1⟩:=k2;exact⟨_,hH.m a1 b1⟩
 | @i a b _ hb hh k=>
  obtain⟨h,h1⟩:=k;refine⟨hb,?_⟩;rw[show mkE w b hb=(mkE w a h)⁻¹ from zDN (Subtype.ext hh)];exact hH.i h1
theorem zVP:Fil (fun _:EA x w=>True) (· *·) 1 x.zA.length (fun d=>at0 x.zA d) (fun a d=>at0 a.1 d):=by
 have F:=zBX w.1 w.2;exact⟨⟨⟨fun _ _=>trivial,trivial,fun _ _ _=>as _ _ _,fun _=>ol _,fun _=>or1 _⟩,fun{a} _=>⟨a⁻¹,trivial,ir a⟩⟩,fun{a d} _ hd=>F.r a.2 hd,fun hd=>F.e0 hd,
  fun{a b} _ _ h=>Subtype.ext (F.ex a.2 b.2 h),fun{a b d} _ _ hd h=>F.ad a.2 b.2 hd h⟩
def zCI(w:Pres x/\xC (suf x 0))(q i:Nat)(t:Mx):Prop:=∃Y C,t=wB C 0 x.zA.length/\zAz x Y C/\(∀a,Y a->V (suf x 0) a)/\ ∀a:EA x w,vS x Y a.1↔Qm q i a
theorem zCI.v{t:Mx}(h:zCI w q i t):(∀a∈t,V (suf x 0) a)/\t.length<=x.zA.length/\ ∀a:EA x w,Ge (fun b=>b.1∈t) a↔Qm q i a:=by
 obtain⟨Y,C,rfl,hC,hY,hQ⟩:=h;have pP:=zFf w.1 w.2 hY hC;have hV:∀a∈wB C 0 x.zA.length,V (suf x 0) a:=fun a ha=>((pP a).2 (.x ha)).in (g0 w.1 w.2) hY
 refine⟨hV,zCG C 0 x.zA.length,fun a=>?_⟩;rw[<-hQ a,pP];constructor
 ·intro h;exact h.to (zVO _) fun b hb=>.x hb
 ·intro h
  obtain⟨_,h1⟩:=zLt (w:=w) (H:=Ge fun b=>b.1∈wB C 0 x.zA.length) (Ge.s _) (fun a ha=>⟨hV a ha,.x ha⟩) h;exact h1
theorem zPu(a:EA x w):Ge (fun b=>b.1∈gns x) a:=by obtain⟨_,h1⟩:=zLt (w:=w) (H:=Ge fun b=>b.1∈gns x) (Ge.s _) (fun a ha=>⟨zD5 w.1 a ha,.x ha⟩) (zD6 w.1 w.2 a.2);exact h1
theorem zVQ(hq:q<=1000){t:Mx}(h:zCI w q i t)(hl:x.zA.length<=14):∃s,zXA x t q=jf s/\zXH t x q=jf s/\zCI w q (i+1) s:=by
 obtain⟨hV,fd,hQ⟩:=h.v;obtain⟨L,C,D,e1,e2,c3,d1,d2,d3⟩:=zS4 w.1 w.2 hV (by omega) (q:=(q:Int)) (by omega) (by omega);simp only[J8]at c3;have eg:=zFf w.1 w.2 d2 d1;have i5:Qm q i=Ge (A:=EA x w) (fun b=>b.1∈t):=funext fun a=>propext (hQ a).symm
 have hn:=Qm.n (A:=EA x w) q i;have bh:=Qm.n (A:=EA x w) q (i+1);have gK:∀a,NCl (V (suf x 0)) (mul (suf x 0)) (zeros (suf x 0).length) (· ∈cms x t (gns x) t.length) (· ∈t++gns x) a-> ∃h,Qm q (i+1) (mkE w a h):=fun a ha=>by
  induction ha with
  |one=>exact⟨_,bh.o⟩
  |x hx=>
   obtain⟨y,hy,b,hb,rfl⟩:=zLr.1 hx;obtain⟨k1,k2,_,_⟩:=zCH w.1 w.2 (hV y hy) (zD5 w.1 b hb);refine⟨k1,.x (.inl ⟨mkE w y (hV y hy),mkE w b (zD5 w.1 b hb),(hQ _).1 (.x hy),yA6 (c:=mkE w _ k1) k2⟩)⟩
  |m _ _ k1 k2=>obtain⟨a,a1⟩:=k1;obtain⟨b,b1⟩:=k2;exact⟨_,bh.m a1 b1⟩
  | @i a b _ hb hh k=>
   obtain⟨h,h1⟩:=k;refine⟨hb,?_⟩;rw[show mkE w b hb=(mkE w a h)⁻¹ from zDN (Subtype.ext hh)];exact bh.i h1
  | @c a b c _ hb cV hh k=>
   obtain⟨h,h1⟩:=k;have tu:V (suf x 0) b:=by
    rcases Ja.1 hb with hb|hb
    ·exact hV b hb
    ·exact zD5 w.1 b hb
   refine⟨cV,?_⟩;rw[yEM (a:=mkE w a h) (b:=mkE w b tu) (c:=mkE w c cV) hh];exact bh.c _ h1
 refine⟨_,e1,e2,_,C,rfl,c3,fun a ha=>?_,fun a=>⟨fun ha=>?_,fun ha=>?_⟩⟩
 ·rcases Ja.1 ha with ha|ha
  ·exact((eg a).2 (.x ha)).in (g0 w.1 w.2) d2
  ·obtain⟨b,hb,rfl⟩:=Jc.1 ha
   exact wV (g0 w.1 w.2).toMon (hV b hb) _
 ·obtain⟨_,h1⟩:=zLt (w:=w) bh.toSg (fun b hb=>by
   rcases Ja.1 hb with hb|hb
   ·exact gK b ((d3 b).1 ((eg b).2 (.x hb)))
   ·obtain⟨c,hc,rfl⟩:=Jc.1 hb
    have:Qm (A:=EA x w) q (i+1) (pg (mkE w c (hV c hc)) q):=.x (.inr ⟨_,(hQ _).1 (.x hc),rfl⟩);refine⟨wV (g0 w.1 w.2).toMon (hV c hc) _,?_⟩;rw[show mkE w _ (wV (g0 w.1 w.2).toMon (hV c hc) q)=pg (mkE w c (hV c hc)) q from Subtype.ext (zRy (mkE w c (hV c hc)) q).symm];exact this) ha
  exact h1
 ·change Ge (NX q (Qm q i)) a at ha
  rw[i5]at ha;have hN:Nm (A:=EA x w) fun a=>vS x L a.1:=Nm.of zVP (zVO _) (B:=fun b=>b.1∈gns x) zPu fun{a b} ha hb=>(d3 _).2 (.c ((d3 _).1 ha) (Ja.2 (.inr hb)) (b⁻¹*a*b).2 (by rw[<-yCk,<-yCk];simp[as,cl2]))
  refine zYn zPu hN (fun{u b} hu hb=>(d3 _).2 (.x (zLr.2 ⟨u.1,hu,b.1,hb,?_⟩))) (zVO _) (fun b hb=>?_) (fun u hu=>?_) ha
  ·obtain⟨k1,k2,_,_⟩:=zCH w.1 w.2 u.2 b.2
   exact congrArg (·.1) (yA6 (a:=u) (b:=b) (c:=mkE w _ k1) k2)
  ·exact Gen.to (fun c hc=>.x (Ja.2 (.inl hc))) ((eg _).1 hb)
  ·rw[zRy];exact .x (Ja.2 (.inr (Jc.2 ⟨u.1,hu,rfl⟩)))
variable {x:SPr}{w:Pres x/\xC (suf x 0)}
theorem zVR{s t:Mx}(ht:zCI w q i t)(hs:zCI w q (i+1) s):s.length<=t.length/\(s.length=t.length->s=t/\ ∀a:EA x w,Qm q i a->Qm q (i+1) a)/\(s.length<t.length-> ∃a:EA x w,Qm q i a/\ ¬Qm q (i+1) a):=by
 obtain⟨Y,C,rfl,hC,hY,hQ⟩:=ht;obtain⟨Z,D,rfl,hD,hZ,hR⟩:=hs;have G:=g0 w.1 w.2;have ey:∀a,vS x Z a->vS x Y a:=fun a ha=>(hQ (mkE w a (ha.in G hZ))).2 ((Qm.n q i).sub ((hR (mkE w a (ha.in G hZ))).1 ha))
 have fd:=(Pc.some_len (C:=D) (D:=C) (K7 0 x.zA.length) (fun k _ hk=>Pc.Can.sub (zBX w.1 w.2) hD hC ey hk)).1;refine⟨fd,fun hl=>?_,fun hl=>?_⟩
 ·have e:=zRw w.1 w.2 hY hD hC ey hl
  exact⟨zIy w.1 w.2 hD hC e,fun a ha=>(hR a).1 ((e _).2 ((hQ a).2 ha))⟩
 ·refine Classical.byContradiction fun hn=>?_
  have e:∀a,vS x Z a↔vS x Y a:=fun a=>⟨ey a,fun ha=>(hR (mkE w a (ha.in G hY))).2 (Classical.byContradiction fun h=>hn ⟨_,(hQ (mkE w a (ha.in G hY))).1 ha,h⟩)⟩
  rw[zIy w.1 w.2 hD hC e]at hl;omega
theorem zVS{t:Mx}(h:zCI w q i t):∀r∈t,r.length<=1000:=fun r hr=>by have:=zBy w.1 w.2 (h.v.1 r hr);have:=w.1.os.1;omega
theorem zI0(w:Pres x/\xC (suf x 0))(hq:q<=1000:=by omega):∃s,zPW x q=jf s/\zOa x q=jf s/\0<s.length/\s.length<=20/\(∀i,i<s.length->zCI w q i (s.getD i []))/\
  (∀i,i+1<s.length-> ∃a:EA x w,Qm q i a/\ ¬Qm q (i+1) a)/\ ∀a:EA x w,Qm q (s.length-1) a->Qm q (s.length-1+1) a:=by
 have h9:=w.1.os.1;have dy:zCI w q 0 (gns x):=⟨(· ∈gns x),gtb x,zYK.symm,zDh w.1 w.2,zD5 w.1,fun a=>⟨fun _=>trivial,fun _=>zD6 w.1 w.2 a.2⟩⟩;obtain⟨s,r1,r2,r3⟩:=vZ (body:=zRC (x,(q:Int))) (Q:=fun s=>zE (zI9 x q) [gns x]=jf s/\0<s.length/\s.length<=20/\(∀i,i<s.length->zCI w q i (s.getD i []))/\
  (∀i,i+1<s.length-> ∃a:EA x w,Qm q i a/\ ¬Qm q (i+1) a)/\ ∀a:EA x w,Qm q (s.length-1) a->Qm q (s.length-1+1) a)
  (fun s=>zE (zI9 x q) [gns x]=zE (zI9 x q) s/\ ∃s0 t,s=s0++[t]/\s0.length+t.length<=19/\(∀i,i<s.length->zCI w q i (s.getD i []))/\ ∀i,i+1<s.length-> ∃a:EA x w,Qm q i a/\ ¬Qm q (i+1) a) (fun s=>30-s.length) (fun s hs=>by
   obtain⟨p8,s0,t,rfl,hl,hM,hN⟩:=hs;have gf:(s0++[t]).length=s0.length+1:=by simp
   have ht:=hM s0.length (by omega);have et:(s0++[t]).getD s0.length []=t:=by simp
   rw[et]at ht;obtain⟨z,e1,e2,hz⟩:=zVQ hq ht h9;obtain⟨k1,k2,k3⟩:=zVR ht hz;have ei:ixO (s0++[t]) ((((s0++[t]).length:Nat):Int)-1)=jf t:=by rw[show(((s0++[t]).length:Nat):Int)-1=(s0.length:Int)from by simp,yA [] (by simp)];simp
   have spec1:zI9 x q (s0++[t])=cond ((z.length:Int)==(t.length:Int)) (jf (.inr (s0++[t]))) (jf (.inl (s0++[t]++[z]))):=by unfold zI9;rw[zB,bs,ei,bs,e1,bs,zV (by simp only[J5,Jb];omega),bs]
   unfold zRC;simp only
   rw[zB,bs,ei,bs,e2,bs,bs,ei,bs,zD0 (by have:=hz.v.2.1;omega) (zVS hz),bs]
   by_cases g:z.length=t.length
   ·right
    obtain⟨g1,g2⟩:=k2 g;rw[show(z==t)=jh from by rw[g1];simp,zH];refine⟨_,rfl,?_,by omega,by omega,hM,hN,fun a=>?_⟩
    ·rw[p8,yQ,spec1,show((z.length:Int)==(t.length:Int))=jh from by simp[g],zH]
    ·rw[gf,Jaw];exact g2 a
   ·left
    rw[show(z==t)=ji from by apply beq_false_of_ne;intro e;exact g (by rw[e]),zK,zV (by simp only[J5,Jb];omega),bs]
    refine⟨_,rfl,⟨?_,s0++[t],z,rfl,by omega,fun i hi=>?_,fun i hi=>?_⟩,by simp only[J5,Jb];omega⟩
    ·rw[p8,yQ,spec1,show((z.length:Int)==(t.length:Int))=ji from by simp;omega,zK]
    ·simp only[J5,Jb]at hi
     by_cases c:i<s0.length+1
     ·have:=hM i (by omega)
      rwa [J2,Jy (by omega),<-J2]
     ·obtain rfl:i=s0.length+1:=by omega
      rw[show(s0++[t]++[z]).getD (s0.length+1) []=z by simp];exact hz
    ·simp only[J5,Jb]at hi
     by_cases c:i+1<s0.length+1
     ·exact hN i (by omega)
     ·obtain rfl:i=s0.length:=by omega
      exact k3 (by omega)) 100 [gns x] (by simp)
  ⟨rfl,[],gns x,rfl,by rw[zRx];simp;omega,fun i hi=>by
   obtain rfl:i=0:=by simpa using hi
   exact dy,fun i hi=>by simp at hi⟩
 refine⟨s,?_,?_,r3⟩
 ·unfold zPW
  rw[zNt w.1,bs,r2,bs]
 ·unfold zOa zZ7
  rw[zNr w.1,bs,r1,bs,bs]
theorem zVT(hq:q=2\/q=3\/q=5\/q=7)(ho:∀d,d<x.zA.length->at0 x.zA d=q)(h:∀a:EA x w,Qm q i a->Qm q (i+1) a)(a:EA x w)(ha:Qm q i a):a=1:=by
 have F:=zVP (w:=w);have F':Fil (fun _:EA x w=>True) (· *·) 1 x.zA.length (fun _=>(q:Int)) (fun a d=>at0 a.1 d):=⟨F.g,fun{a d} _ hd=>by
  have:=F.r (a:=a) trivial hd
  rwa [ho d hd]at this,F.e0,F.ex,fun{a b d} _ _ hd hz=>by
  have:=F.ad (a:=a) (b:=b) trivial trivial hd hz
  rwa [ho d hd]at this⟩
 refine Classical.byContradiction fun hn=>?_
 obtain⟨b,b1,b2⟩:=yEn F' hq (fun i hi=>by obtain⟨_,_,t3,t4,t5,_⟩:=(zDh w.1 w.2).i (k:=i) (t:=vC x.zA.length i) (by rw[gtb,if_pos hi]);exact⟨mkE w _ t3,t4,t5⟩) (Qm.n q i) ⟨a,ha,hn⟩
 exact b2 (h b b1)
def wt(g:Nat->Int):List Nat->Int
 | []=>0
 |a::w=>g a+wt g w
theorem zBM{g:Nat->Int}:∀(u v:List Nat),wt g (u++v)=wt g u+wt g v
 | [],v=>by simp[wt]
 |a::u,v=>by rw[K9,wt,zBM u v,wt];omega
theorem zI1{g:Nat->Int}{a:Nat}:∀k:Nat,wt g (J1 k a)=k*g a
 |0=>by simp[wt]
 |k+1=>by rw[Jv,wt,zI1 k,Jbd,Jbo];omega
def tsm(t:Nat->Int):Trc->Int
 | []=>0
 |q::tr=>t q.1+tsm t tr
section
variable {x:SPr}{g t:Nat->Int}
structure Wt (x:SPr) (g t:Nat->Int):Prop where
 p:∀a,a<x.zA.length->t a=wt g (nw 0 (x.zQ.getD a []))-yD x a*g a
 c:∀b a,b<a->a<x.zA.length->t (base x.zA.length b+(a-(b+1)))=wt g (nw 0 (lcj x b a))-g a
variable (hW:Wt x g t)
 include hW
theorem yEN:∀{w:List Nat}{r:zCA},(∀a∈w,a<x.zA.length)->hdS x w=jf r->wt g r.2.2=wt g w+t r.1/\ ∀a∈r.2.1,a∈w:=by
 intro w r hw h;unfold hdS at h;have pw:∀{w:List Nat},(∀a∈w,a<x.zA.length)->pws x w=jf r->wt g r.2.2=wt g w+t r.1/\ ∀a∈r.2.1,a∈w:=fun{w} hw h=>by
  match w,h with
  | [],h=>cases h
  |a::w,h=>
   simp only[pws]at h
   by_cases k:(a::w).take (yD x a)=J1 (yD x a) a
   ·rw[if_pos k]at h
    cases h;refine⟨?_,fun b hb=>List.mem_of_mem_drop hb⟩;have e:=Jbl (yD x a) (a::w);rw[k]at e;have:=congrArg (wt g) e;rw[zBM,zI1]at this;simp only
    rw[zBM,hW.p a (hw a (by simp))];omega
   ·rw[if_neg k]at h;cases h
 match w,h with
 | [],h=>exact pw hw h
 | [a],h=>exact pw hw h
 |a::b::s,h=>
  simp only[swp]at h
  by_cases k:b<a
  ·rw[if_pos k]at h
   cases h;refine⟨?_,fun c hc=>by simp only at hc;simp[hc]⟩;simp only[wt];rw[zBM,hW.c b a k (hw a (by simp))];omega
  ·rw[if_neg k]at h;exact pw hw h
theorem yA7:∀{w:List Nat}{r:zCA},(∀a∈w,a<x.zA.length)->stS x w=jf r->wt g r.2.2=wt g w+t r.1/\ ∀a∈r.2.1,a∈w
 | [],_,_,h=>by cases h
 |a::w,r,hw,h=>by
  simp only[stS]at h;cases e:hdS x (a::w)with
  |some q=>rw[e]at h;cases h;exact yEN hW hw e
  |none=>
   rw[e]at h;cases e2:stS x w with
   |none=>rw[e2]at h;cases h
   |some q=>
    rw[e2]at h;cases h;obtain⟨k1,k2⟩:=yA7 (fun b hb=>hw b (by simp[hb])) e2;exact⟨by simp only[wt];omega,fun b hb=>by simp[k2 b hb]⟩
theorem zVU{w w':List Nat}{tr:Trc}(hc:Col x k w tr w'):wt g w'=wt g w+tsm t tr/\ ∀q∈tr,∀a∈q.2,a<x.zA.length:=by
 induction hc with
 |refl w=>exact⟨by simp[tsm],by simp⟩
 | @step w w1 w' s r tr hw hs _ ih=>
  obtain⟨k1,k2⟩:=yA7 hW (fun a ha=>(hw a ha).2) hs;simp only at k1 k2;refine⟨by rw[ih.1,k1,tsm];show _=_+(t r+_);omega,fun q hq=>?_⟩;rcases J9.1 hq with rfl|hq
  ·exact fun a ha=>(hw a (k2 a ha)).2
  ·exact ih.2 q hq
end
theorem zPv{q:Int}(hq:Prime q){n N:Nat}{T:Mx}{t:Nat->Int}(hT:∀i,i<N->Row q 1 (T.getD i [])/\at0 (T.getD i []) 0%q=t i%q):∀tr:Trc,(∀p∈tr,p.1<N/\ ∀a∈p.2,a<n)->tv q 1 (xQ q 1 n) T tr=mkv 1 fun _=>tsm t tr%q
 | [],_=>by rfl
 |(r,s)::tr,h=>by
  have h0:=h (r,s) (by simp);have ih:=zPv hq hT tr fun p hp=>h p (by simp[hp])
  obtain⟨h1,h2⟩:=hT r h0.1;simp only[tv,tsm];rw[ih,zBx s (tL hq.pos.1) h0.2,sZ h1,adv];refine zX fun j hj=>?_
  obtain rfl:j=0:=by omega
  rw[zW,Int.add_emod_emod,Ka,h2,<-Ka]
theorem zRz{x:SPr}(h:Pres x)(h6:x.zA.length<=6):∀b,b<=x.zA.length->x.zA.length+((Jd b).flatMap (R2 x)).length=base x.zA.length b
 |0,_=>by simp[base]
 |b+1,hb=>by
  have ih:=zRz h h6 b (by omega);have:=(h.tl b (by omega)).2.1;have e:((Jd (b+1)).flatMap (R2 x)).length=((Jd b).flatMap (R2 x)).length+(x.zG.getD b []).length:=by rw[Kt,U4,J5];simp only[Kr,qe9,Jh,R2,Jf,Lh]
  rw[zJE _ (by omega) b (by omega),<-ih,e];omega
theorem yCl{x:SPr}{a:Nat}(ha:a<x.zA.length):(wN x).getD a ([],[])=r1 x a:=by rw[wN,J2,Jy (by simp;exact ha)];simp[ha]
theorem yCm{x:SPr}(h:Pres x)(h6:x.zA.length<=6){b:Nat}(hb:b<x.zA.length:=by omega)(hj:b+j+1<x.zA.length:=by omega):(wN x).getD (base x.zA.length b+j) ([],[])=r2 x b j:=by
 have hf:=zRz h h6 b (by omega);have hl:=(h.tl b hb).2.1;have e:Jd x.zA.length=Jd b++b::K7 (b+1) (x.zA.length-(b+1)):=by have a1:=@List.range'_append_1 0 b (x.zA.length-b);rw[Ji,show b+(x.zA.length-b)=x.zA.length by omega,show x.zA.length-b=x.zA.length-(b+1)+1 by omega,Ho]at a1;rw[Kw,Kw,<-a1]
 have e2:(Jd x.zA.length).flatMap (R2 x)=(Jd b).flatMap (R2 x)++(R2 x b++(K7 (b+1) (x.zA.length-(b+1))).flatMap (R2 x)):=by rw[e,U4,Kr]
 have l1:((Jd x.zA.length).map (r1 x)).length=x.zA.length:=by simp
 have l2:(R2 x b).length=(x.zG.getD b []).length:=by simp only[R2,Jf,Lh]
 have ei:base x.zA.length b+j-((Jd x.zA.length).map (r1 x)++(Jd b).flatMap (R2 x)).length=j:=by rw[J5,l1];omega
 rw[wN,e2,<-Jg,J2,Jk (by rw[J5,l1];omega),ei,Jy (by omega),R2,Jw,Qv (by omega)];rfl
theorem zPw{q:Int}(hq:Prime q){n:Nat}{u:Mx}:∀(w:List Nat)(v:List Int),(∀a∈w,a<n)->Row q 1 v->at0 (ev (xQ q 1 n) 1 u v w) 0=(at0 v 0+wt (fun a=>at0 (u.getD a []) 0) w)%q
 | [],v,_,hv=>by have:=hv.2 0 (by omega);show at0 v 0=_;rw[wt,L9,Jq (by omega) (by omega)]
 |a::w,v,hw,hv=>by show at0 (ev (xQ q 1 n) 1 u (stp (xQ q 1 n) 1 u v a) w) 0=_;rw[zVG (hw a (by simp)) hv,zPw hq w _ (fun b hb=>hw b (by simp[hb])) (qW hq),uR,zW,wt,G4,Gp,Int.add_assoc]
theorem zPx{g:Nat->Int}:∀w,wt (fun a=> -g a) w= -wt g w
 | []=>rfl
 |a::w=>by rw[wt,zPx w,wt];omega
section
variable {x:SPr} (hx:zAA x) {q:Int} (hq:Prime q) (hc:xC (suf x 0)) (h0:0<x.zA.length)
 include hx hq
theorem yCn(hi:i<x.zA.length):∃g t,Wt x g t/\ ∀r,r<base x.zA.length x.zA.length->at0 ((zC9 x (xQ q 1 x.zA.length) 1).getD i []) r%q=t r%q:=by
 have h:=hx.toPres;have h6:=hx.n6;have hl:=zEP h h6;refine⟨fun a=> -at0 ((uv x.zA.length 1 i).getD a []) 0,fun r=>wt (fun a=> -at0 ((uv x.zA.length 1 i).getD a []) 0) ((wN x).getD r ([],[])).2-wt (fun a=> -at0 ((uv x.zA.length 1 i).getD a []) 0) ((wN x).getD r ([],[])).1,⟨fun a ha=>?_,fun b a hb ha=>?_⟩,fun r hr=>?_⟩
 ·rw[yCl ha,r1,zI1]
 ·rw[yCm h h6,r2,wt,wt,wt,wt,show b+(a-(b+1))+1=a by omega,show(x.zG.getD b []).getD (a-(b+1)) []=lcj x b a from rfl]
  omega
 ·have cB:r<(wN x).length:=by omega
  have pF:(wN x)[r]? =jf (wN x)[r]:=by simp
  obtain⟨z1,z2⟩:=yCj h _ (Jp cB);have hz:=zFH (p:=q) (D:=1) (by have:=hq.pos;omega);have:=zMP (F:=dfc (xQ q 1 x.zA.length) 1 (uv x.zA.length 1 i)) (show 0<1 by omega) (wN x) r (wN x)[r] (fun _ _=>zMF) pF;rw[Lz,Um]at this;rw[zC9,zJG,xJ,this,dfc,uR,zW,zPw hq _ _ z1 hz,zPw hq _ _ z2 hz];show _=(wt _ _-wt _ _)%q;rw[zPx,zPx,J2,pF];have e0:at0 (z0 1) 0=0:=rfl;rw[e0,Kq,Kq];show _%q%q=_;rw[K3,G4];simp only[Lq];rw[show(-1)*(wt (fun a=>at0 ((uv x.zA.length 1 i).getD a []) 0) (wN x)[r].2%q)= -(wt (fun a=>at0 ((uv x.zA.length 1 i).getD a []) 0) (wN x)[r].2%q)by omega,<-Int.sub_eq_add_neg,Qg,K3,<-Qg]
  congr 1
  omega
 include hc h0
theorem zYL{g t:Nat->Int}(hW:Wt x g t){y:Vec}(hy:Row q (base x.zA.length x.zA.length) y)(ht:∀r,r<base x.zA.length x.zA.length->at0 y r%q=t r%q):xC (suf (exx 1 x (xQ q 1 x.zA.length) (Tc (base x.zA.length x.zA.length) 1 y)) 0):=by
 have h:=hx.toPres;have h6:=hx.n6;have hD:MOk x.zA.length (xQ q 1 x.zA.length) 1:=zFa hq;have hr:=zCE (D:=1) h hq;have hB:=Lz (base x.zA.length x.zA.length);obtain⟨K,pk,_,_,k3⟩:=zAI hx hD h0 hc hr;have hz:Row q (base x.zA.length x.zA.length*1) (zeros (base x.zA.length x.zA.length*1)):=yX (by have:=hq.pos;omega);have c0:=(k3 _ hz).1 (zAC fun j _=>by rw[wJ];rfl);obtain⟨dI,dE⟩:=zNf hx hD hz;obtain⟨hE,hT⟩:=zNf hx hD (y:=y) (by rw[hB];exact hy);have pf:∀k,k<x.zA.length->LC x k:=fun k hk=>((kG h.w hk).1 (tO hc k)).2
 refine(zJJ h hE hT hc hr).1 ?_;have hTT:∀i,i<base x.zA.length x.zA.length->Row q 1 ((Tc (base x.zA.length x.zA.length) 1 y).getD i [])/\at0 ((Tc (base x.zA.length x.zA.length) 1 y).getD i []) 0%q=t i%q:=fun i hi=>by
  have e:(Tc (base x.zA.length x.zA.length) 1 y).getD i []=mkv 1 fun j=>at0 y (i*1+j):=by rw[Tc,xJ hi];rfl
  refine⟨hT i (by rw[Tc,wL];exact hi),?_⟩;rw[e,zW,Lz,Um];exact ht i hi
 have bb:=wA x.zA.length (by omega);have key:∀{k r1 r2:Nat}{s1 s2 w1 w2:List Nat}{u1 u2:Trc}{y1 y2:Vec},tT x k w1 u1 y1->tT x k w2 u2 y2->y1=y2->r1<base x.zA.length x.zA.length->r2<base x.zA.length x.zA.length->(∀a∈s1,a<x.zA.length)->(∀a∈s2,a<x.zA.length)->t r1-wt g w1=t r2-wt g w2->
   tv q 1 (xQ q 1 x.zA.length) (Tc (base x.zA.length x.zA.length) 1 y) ((r1,s1)::u1)=tv q 1 (xQ q 1 x.zA.length) (Tc (base x.zA.length x.zA.length) 1 y) ((r2,s2)::u2):=by
  intro k r1 r2 s1 s2 w1 w2 u1 u2 y1 y2 k1 k2 hyy b1 b2 a1 a2 he;obtain⟨e1,l1⟩:=zVU hW k1.col;obtain⟨e2,l2⟩:=zVU hW k2.col;have m1:=Col.lt h6 k1.col;have m2:=Col.lt h6 k2.col;rw[zPv hq hTT _ (fun p hp=>by
   rcases J9.1 hp with rfl|hp
   ·exact⟨b1,a1⟩
   ·exact⟨m1 p hp,l1 p hp⟩),zPv hq hTT _ (fun p hp=>by
   rcases J9.1 hp with rfl|hp
   ·exact⟨b2,a2⟩
   ·exact⟨m2 p hp,l2 p hp⟩)]
  refine zX fun _ _=>?_
  subst hyy
  congr 1
  simp only[tsm];omega
 have ho:∀i,i<x.zA.length->1<=yD x i:=fun i hi=>by have:=(h.os.2 i hi).pos;show 1<=(at0 x.zA i).toNat;omega
 have fw:∀i j,i<j->j<x.zA.length->base x.zA.length i+(j-(i+1))<base x.zA.length x.zA.length:=fun i j hi hj=>by have:=zAd x.zA.length (by omega) i (by omega);omega
 have hm1:∀o:Nat,1<=o-> ∀c:Int,((o-1:Nat):Int)*c=o*c-c:=fun o ho c=>by rw[Int.natCast_sub ho,Int.sub_mul];omega
 refine⟨?_,?_,?_,?_⟩
 ·rintro k j h1 h2 t1 t2 ⟨⟨u1,y1,rfl,k1⟩,⟨u2,y2,rfl,k2⟩⟩
  refine key k1 k2 (zVy h dI dE (by omega) (tO c0 _) (pf k (by omega)) (by omega) h2 k1 k2).1 (by omega) (fw k j h1 h2) (by simp;omega) (by simp) ?_;rw[hW.p j h2,hW.c k j h1 h2,zBM,zBM,zI1,wt,wt,wt,hm1 _ (ho j h2)];omega
 ·rintro k i j h1 gI h2 t1 t2 ⟨⟨u1,y1,rfl,k1⟩,⟨u2,y2,rfl,k2⟩⟩
  refine key k1 k2 (zVz h dI dE (by omega) (tO c0 _) (pf k (by omega)) (by omega) gI h2 k1 k2).1 (fw i j gI h2) (fw k i h1 (by omega)) (by simp;omega) (by simp) ?_;rw[hW.c i j gI h2,hW.c k i h1 (by omega),wt,zBM,wt,wt,wt,wt];omega
 ·rintro k hk t1 t2 ⟨⟨u1,y1,rfl,k1⟩,⟨u2,y2,rfl,k2⟩⟩
  refine key k1 k2 (zVx h dI dE hk (tO c0 _) (pf k hk) k1 k2).1 (by omega) (by omega) (by simp;omega) (by simp) ?_;rw[zBM,wt,wt,wt];omega
 ·rintro k j h1 h2 t1 t2 ⟨⟨u1,y1,rfl,k1⟩,⟨u2,y2,rfl,k2⟩⟩
  refine key k1 k2 (zV1 h dI dE (by omega) (tO c0 _) (pf k (by omega)) (by omega) h2 k1 k2).1 (fw k j h1 h2) (by omega) (fun a ha=>by rw[H2 ha];omega) (by simp) ?_;rw[hW.c k j h1 h2,hW.p k (by omega),wt,zBM,zI1,wt,hm1 _ (ho k (by omega))];omega
end
section
variable {x:SPr} (hc:uM x) (hp:zIN x)
 include hc hp
theorem zPy(hC:zI6 x=jf C):∀i,i<C.length->xC (suf (exx 1 x (xQ (at0 x.zA 0) 1 x.zA.length) (Tc (base x.zA.length x.zA.length) 1 (C.getD i []))) 0):=by
 have hx:=hc.2.2;have h6:=hx.n6;have hq:=hc.1.os.2 0 hp.1;have hD:MOk x.zA.length (xQ (at0 x.zA 0) 1 x.zA.length) 1:=zFa hq;have hr:=zCE (D:=1) hc.1 hq;have hb:=wA x.zA.length (by omega);have hB:=Lz (base x.zA.length x.zA.length);obtain⟨R,pv,r1,r2,r3,r4⟩:=zJM hx hD;obtain⟨R',pv',r1',_,s1,_⟩:=zVo hx hD;rw[r1]at r1';cases r1';obtain⟨K,pk,k1,k2,k3⟩:=zAI hx hD hp.1 hc.2.1 hr;have hK:=k2.len_le;have hl:(gl K.length fun i=>cl (xQ (at0 x.zA 0) 1 x.zA.length).Prime (base x.zA.length x.zA.length*1) R pv (K.getD i []) R.length).length=K.length:=wL;obtain⟨C',pc,c1,c2,c3,c4⟩:=uW hD.p (n:=base x.zA.length x.zA.length*1) (rows:=gl K.length fun i=>cl (xQ (at0 x.zA 0) 1 x.zA.length).Prime (base x.zA.length x.zA.length*1) R pv (K.getD i []) R.length) (by omega) (by omega) (fun i hi=>by rw[hl]at hi;rw[xJ hi];exact(r4 _ (k2.row i hi)).1)
 have e:zI6 x=jf C':=by
  unfold zI6 zZu;rw[show(0:Int)=((0:Nat):Int)from rfl,yJ hp.1,bs,show(1:Int)=((1:Nat):Int)from rfl,zJN hq h6,bs,bs];unfold zXw;rw[r1,bs,k1,bs,wI (body:=zGr (xQ (at0 x.zA 0) 1 x.zA.length) R K) K.length (fun i=>cl (xQ (at0 x.zA 0) 1 x.zA.length).Prime (base x.zA.length x.zA.length*1) R pv (K.getD i []) R.length) (fun i acc hi ha=>by
   unfold zGr;simp only
   rw[yP hi,zH,yA [] hi,bs,(r4 _ (k2.row i hi)).2.1,bs,zV (by simp only[J7,Jt];omega),bs,zB,bs];rfl) (fun acc=>by
   unfold zGr;simp),bs,c1,bs,bs]
 rw[e]at hC;cases hC;have hR:∀i,i<R.length->Sp (at0 x.zA 0) (base x.zA.length x.zA.length*1) K (R.getD i []):=fun i hi=>by
  refine sL (fun k hk=>?_) ((s1 _).1 (uN hi));have bp:k<x.zA.length:=by have:(zC9 x (xQ (at0 x.zA 0) 1 x.zA.length) 1).length=x.zA.length*1:=wL;omega
  have gG:=zSn hx hD (i:=k) (by omega);obtain⟨g,t,g1,g2⟩:=yCn hx hq bp;refine(k3 _ gG).2 (zYL hx hq hc.2.1 hp.1 g1 ?_ g2);rw[hB]at gG;exact gG
 intro i hi;refine(k3 _ (c3.row i hi)).1 (sL (fun k hk=>?_) (c4.iff.1 (uN hi)));rw[hl]at hk;rw[xJ hk];obtain⟨cf,c8⟩:=zQR hD.p (by omega) r2 (k2.row k hk) R.length (Je _);refine jK (k:=1) (v:=K.getD k []) (w:=mkv (base x.zA.length x.zA.length*1) fun j=>S R.length fun k=>cf k*ent R k j) (uN hk) (sL hR ⟨cf,fun j hj=>by rw[zW hj]⟩) fun j hj=>?_
 rw[zW hj,Gp];exact c8 j hj
theorem zR0{D:Nat}(dK:D<=8):Mv D x.zA.length (xQ (at0 x.zA 0) D x.zA.length) (xQ (at0 x.zA 0) D x.zA.length):=by
 have hq:=hc.1.os.2 0 hp.1;have hE:=zIr (n:=x.zA.length) (D:=D) hq;refine⟨rfl,fun k hk u hu=>?_⟩;have hA:=hE.mat k hk;have gU:=hu.1;have hl:=hE.len;unfold zXf;rw[yQ]
 by_cases hD:D=0
 ·subst hD
  unfold zD7;simp only
  rw[jj (by omega),zK];rfl
 have e1:zD7 (xQ (at0 x.zA 0) D x.zA.length) u (k:Int) ([],0)=jf (.inl (xL (xQ (at0 x.zA 0) D x.zA.length).Prime D u ((xQ (at0 x.zA 0) D x.zA.length).zM.getD k []),(D:Int))):=by
  unfold zD7;simp only
  rw[jk,zH,hE.d,zB,bs,Kq];have cy:zS u 0 (D:Int)=jf u:=by
   unfold zS;rw[if_pos (by omega)]
   congr 1
   rw[show((D:Int)).toNat=D from by omega,show(0:Int).toNat=0 from rfl,Uf,Jx (by omega)]
  rw[cy,bs,yA [],bs,zDS hE.p (by omega) hu hA,bs,zV (by grind[xL,zU]),bs,bs,K0]
 have e2:zD7 (xQ (at0 x.zA 0) D x.zA.length) u (k:Int) (xL (xQ (at0 x.zA 0) D x.zA.length).Prime D u ((xQ (at0 x.zA 0) D x.zA.length).zM.getD k []),(D:Int))=jf (.inr (xL (xQ (at0 x.zA 0) D x.zA.length).Prime D u ((xQ (at0 x.zA 0) D x.zA.length).zM.getD k []))):=by
  unfold zD7;simp only
  rw[jj (by omega),zK]
 rw[e1];simp only
 rw[yQ,e2];rfl
theorem zVV(hR:Red (at0 x.zA 0) (base x.zA.length x.zA.length) C pc)(dK:C.length<=30):
  ExB x.zA.length C.length x (xQ (at0 x.zA 0) C.length x.zA.length) (kL (base x.zA.length x.zA.length) C)/\ ∀i,i<(kL (base x.zA.length x.zA.length) C).length->Row (at0 x.zA 0) C.length ((kL (base x.zA.length x.zA.length) C).getD i []):=by
 have hx:=hc.2.2;have hq:=hc.1.os.2 0 hp.1;have hD:MOk x.zA.length (xQ (at0 x.zA 0) 1 x.zA.length) 1:=zFa hq;have hE:=zIr (n:=x.zA.length) hq dK;refine⟨zPe hx hD ⟨hE.p,by omega,hE.len,hE.mat⟩ zCF,fun i hi=>?_⟩;rw[zCF]at hi;rw[kL,xJ hi];exact⟨zU _ _,fun j hj=>by rw[zW hj];exact(hR.row j hj).2 i hi⟩
theorem zPz(hC:zI6 x=jf C)(hR:Red (at0 x.zA 0) (base x.zA.length x.zA.length) C pc)(dK:C.length<=8):
  xC (suf (exx C.length x (xQ (at0 x.zA 0) C.length x.zA.length) (kL (base x.zA.length x.zA.length) C)) 0):=by
 have hx:=hc.2.2;have hq:=hc.1.os.2 0 hp.1;have hD:MOk x.zA.length (xQ (at0 x.zA 0) 1 x.zA.length) 1:=zFa hq;obtain⟨hE,hT⟩:=zVV hc hp hR (by omega);have hM:=zR0 hc hp dK;obtain⟨L,l1,l2,l3,l4⟩:=zIk (φ:=id) hc.1 hE hT hE hT ⟨rfl,fun _ h=>h,rfl,fun _ _ _ _=>rfl,fun _ _ _ _=>rfl,fun _ _=>rfl⟩ hM hc.2.1 (zCE hc.1 hq);refine l4.1 fun r hr=>?_
 have gG:=l3 r hr;show r=_;rw[show zeros C.length=mkv C.length fun _=>0 from uD _];refine(vJ gG.1).trans (zX fun j hj=>?_);have hy:=hR.row j hj;obtain⟨gO,gS⟩:=zNf hx hD (y:=C.getD j []) (by rw[Lz];exact hy);obtain⟨L',m1,_,_,m4⟩:=zIk (φ:=fun u=>mkv 1 fun _=>at0 u j) hc.1 hE hT gO gS ⟨rfl,fun u hu=>yEF hq hj hu,by
  show(mkv 1 fun _=>at0 (zeros C.length) j)=_;rw[wJ];rfl,fun u v hu hv=>zX fun i hi=>by
  obtain rfl:i=0:=by omega
  rw[adv,zW hj,zW,zW],fun k hk u hu=>by
  have fq:Row (at0 x.zA 0) C.length u:=hu;rw[qR hk,qR hk];show(mkv 1 fun _=>at0 (xL (at0 x.zA 0) C.length u (idM C.length)) j)=xL (at0 x.zA 0) 1 (mkv 1 fun _=>at0 u j) (idM 1);rw[zGP fq,zGP (yEF hq hj fq)],fun r hr=>by
  rw[kL,xJ hr,Tc,xJ hr];refine zX fun i hi=>?_
  obtain rfl:i=0:=by omega
  rw[zW hj,Lz,Um]⟩ hM hc.2.1 (zCE hc.1 hq)
 rw[l1]at m1;cases m1;have e:at0 (mkv 1 fun _=>at0 r j) 0=at0 (zeros 1) 0:=congrArg (fun v=>at0 v 0) (m4.2 (zPy hc hp hC j hj) r hr);rw[zW,wJ]at e;exact e
end
structure zNv (x:SPr) (C:Mx) (q:Nat):Prop where
 c:uM x
 p:zIN x
 q:at0 x.zA 0=q
 d:C.length<=8
 r:∀i,i<C.length->Row (at0 x.zA 0) (base x.zA.length x.zA.length) (C.getD i [])
 e:ExB x.zA.length C.length x (xQ (at0 x.zA 0) C.length x.zA.length) (kL (base x.zA.length x.zA.length) C)
 t:∀i,i<(kL (base x.zA.length x.zA.length) C).length->Row (at0 x.zA 0) C.length ((kL (base x.zA.length x.zA.length) C).getD i [])
 cc:xC (suf (exx C.length x (xQ (at0 x.zA 0) C.length x.zA.length) (kL (base x.zA.length x.zA.length) C)) 0)
abbrev cvX(x:SPr)(C:Mx):SPr:=exx C.length x (xQ (at0 x.zA 0) C.length x.zA.length) (kL (base x.zA.length x.zA.length) C)
section
variable {x:SPr}{C:Mx}{q:Nat} (h:zNv x C q)
 include h
theorem yFZ:q=2\/q=3\/q=5\/q=7:=by have:=h.c.1.os.2 0 h.p.1;rw[h.q]at this;rcases this with h|h|h|h<;>omega
theorem zEe:(cvX x C).zA.length=x.zA.length+C.length:=xX h.c.1 h.e h.t
theorem zP0:Pres (cvX x C):=(zEJ h.c.1 h.e h.t).p (by rw[zEe h];have:=h.c.2.2.n6;have:=h.d;omega)
theorem zFg:Pres (cvX x C)/\xC (suf (cvX x C) 0):=⟨zP0 h,h.cc⟩
theorem zGp:Pres x/\xC (suf x 0):=⟨h.c.1,h.c.2.1⟩
theorem zP1(v:Vec):V (suf (cvX x C) 0) v↔ ∃y u,v=y++u/\V (suf x 0) y/\Row (at0 x.zA 0) C.length u:=tM h.c.1 h.e h.t x.zA.length 0 (by omega) v
theorem zYM{d:Nat}(hd:d<x.zA.length):at0 x.zA d=q:=by rw[h.p.2 d hd,h.q]
abbrev EX(h:zNv x C q):Type:=EA (cvX x C) (zFg h)
abbrev EG(h:zNv x C q):Type:=EA x (zGp h)
theorem zAK{v:Vec}(hv:V (suf x 0) v):v.length=x.zA.length:=zBy h.c.1 h.c.2.1 hv
 omit h in
def pj(h:zNv x C q)(a:EX h):EG h:=mkE (zGp h) (a.1.take x.zA.length) (by
  obtain⟨y,u,e,hy,_⟩:=(zP1 h a.1).1 a.2;rw[e,Js (zAK h hy)];exact hy)
 omit h in
def up(h:zNv x C q)(b:EG h):EX h:=mkE (zFg h) (b.1++zeros C.length) ((zP1 h _).2 ⟨b.1,_,rfl,b.2,yX (by have:=(h.c.1.os.2 0 h.p.1).pos;omega)⟩)
theorem zP2(a b:EX h):pj h (a*b)=pj h a*pj h b:=Subtype.ext (zGK h.c.1 h.e h.t x.zA.length 0 (by omega) a.1 b.1 a.2 b.2)
theorem zR1(b:EG h):pj h (up h b)=b:=Subtype.ext (Js (zAK h b.2))
theorem zVW{a:EX h}(ha:pj h a=1):∃u,Row (at0 x.zA 0) C.length u/\a.1=zeros x.zA.length++u:=by obtain⟨y,u,e,hy,hu⟩:=(zP1 h a.1).1 a.2;have:=congrArg (·.1) ha;have e2:a.1.take x.zA.length=zeros (suf x 0).length:=this;rw[e,Js (zAK h hy)]at e2;refine⟨u,hu,?_⟩;rw[e,e2,yC];rfl
theorem yGa(y:Vec):aM (xQ (at0 x.zA 0) C.length x.zA.length) C.length 0 y=idM C.length:=by
 have hi:=tL (D:=C.length) (h.c.1.os.2 0 h.p.1).pos.1;refine qE (S:=(· =idM C.length)) (fun{a b} ha hb=>?_) _ _ (fun c hc=>?_) rfl
 ·rw[ha,hb];exact zCX hi
 ·rw[Uf,xQ]at hc
  obtain⟨_,_,rfl⟩:=Jc.1 hc;rfl
theorem zR2{y u r:Vec}(hy:V (suf x 0) y)(hu:Row (at0 x.zA 0) C.length u)(hr:Row (at0 x.zA 0) C.length r):mul (suf (cvX x C) 0) (y++u) (zeros x.zA.length++r)=y++adv (at0 x.zA 0) C.length u r:=zD3 h.c.1 h.e h.t x.zA.length 0 (by omega) y u r hy hu hr
theorem z0V:V (suf x 0) (zeros x.zA.length):=by
 have:=(g0 h.c.1 h.c.2.1).ein
 rwa [yC]at this
theorem yGb(z:EX h)(hz:pj h z=1)(a:EX h):z*a=a*z:=by obtain⟨u,hu,e⟩:=zVW h hz;obtain⟨y,v,e2,hy,hv⟩:=(zP1 h a.1).1 a.2;refine Subtype.ext ?_;show mul _ z.1 a.1=mul _ a.1 z.1;have:=zMT h.c.1 h.e h.t x.zA.length 0 (by omega) u y v hu hy hv;rw[yGa h,show(xQ (at0 x.zA 0) C.length x.zA.length).Prime=at0 x.zA 0 from rfl,zGP hu]at this;rw[e,e2,zR2 h hy hv hu,uX];exact this
theorem yCo{z:EX h}{u:Vec}(hu:Row (at0 x.zA 0) C.length u)(e:z.1=zeros x.zA.length++u):∀k,(pg z k).1=zeros x.zA.length++iter k (fun w=>adv (at0 x.zA 0) C.length w u) (zeros C.length)/\Row (at0 x.zA 0) C.length (iter k (fun w=>adv (at0 x.zA 0) C.length w u) (zeros C.length))
 |0=>by have hp:=(h.c.1.os.2 0 h.p.1).pos;refine⟨?_,yX⟩;show zeros (suf (cvX x C) 0).length=_;rw[yC,zEe h];simp[zeros,iter]
 |k+1=>by
  have hp:=(h.c.1.os.2 0 h.p.1).pos;obtain⟨h1,h2⟩:=yCo hu e k;rw[xR];refine⟨?_,zU _ _,fun j hj=>?_⟩
  ·show mul _ (pg z k).1 z.1=_
   rw[h1,e,zR2 h (z0V h) h2 hu]
  ·rw[adv,zW hj]
   exact⟨Kk _ (by omega),by have:=Kh (at0 (iter k (fun w=>adv (at0 x.zA 0) C.length w u) (zeros C.length)) j+at0 u j) (show 0<at0 x.zA 0 by omega);omega⟩
theorem yGc(z:EX h)(hz:pj h z=1):pg z q=1:=by
 obtain⟨u,hu,e⟩:=zVW h hz;have hp:=(h.c.1.os.2 0 h.p.1).pos;have:=(yCo h hu e q).1;have hq:q=(at0 x.zA 0).toNat:=by rw[h.q];omega
 have e2:iter q (fun w=>adv (at0 x.zA 0) C.length w u) (zeros C.length)=zeros C.length:=by rw[hq];exact zOW (p:=at0 x.zA 0) (D:=C.length)
 rw[e2]at this;refine Subtype.ext (this.trans ?_);show _=zeros (suf (cvX x C) 0).length;rw[yC,zEe h];simp[zeros]
theorem yCp{t:Mx}(ht:zCI (zGp h) q k t)(hk:∀b:EG h,Qm q (k+1) b->b=1)(a:EX h):Qm q (k+1) a↔Ge (RwC (up h) q (fun b=>b.1∈t) (fun b=>b.1∈gns x)) a:=
 cov (zP2 h) (zR1 h) (yGb h) (yGc h) zPu hk ht.v.2.2 a
theorem zS5:∃k s S,zPW x q=jf s/\zOa x q=jf s/\s.length=k+2/\k<=20/\zCI (zGp h) q k (s.getD k [])/\(∀b:EG h,Qm q (k+1) b->b=1)/\
  zOa (cvX x C) q=jf S/\k+1<S.length/\zCI (zFg h) q (k+1) (S.getD (k+1) []):=by
 have hq:=yFZ h;obtain⟨s,s1,s2,s3,s4,s5,s6,s7⟩:=zI0 (zGp h) (q:=q);obtain⟨S,t1,t2,t3,t4,t5,t6,t7⟩:=zI0 (zFg h) (q:=q);have hl:=zVT hq (fun d hd=>zYM h hd) s7;have az:2<=s.length:=by
  refine Classical.byContradiction fun hn=>?_
  have e:s.length-1=0:=by omega
  rw[e]at hl;obtain⟨_,_,u3,_,u5,_⟩:=(zDh h.c.1 h.c.2.1).i (k:=0) (t:=vC x.zA.length 0) (by rw[gtb,if_pos h.p.1]);have:=congrArg (·.1) (hl (mkE (zGp h) _ u3) trivial);have e3:vC x.zA.length 0=zeros (suf x 0).length:=this;rw[e3,wJ]at u5;omega
 obtain⟨k,hk⟩:∃k,s.length=k+2:=⟨s.length-2,by omega⟩;rw[show s.length-1=k+1 by omega]at hl;have hS:k+1<S.length:=by
  refine Classical.byContradiction fun hn=>?_
  obtain⟨b,b1,b2⟩:=s6 (S.length-1) (by omega);obtain⟨a,a1,rfl⟩:=Qm.back (zP2 h) (zR1 h) q (S.length-1) b1;exact b2 (Qm.to (zP2 h) q _ (t7 a a1))
 exact⟨k,s,S,s1,s2,hk,by omega,s5 k (by omega),hl,t2,hS,t5 _ hS⟩
end
section
variable {x:SPr}{C:Mx}{q:Nat}
noncomputable def pwr (x:SPr) (C:Mx) (q:Nat) (a:Vec):Vec:=(pw (mul (suf (cvX x C) 0)) (zeros (suf (cvX x C) 0).length) (a++zeros C.length) q).drop x.zA.length
noncomputable def gpr (x:SPr) (C:Mx) (a:Vec) (i:Nat):Vec:=uR (at0 x.zA 0) C.length ((mul (suf (cvX x C) 0) (a++zeros C.length) (vC x.zA.length i++zeros C.length)).drop x.zA.length) (-1) ((mul (suf (cvX x C) 0) (vC x.zA.length i++zeros C.length) (a++zeros C.length)).drop x.zA.length)
noncomputable def rw1 (x:SPr) (C:Mx) (q:Nat) (a:Vec):Mx:=pwr x C q a::(Jd x.zA.length).map (gpr x C a)
noncomputable def nrw (x:SPr) (C:Mx) (q:Nat) (t:Mx):Mx:=t.flatMap (rw1 x C q)
variable (h:zNv x C q)
 include h
theorem zI2(ha:V (suf x 0) a):V (suf (cvX x C) 0) (a++zeros C.length):=(up h (mkE _ a ha)).2
theorem zP3(hi:i<x.zA.length):V (suf x 0) (vC x.zA.length i):=zD5 h.c.1 _ (Jc.2 ⟨i,Lj.2 hi,rfl⟩)
theorem zI3{v:Vec}(hv:V (suf (cvX x C) 0) v):Row (at0 x.zA 0) C.length (v.drop x.zA.length):=by obtain⟨y,u,rfl,hy,hu⟩:=(zP1 h v).1 hv;rw[K1 (zAK h hy)];exact hu
theorem zYN(ha:V (suf x 0) a):Row (at0 x.zA 0) C.length (pwr x C q a):=zI3 h (wV (g0 (zP0 h) h.cc).toMon (zI2 h ha) q)
theorem zYO:Row (at0 x.zA 0) C.length (gpr x C a i):=qW (h.c.1.os.2 0 h.p.1)
theorem zNw(w:Vec):prE x 0 w=⟨w.take x.zA.length,w.drop x.zA.length⟩:=by have _:=h;rw[prE,fv0];rfl
theorem zVX(ha:V (suf x 0) a):(⟨a,zeros C.length⟩:zC)=prE x 0 (a++zeros C.length):=by rw[zNw h,Js (zAK h ha),K1 (zAK h ha)]
theorem zVY{b:Vec}(ha:V (suf (cvX x C) 0) a)(hb:V (suf (cvX x C) 0) b):f_b ⟨x,xQ (at0 x.zA 0) C.length x.zA.length,kL (base x.zA.length x.zA.length) C⟩ 0 (prE x 0 a) (prE x 0 b)=jf (prE x 0 (mul (suf (cvX x C) 0) a b)):=
 zEO h.c.1 h.e h.t (zR0 h.c h.p (by have:=h.d;omega)) (k:=0) (by omega) a b ha hb
theorem zYP{b:Vec}(ha:V (suf (cvX x C) 0) a)(hb:V (suf (cvX x C) 0) b):zI5 ⟨x,xQ (at0 x.zA 0) C.length x.zA.length,kL (base x.zA.length x.zA.length) C⟩ (prE x 0 a) (prE x 0 b)=jf (uR (at0 x.zA 0) C.length (a.drop x.zA.length) (-1) (b.drop x.zA.length)):=by
 have hq:=h.c.1.os.2 0 h.p.1;have h7:=hq.pos;unfold zI5;rw[zNw h,zNw h];simp only
 rw[show(xQ (at0 x.zA 0) C.length x.zA.length).Prime=at0 x.zA 0 from rfl,zB,bs,uV hq (zI3 h ha) (zI3 h hb) (by omega) (by have:=h.d;omega),bs,zB8]
theorem zVZ{s:List Mx}(hs:zPW x q=jf s)(hk:s.length=k+2)(eZ:k<=20)(hV:∀a∈s.getD k [],V (suf x 0) a)(hl:(s.getD k []).length<=6):
  f_y x C=f_q (at0 x.zA 0) (nrw x C q (s.getD k [])):=by
 have hq:=h.c.1.os.2 0 h.p.1;have h7:=hq.pos;have h6:=h.c.2.2.n6;have hd:=h.d;have hb:=wA x.zA.length (by omega);have G:=g0 (zP0 h) h.cc;have pF:(at0 x.zA 0)=(q:Int):=h.q;have eM:0<(kL (base x.zA.length x.zA.length) C).length:=by rw[zCF];have:=h.p.1;omega
 have hz:zI4 ⟨x,xQ (at0 x.zA 0) C.length x.zA.length,kL (base x.zA.length x.zA.length) C⟩=jf ⟨zeros x.zA.length,zeros C.length⟩:=by unfold zI4;rw[jk (by show((kL _ C).length:Int)> 0;omega),zH,show(0:Int)=((0:Nat):Int)from rfl,yA [] eM,bs,yI (by show x.zA.length<=_;omega),bs,yI (by rw[(h.t 0 eM).1];omega),bs,(h.t 0 eM).1];rfl
 have pwV:∀{a:Vec},V (suf x 0) a-> ∀j,V (suf (cvX x C) 0) (pw (mul (suf (cvX x C) 0)) (zeros (suf (cvX x C) 0).length) (a++zeros C.length) j):=fun ha j=>wV G.toMon (zI2 h ha) j
 have cB:∀a,(rw1 x C q a).length=x.zA.length+1:=fun a=>by simp[rw1]
 have bw:∀l:Mx,(l.flatMap (rw1 x C q)).length=l.length*(x.zA.length+1):=fun l=>by
  induction l with
  |nil=>simp
  |cons a l ih=>rw[Kr,J5,ih,cB,J7,K8];omega
 have iL:∀j,j<=(s.getD k []).length->(((s.getD k []).take j).flatMap (rw1 x C q)).length<=6*7:=fun j hj=>by rw[bw];exact Jr (by rw[Ke];omega) (by omega)
 have main:=zO (body:=zXD x (at0 x.zA 0) (s.getD k []) (xQ (at0 x.zA 0) C.length x.zA.length) (kL (base x.zA.length x.zA.length) C) ⟨zeros x.zA.length,zeros C.length⟩) (r:=nrw x C q (s.getD k [])) (fun j=>(((s.getD k []).take j).flatMap (rw1 x C q),(j:Int))) (s.getD k []).length (fun j hj=>by
  have hm:(s.getD k [])[j]∈s.getD k []:=Jp hj;have ha:=hV _ hm;have e0:(s.getD k []).getD j []=(s.getD k [])[j]:=by rw[J2,J3 hj];rfl
  have hjl:=iL j (by omega);have l1:=zO (body:=zXB x (at0 x.zA 0) (xQ (at0 x.zA 0) C.length x.zA.length) (kL (base x.zA.length x.zA.length) C) ⟨zeros x.zA.length,zeros C.length⟩ (s.getD k [])[j])
   (r:=((pw (mul (suf (cvX x C) 0)) (zeros (suf (cvX x C) 0).length) ((s.getD k [])[j]++zeros C.length) q).take x.zA.length,pwr x C q (s.getD k [])[j]))
   (fun i=>((pw (mul (suf (cvX x C) 0)) (zeros (suf (cvX x C) 0).length) ((s.getD k [])[j]++zeros C.length) i).take x.zA.length,(pw (mul (suf (cvX x C) 0)) (zeros (suf (cvX x C) 0).length) ((s.getD k [])[j]++zeros C.length) i).drop x.zA.length,(i:Int))) q (fun i hi=>by
    unfold zXB;simp only
    rw[jk,zH,<-zNw h,zVX h ha,zVY h (pwV ha i) (zI2 h ha),bs,zB,bs,zNw h];simp only
    rw[show pw (mul (suf (cvX x C) 0)) (zeros (suf (cvX x C) 0).length) ((s.getD k [])[j]++zeros C.length) (i+1)=mul (suf (cvX x C) 0) (pw (mul (suf (cvX x C) 0)) (zeros (suf (cvX x C) 0).length) ((s.getD k [])[j]++zeros C.length) i) ((s.getD k [])[j]++zeros C.length)from by rw[Pc.pw,xR];rfl];rfl) (by
    unfold zXB;simp only
    rw[jj (by omega),zK];rfl)
  have ez:zeros (suf (cvX x C) 0).length=zeros x.zA.length++zeros C.length:=by rw[yC,zEe h];simp[zeros]
  rw[show pw (mul (suf (cvX x C) 0)) (zeros (suf (cvX x C) 0).length) ((s.getD k [])[j]++zeros C.length) 0=zeros x.zA.length++zeros C.length from ez,Js (zT _),K1 (zT _),show((0:Nat):Int)=0 from rfl]at l1;have l2:=zO (body:=zXC x (xQ (at0 x.zA 0) C.length x.zA.length) (kL (base x.zA.length x.zA.length) C) ⟨zeros x.zA.length,zeros C.length⟩ (s.getD k [])[j])
   (r:=((s.getD k []).take (j+1)).flatMap (rw1 x C q))
   (fun i=>(((s.getD k []).take j).flatMap (rw1 x C q)++pwr x C q (s.getD k [])[j]::(Jd i).map (gpr x C (s.getD k [])[j]),(i:Int))) x.zA.length (fun i hi=>by
    have hu:=zP3 h hi;unfold zXC;simp only
    rw[yP hi,zH,yEG hi,bs,zVX h ha,zVX h hu,zVY h (zI2 h ha) (zI2 h hu),bs,zVY h (zI2 h hu) (zI2 h ha),bs,zYP h ((ok0 (zP0 h) h.cc|> fun o=>yO o (zI2 h ha) (zI2 h hu))) ((ok0 (zP0 h) h.cc|> fun o=>yO o (zI2 h hu) (zI2 h ha))),bs,zV (by simp only[J5,J7,Jf,Lh,Jt];omega),bs,zB,bs,Jg,K9,Kt,K6];rfl) (by
    unfold zXC;simp only
    rw[tS,zK,K5 hj,U4,Kr,qe9,Jh];rfl)
  rw[qf9,Le,show((0:Nat):Int)=0 from rfl]at l2;unfold zXD;simp only
  rw[yP hj,zH,yA [] hj,bs,e0,l1,bs];simp only
  rw[zV (by simp only[J7,Jt];omega),bs,l2,bs,zB,bs];rfl) (by
  unfold zXD;simp only
  rw[tS,zK,Ln];rfl)
 rw[Kd,qe9,show((0:Nat):Int)=0 from rfl]at main;have gF:zPW x (at0 x.zA 0)=jf s:=by rw[pF];exact hs
 have hT:f_U x C=jf (kL (base x.zA.length x.zA.length) C):=by have gG:∀i,i<C.length->Row (at0 x.zA 0) (base x.zA.length x.zA.length) (C.getD i []):=h.r;exact zSx gG (by omega) h6 rfl
 unfold f_y;rw[show(0:Int)=((0:Nat):Int)from rfl,yJ h.p.1,bs,gF,bs,show((s.length:Int)-2)=(k:Int)from by omega,zB,bs,yA [],bs,zPk h6,bs,hT,bs,hz,bs,show((0:Nat):Int)=0 from rfl,main,bs];cases f_q (at0 x.zA 0) (nrw x C q (s.getD k []))<;>rfl
end
theorem yA8{C:Nat->Option Vec}:∀l:List Nat,l.filterMap C=(l.filter fun j=>(C j).isSome).map fun j=>(C j).getD []
 | []=>rfl
 |a::l=>by
  rw[Hk,List.filter_cons,yA8 l];cases hc:C a with
  |none=>rfl
  |some v=>simp[hc]
theorem zP4{n:Nat}{v:Vec}:(j<n->at0 (zeros n++v) j=0)/\at0 (zeros n++v) (n+j)=at0 v j:=by
 refine⟨fun hj=>?_,?_⟩
 ·rw[zDc,zT,if_pos hj,wJ]
 ·rw[zDc,zT,if_neg (by omega),H4]
section
variable {x:SPr}{C:Mx}{q:Nat} (h:zNv x C q)
 include h
theorem zNx{v:Vec}(hv:Row (at0 x.zA 0) C.length v):V (suf (cvX x C) 0) (zeros x.zA.length++v):=(zP1 h _).2 ⟨_,v,rfl,z0V h,hv⟩
theorem yCq{a b:EX h}{u v:Vec}(hu:Row (at0 x.zA 0) C.length u)(hv:Row (at0 x.zA 0) C.length v)(ea:a.1=zeros x.zA.length++u)(eb:b.1=zeros x.zA.length++v):(a*b).1=zeros x.zA.length++adv (at0 x.zA 0) C.length u v:=by show mul _ a.1 b.1=_;rw[ea,eb,zR2 h (z0V h) hu hv]
theorem yCr:(1:EX h).1=zeros x.zA.length++zeros C.length:=by show zeros (suf (cvX x C) 0).length=_;rw[yC,zEe h];simp[zeros]
theorem zWa{u v:Vec}:Row (at0 x.zA 0) C.length (adv (at0 x.zA 0) C.length u v):=by have hp:=(h.c.1.os.2 0 h.p.1).pos;refine⟨zU _ _,fun j hj=>?_⟩;rw[adv,zW hj];exact⟨Kk _ (by omega),by have:=Kh (at0 u j+at0 v j) (show 0<at0 x.zA 0 by omega);omega⟩
theorem yA9(R:Mx):Sg fun a:EX h=> ∃v,Row (at0 x.zA 0) C.length v/\a.1=zeros x.zA.length++v/\Sp (at0 x.zA 0) C.length R v:=by
 have hp:=(h.c.1.os.2 0 h.p.1).pos;refine⟨⟨zeros C.length,yX,yCr h,zAC fun j _=>by rw[wJ];rfl⟩,?_,?_⟩
 ·rintro a b ⟨u,u1,u2,u3⟩ ⟨v,v1,v2,v3⟩
  exact⟨_,zWa h,yCq h u1 v1 u2 v2,jK (k:=1) u3 v3 fun j hj=>by rw[adv,zW hj,K3,Gp]⟩
 ·rintro a ⟨u,u1,u2,u3⟩
  have hk:pj h a=1:=Subtype.ext (by show a.1.take x.zA.length=zeros (suf x 0).length;rw[u2,Js (zT _),yC];rfl)
  obtain⟨v,v1,v2⟩:=zVW h (a:=a⁻¹) (by rw[h_i (zP2 h),hk,i1]);refine⟨v,v1,v2,jK (k:=-1) (v:=zeros C.length) (zAC fun j _=>by rw[wJ];rfl) u3 fun j hj=>?_⟩;have e:=congrArg (·.1) (ir a);have e2:(a*a⁻¹).1=(1:EX h).1:=e;rw[yCq h u1 v1 u2 v2,yCr h]at e2;have e3:at0 (adv (at0 x.zA 0) C.length u v) j=at0 (zeros C.length) j:=congrArg (fun w=>at0 w j) (Qw e2);rw[adv,zW hj,wJ]at e3;rw[wJ,show(0:Int)+ -1*at0 u j=at0 v j-(at0 u j+at0 v j)by omega,Qg,e3,Int.sub_zero,K3]
theorem yEO{R:Mx}(hR:∀i,i<R.length->Row (at0 x.zA 0) C.length (R.getD i [])){K:EX h->Prop}(hK:Sg K)(hr:∀i(hi:i<R.length),K (mkE (zFg h) _ (zNx h (hR i hi)))){v:Vec}(hv:Row (at0 x.zA 0) C.length v)(hs:Sp (at0 x.zA 0) C.length R v):K (mkE (zFg h) _ (zNx h hv)):=by
 have hp:=(h.c.1.os.2 0 h.p.1).pos;obtain⟨c,hc⟩:=hs;have key:∀m,m<=R.length-> ∃a:EX h,K a/\a.1=zeros x.zA.length++mkv C.length fun j=>(S m fun i=>c i*ent R i j)%at0 x.zA 0:=by
  intro m
  induction m with
  |zero=>
   intro _;refine⟨1,hK.o,?_⟩;rw[yCr h,show zeros C.length=mkv C.length fun _=>0 from uD _];rfl
  |succ m ih=>
   intro hm;obtain⟨a,a1,a2⟩:=ih (by omega);have gG:=hR m (by omega);have hk:=yCo h (z:=mkE (zFg h) _ (zNx h gG)) gG rfl (c m%at0 x.zA 0).toNat;refine⟨a*pg (mkE (zFg h) _ (zNx h gG)) (c m%at0 x.zA 0).toNat,hK.m a1 (hK.pg (hr m (by omega)) _),?_⟩;rw[yCq h ⟨zU _ _,fun j hj=>by rw[zW hj];exact⟨Kk _ (by omega),by have:=Kh (S m fun i=>c i*ent R i j) (show 0<at0 x.zA 0 by omega);omega⟩⟩ hk.2 a2 hk.1]
   congr 1
   refine zX fun j hj=>?_
   have bB:=Kk (c m) (show at0 x.zA 0≠0 by omega);rw[zW hj,zEK (by omega) _ _ (yX),zW hj,wJ,Kq,<-Ka,show(((c m%at0 x.zA 0).toNat:Nat):Int)=c m%at0 x.zA 0 by omega,Ka,Jz,K3,<-Jz,<-Ka];rfl
 obtain⟨a,a1,a2⟩:=key R.length (Je _);rw[show mkE (zFg h) _ (zNx h hv)=a from Subtype.ext ?_]
 ·exact a1
 ·show zeros x.zA.length++v=a.1
  rw[a2]
  congr 1
  refine(vJ hv.1).trans (zX fun j hj=>?_);have:=hv.2 j hj;rw[hc j hj,Jq (by omega) (by omega)]
theorem yAA{t:Mx}(ht:zCI (zGp h) q k t)(hk:∀b:EG h,Qm q (k+1) b->b=1)(a:EX h):RwC (up h) q (fun b=>b.1∈t) (fun b=>b.1∈gns x) a↔ ∃r,r∈nrw x C q t/\a.1=zeros x.zA.length++r:=by
 have hp:=(h.c.1.os.2 0 h.p.1).pos;have P1:∀b:EG h,b.1∈t->(pg (up h b) q).1=zeros x.zA.length++pwr x C q b.1:=fun b hb=>by
  obtain⟨u,_,e⟩:=zVW h (a:=pg (up h b) q) (by rw[zRT (zP2 h),zR1];exact hk _ (.x (.inr ⟨b,(ht.v.2.2 b).1 (.x hb),rfl⟩)))
  rw[e,pwr];have:=zRy (up h b) q;rw[e]at this;have e2:(up h b).1=b.1++zeros C.length:=rfl;rw[e2]at this;rw[<-this,K1 (zT _)]
 have P2:∀(b g:EG h)(i:Nat),b.1∈t->i<x.zA.length->g.1=vC x.zA.length i->((up h b)⁻¹*(up h g)⁻¹*up h b*up h g).1=zeros x.zA.length++gpr x C b.1 i:=fun b g i hb hi hg=>by
  obtain⟨u,u1,e⟩:=zVW h (a:=(up h b)⁻¹*(up h g)⁻¹*up h b*up h g) (by simp only[zP2 h,h_i (zP2 h),zR1];exact hk _ (.x (.inl ⟨b,g,(ht.v.2.2 b).1 (.x hb),rfl⟩)))
  have e3:up h b*up h g=up h g*up h b*((up h b)⁻¹*(up h g)⁻¹*up h b*up h g):=by simp[as,cl2]
  have e4:=congrArg (·.1) e3;obtain⟨y,v,e5,hy,hv⟩:=(zP1 h _).1 (up h g*up h b).2;have e6:(up h g*up h b).1=mul (suf (cvX x C) 0) (vC x.zA.length i++zeros C.length) (b.1++zeros C.length):=by rw[<-hg];rfl
  have e7:(up h b*up h g).1=mul (suf (cvX x C) 0) (b.1++zeros C.length) (vC x.zA.length i++zeros C.length):=by rw[<-hg];rfl
  have e8:(up h b*up h g).1=y++adv (at0 x.zA 0) C.length v u:=by refine e4.trans ?_;show mul _ (up h g*up h b).1 ((up h b)⁻¹*(up h g)⁻¹*up h b*up h g).1=_;rw[e5,e,zR2 h hy hv u1]
  rw[e,gpr,<-e6,<-e7,e8,e5,K1 (zAK h hy),K1 (zAK h hy)]
  congr 1
  refine(vJ u1.1).trans (zX fun j hj=>?_);have:=u1.2 j hj;rw[adv,zW hj,G4,show at0 v j+at0 u j+ -1*at0 v j=at0 u j by omega,Jq (by omega) (by omega)]
 constructor
 ·rintro⟨b,hb,⟨g,hg,rfl⟩|rfl⟩
  ·obtain⟨i,hi,e⟩:=Jc.1 hg
   exact⟨_,Ll.2 ⟨b.1,hb,J9.2 (.inr (Jc.2 ⟨i,hi,rfl⟩))⟩,P2 b g i hb (Lj.1 hi) e.symm⟩
  ·exact⟨_,Ll.2 ⟨b.1,hb,J9.2 (.inl rfl)⟩,P1 b hb⟩
 ·rintro⟨r,hr,e⟩
  obtain⟨b,hb,hr⟩:=Ll.1 hr;have tu:=ht.v.1 b hb;rcases J9.1 hr with rfl|hr
  ·exact⟨mkE _ b tu,hb,.inr (Subtype.ext (e.trans (P1 (mkE _ b tu) hb).symm))⟩
  ·obtain⟨i,hi,rfl⟩:=Jc.1 hr
   have hi:=Lj.1 hi;exact⟨mkE _ b tu,hb,.inl ⟨mkE _ _ (zP3 h hi),Jc.2 ⟨i,Lj.2 hi,rfl⟩,Subtype.ext (e.trans (P2 (mkE _ b tu) (mkE _ _ (zP3 h hi)) i hb hi rfl).symm)⟩⟩
theorem zR3{t:Mx}(ht:∀a∈t,V (suf x 0) a):∀r∈nrw x C q t,Row (at0 x.zA 0) C.length r:=fun r hr=>by
 obtain⟨b,hb,hr⟩:=Ll.1 hr;rcases J9.1 hr with rfl|hr
 ·exact zYN h (ht b hb)
 ·obtain⟨i,_,rfl⟩:=Jc.1 hr
  exact zYO h
theorem zLu{R:Mx}(hi:i<R.length):R.getD i []∈R:=by have _:=h;rw[J2,J3 hi];exact Jp hi
theorem yEP{t:Mx}(ht:zCI (zGp h) q k t)(hk:∀b:EG h,Qm q (k+1) b->b=1)(a:EX h):Qm q (k+1) a↔ ∃v,Row (at0 x.zA 0) C.length v/\a.1=zeros x.zA.length++v/\Sp (at0 x.zA 0) C.length (nrw x C q t) v:=by
 rw[yCp h ht hk a];have gG:=zR3 h (C:=C) (q:=q) ht.v.1;constructor
 ·refine Ge.to (yA9 h _) fun b hb=>?_
  obtain⟨r,hr,e⟩:=(yAA h ht hk b).1 hb;obtain⟨i,hi,rfl⟩:=Ld.1 hr;refine⟨_,gG _ hr,e,?_⟩;have:=uN (p:=at0 x.zA 0) (n:=C.length) hi
  rwa [J2,J3 hi]at this
 ·rintro⟨v,v1,v2,v3⟩
  rw[show a=mkE (zFg h) _ (zNx h v1)from Subtype.ext v2];exact yEO h (fun i hi=>gG _ (zLu h hi)) (Ge.s _) (fun i hi=>.x ((yAA h ht hk _).2 ⟨_,zLu h hi,rfl⟩)) v1 v3
theorem zYQ{t:Mx}{R:Mx}(hR:∀i,i<R.length->Row (at0 x.zA 0) C.length (R.getD i []))(hm:zCI (zFg h) q j t)(hq:∀a:EX h,Qm q j a↔ ∃v,Row (at0 x.zA 0) C.length v/\a.1=zeros x.zA.length++v/\Sp (at0 x.zA 0) C.length R v):
  ∃pv,Red (at0 x.zA 0) C.length (t.map (·.drop x.zA.length)) pv/\qN (at0 x.zA 0) C.length (t.map (·.drop x.zA.length)) R:=by
 obtain⟨Y,D,rfl,hC,hY,hQ⟩:=hm;have hl:=zEe h;have et:wB D 0 (cvX x C).zA.length=((K7 0 (cvX x C).zA.length).filter fun j=>(D j).isSome).map fun j=>(D j).getD []:=yA8 _
 have ey:∀p∈(K7 0 (cvX x C).zA.length).filter fun j=>(D j).isSome,(D p).isSome=jh:=fun p hp=>(Jb7.1 hp).2
 have tc:((K7 0 (cvX x C).zA.length).filter fun j=>(D j).isSome).Pairwise (· <·):=List.Pairwise.filter _ (List.pairwise_lt_range')
 generalize (K7 0 (cvX x C).zA.length).filter (fun j=>(D j).isSome)=P at et ey tc
 have key:∀i(hi:i<P.length),∃v,D P[i]=jf (zeros x.zA.length++v)/\Row (at0 x.zA 0) C.length v/\Sp (at0 x.zA 0) C.length R v/\x.zA.length<=P[i]/\P[i]<x.zA.length+C.length/\(∀j,j<P[i]-x.zA.length->at0 v j=0)/\at0 v (P[i]-x.zA.length)=1/\ ∀p,P[i]<p->(D p).isSome=jh->at0 v (p-x.zA.length)=0:=fun i hi=>by
  obtain⟨r,hr⟩:=Kv.1 (ey _ (Jp hi));obtain⟨c1,c2,c3,c4,c5,c6⟩:=hC.i hr;obtain⟨v,v1,v2,v3⟩:=(hq (mkE (zFg h) r c3)).1 ((hQ _).1 c2);have e:r=zeros x.zA.length++v:=v2;subst e;have hn:x.zA.length<=P[i]:=Classical.byContradiction fun g=>by have:=(zP4 (n:=x.zA.length) (v:=v) (j:=P[i])).1 (by omega);rw[this]at c5;omega
  have ea:∀p,x.zA.length<=p->at0 (zeros x.zA.length++v) p=at0 v (p-x.zA.length):=fun p hp=>by
   have:=(zP4 (n:=x.zA.length) (v:=v) (j:=p-x.zA.length)).2
   rwa [show x.zA.length+(p-x.zA.length)=p by omega]at this
  refine⟨v,hr,v1,v3,hn,by omega,fun j hj=>?_,?_,fun p hp hs=>?_⟩
  ·have:=c4 (x.zA.length+j) (by omega)
   rwa [zP4.2]at this
  ·rw[<-ea _ hn];exact c5
  ·rw[<-ea _ (by omega)]
   refine c6 p hp ?_ hs;obtain⟨r',ta⟩:=Kv.1 hs;exact(hC.i ta).1
 have ew:∀i(hi:i<P.length) v,D P[i]=jf (zeros x.zA.length++v)->((wB D 0 (cvX x C).zA.length).map (·.drop x.zA.length)).getD i []=v:=fun i hi v hv=>by rw[et,Jaz,J2,Jw,J3 hi];show((D P[i]).getD []).drop x.zA.length=v;rw[hv];exact K1 (zT _)
 have gf:((wB D 0 (cvX x C).zA.length).map (·.drop x.zA.length)).length=P.length:=by rw[et,Jf,Jf]
 have mc:∀i k(hi:i<P.length)(hk:k<P.length),i<k->P[i]<P[k]:=fun i k hi hk aV=>List.pairwise_iff_getElem.1 tc i k hi hk aV
 have p8:∀i,i<P.length->Sp (at0 x.zA 0) C.length R (((wB D 0 (cvX x C).zA.length).map (·.drop x.zA.length)).getD i []):=fun i hi=>by obtain⟨v,k1,_,k3,_⟩:=key i hi;rw[ew i hi v k1];exact k3
 refine⟨fun i=>P.getD i 0-x.zA.length,⟨?_,?_,?_,?_,?_,?_⟩,⟨fun i hi=>p8 i (by omega),fun i hi=>?_⟩⟩
 ·intro i hi
  rw[gf]at hi;obtain⟨v,k1,k2,_⟩:=key i hi;rw[ew i hi v k1];exact k2
 ·intro i hi
  rw[gf]at hi;obtain⟨v,_,_,_,k4,k5,_⟩:=key i hi;simp only[J2,J3 hi,Lq];omega
 ·intro i hi
  rw[gf]at hi;obtain⟨v,k1,_,_,_,_,_,k7,_⟩:=key i hi;simp only[J2,J3 hi,Lq];show at0 (U7 _ _ _) _=_;rw[ew i hi v k1];exact k7
 ·intro i hi
  rw[gf]at hi;obtain⟨v,k1,_,_,_,_,k6,_⟩:=key i hi;simp only[J2,J3 hi,Lq];intro j hj;show at0 (U7 _ _ _) _=_;rw[ew i hi v k1];exact k6 j hj
 ·intro i k hi hk gc
  rw[gf]at hi hk;obtain⟨v,k1,_,_,k4,_,k6,_,k8⟩:=key k hk;simp only[J2,J3 hi,Lq];show at0 (U7 _ _ _) _=_;rw[ew k hk v k1];have iq:=(key i hi).choose_spec.2.2.2.1;rcases Jo k i with g|g
  ·exact k8 _ (mc k i hk hi g) (ey _ (Jp hi))
  ·have:=mc i k hi hk (by omega)
   exact k6 _ (by omega)
 ·intro i k aV hk
  rw[gf]at hk;have hi:i<P.length:=by omega
  have h1:=mc i k hi hk aV;have iq:=(key i hi).choose_spec.2.2.2.1;simp only[J2,J3 hi,J3 hk,Lq];omega
 ·have t9:=hR i hi
  have a1:=(hQ (mkE (zFg h) _ (zNx h t9))).2 ((hq _).2 ⟨_,t9,rfl,uN hi⟩);have a2:=(zFf (zP0 h) h.cc hY hC _).1 a1;obtain⟨_,v,v1,v2,v3⟩:=zLt (w:=zFg h) (yA9 h ((wB D 0 (cvX x C).zA.length).map (·.drop x.zA.length))) (fun a ha=>by
   rw[et]at ha;obtain⟨p,hp,e⟩:=Jc.1 ha;obtain⟨i,hi,rfl⟩:=Ld.1 hp;obtain⟨v,k1,k2,_⟩:=key i hi;rw[k1]at e;have e':zeros x.zA.length++v=a:=e;subst e';refine⟨zNx h k2,v,k2,rfl,?_⟩;have:=uN (p:=at0 x.zA 0) (n:=C.length) (R:=(wB D 0 (cvX x C).zA.length).map (·.drop x.zA.length)) (i:=i)
   rwa [ew i hi v k1]at this) a2
  have e:zeros x.zA.length++R.getD i []=zeros x.zA.length++v:=v2;rw[Qw e];exact v3
end
theorem yCs{β:Type}{F:Vec->β}{l:Mx}:(Jd l.length).map (fun i=>F (l.getD i []))=l.map F:=by
 apply L4;intro i
 by_cases hi:i<l.length
 ·rw[Jw,Qv hi,Jw,J3 hi]
  simp[hi]
 ·rw[Li (by simp;omega),Li (by simp;omega)]
theorem yEQ{x:SPr}(hc:uM x)(hp:zIN x)(hC:zI6 x=jf C)(hR:Red (at0 x.zA 0) (base x.zA.length x.zA.length) C pc)(h8:C.length<=8):zNv x C (at0 x.zA 0).toNat:=by have hq:=(hc.1.os.2 0 hp.1).pos;obtain⟨h1,h2⟩:=zVV hc hp hR (by omega);exact⟨hc,hp,by omega,h8,hR.row,h1,h2,zPz hc hp hC hR h8⟩
theorem zWb{x:SPr}(hc:uM x)(hp:zIN x)(hC:zI6 x=jf C)(hR:Red (at0 x.zA 0) (base x.zA.length x.zA.length) C pc)(h8:C.length<=8):
  ∃W pv,f_y x C=jf W/\zZ8 x C=jf ⟨at0 x.zA 0,(C.length:Int),W⟩/\Red (at0 x.zA 0) C.length W pv:=by
 have h:=yEQ hc hp hC hR h8;have hq:=hc.1.os.2 0 hp.1;have h7:=hq.pos;have h6:=hc.2.2.n6;have hb:=wA x.zA.length (by omega);obtain⟨k,s,S,s1,s2,hk,eZ,hm,hl,t2,hS,hM⟩:=zS5 h;have gG:=zR3 h (C:=C) (q:=(at0 x.zA 0).toNat) hm.v.1;have mB:∀i,i<(nrw x C (at0 x.zA 0).toNat (s.getD k [])).length->Row (at0 x.zA 0) C.length ((nrw x C (at0 x.zA 0).toNat (s.getD k [])).getD i []):=fun i hi=>gG _ (zLu h hi)
 obtain⟨pv,r1,r2⟩:=zYQ h mB hM (yEP h hm hl);have cI:(nrw x C (at0 x.zA 0).toNat (s.getD k [])).length<=6*7:=by
  have bw:∀l:Mx,(l.flatMap (rw1 x C (at0 x.zA 0).toNat)).length=l.length*(x.zA.length+1):=fun l=>by
   induction l with
   |nil=>simp
   |cons a l ih=>rw[Kr,J5,ih,J7,K8];simp[rw1];omega
  rw[nrw,bw];exact Jr (by have:=hm.v.2.1;omega) (by omega)
 obtain⟨W,pw,w1,w2,w3⟩:=zC6 hq (n:=C.length) (by omega) (by omega) mB;have e:W=(S.getD (k+1) []).map (·.drop x.zA.length):=Red.unique (by omega) w2 r1 (w3.trans r2.symm);have i5:(((at0 x.zA 0).toNat:Nat):Int)=at0 x.zA 0:=by omega
 refine⟨W,pw,?_,?_,w2⟩
 ·rw[zVZ h s1 hk eZ hm.v.1 (by have:=hm.v.2.1;omega)];exact w1
 have hE:zUO x.zA.length C.length x (xQ (at0 x.zA 0) C.length x.zA.length) (kL (base x.zA.length x.zA.length) C):=zUO.ofX hc.2.2 (zIr hq) zCF (by grind[zVF]);have eL:f_V x C=jf (cvX x C):=by unfold f_V;rw[zHP rfl h6,bs,show(0:Int)=((0:Nat):Int)from rfl,show((0:Nat):Int)=0 from rfl,zSy hR.row (by omega) (by omega),bs,show(0:Int)=((0:Nat):Int)from rfl,yJ hp.1,bs,zPl h6,bs,zUQ hE,bs]
 have eM:=hM.v;have hXl:=zEe h;have eU:=wI (body:=zKd x (S.getD (k+1) [])) (S.getD (k+1) []).length (fun i=>((S.getD (k+1) []).getD i []).drop x.zA.length) (fun i acc hi ha=>by
  have gf:=zBy (zP0 h) h.cc (eM.1 _ (zLu h hi));unfold zKd;simp only
  rw[yP hi,zH,yA [] hi,bs];have cy:zS ((S.getD (k+1) []).getD i []) (x.zA.length:Int) ((S.getD (k+1) []).getD i []).length=jf (((S.getD (k+1) []).getD i []).drop x.zA.length):=by unfold zS;rw[if_pos (by omega),J8,J8,Jx (by rw[Kl];omega)]
  rw[cy,bs,jM (by rw[Kl];omega),bs,zV (by have:=eM.2.1;simp only[J7,Jt];omega),bs,zB (by have:=eM.2.1;omega) (by have:=eM.2.1;omega),bs];rfl) (fun acc=>by
  unfold zKd;simp only
  rw[tS,zK])
 have fZ:(Jd (S.getD (k+1) []).length).map (fun i=>((S.getD (k+1) []).getD i []).drop x.zA.length)=W:=by rw[e,<-yCs]
 rw[i5]at s2 t2;unfold zZ8;rw[eL,bs,show(0:Int)=((0:Nat):Int)from rfl,yJ hp.1,bs,s2,bs,show((s.length:Int)-1)=((k+1:Nat):Int)from by omega,zB,bs,bs,bs,t2,bs,yA [] hS,bs,show((0:Nat):Int)=0 from rfl,eU,bs,fZ]
theorem zS6{x:SPr}(hx:zE6 x):∃C c,zZ1 x=jf (C,c)/\zZ3 x=jf (C,c)/\(c=0->uM x/\zIN x/\zI6 x=jf C/\C.length<=8/\ ∃pc,Red (at0 x.zA 0) (base x.zA.length x.zA.length) C pc):=by
 obtain⟨c,e1,e2,e3⟩:=zPh (x:=x) hx.1;unfold zZ1 zZ3;rw[e1,e2,bs,bs]
 by_cases g:c=0
 ·obtain⟨hc,hp⟩:=e3 g
  obtain⟨C,pc,c1,c2,c3,c4⟩:=zIQ hc hp;subst g;rw[show((0:Int) != 0)=ji from rfl,zK,zK,c1,c2,bs]
  by_cases g8:C.length<=8
  ·rw[jj (by omega),zK]
   exact⟨_,_,rfl,rfl,fun _=>⟨hc,hp,rfl,g8,pc,c3⟩⟩
  ·rw[jk,zH]
   exact⟨_,_,rfl,rfl,fun h=>by omega⟩
 ·rw[show(c != 0)=jh from by grind,zH,zH]
  exact⟨_,_,rfl,rfl,fun h=>absurd h g⟩
theorem zWc{p:Int}{n:Nat}{R R':Mx}(h:∀r∈R,r∈R'):∀i,i<R.length->Sp p n R' (R.getD i []):=fun i hi=>by
 have hm:=h _ (Jp hi);obtain⟨k,hk,e⟩:=Ld.1 hm;have:=uN (p:=p) (n:=n) hk;rw[J2,J3 hk,Lq,e]at this
 rwa [J2,J3 hi]
theorem zR4{p:Int}{n:Nat}{U W:Mx}(hU:∀i,i<U.length->Row p n (U.getD i []))(hW:∀i,i<W.length->Row p n (W.getD i [])):∀i,i<(U++W).length->Row p n ((U++W).getD i []):=fun i hi=>by
 rw[J5]at hi;rw[J2]
 by_cases g:i<U.length
 ·rw[Jy g,<-J2];exact hU i g
 ·rw[Jk (by omega),<-J2];exact hW _ (by omega)
theorem zFh{x:SPr}{u:zI}(hx:zE6 x)(hu:S2 u.Rows):∃g k,zTu x u=jf (g,k)/\zXI x u=jf (g,k):=by
 have _:=hu;obtain⟨C,c,e1,e2,e3⟩:=zS6 hx;unfold zTu zXI yCC;rcases(zDR hx.1).both (qV hx.1)with⟨s1,i1,hc⟩|⟨s1,i1,_⟩
 ·rw[s1,i1,bs,bs,Kb,zK,zK]
  rcases(zIL (u:=u)).both zIK with⟨s2,i2,hs⟩|⟨s2,i2,_⟩
  ·rw[s2,i2,bs,bs,Kb,zK,zK,e1,e2,bs,bs]
   simp only
   by_cases g:c=0
   ·obtain⟨_,hp,hC,h8,pc,hR⟩:=e3 g
    obtain⟨W,pv,w1,w2,w3⟩:=zWb hc hp hC hR h8;subst g;rw[show((0:Int) != 0)=ji from rfl,zK,zK,show(0:Int)=((0:Nat):Int)from rfl,yJ hp.1,bs,bs,show((0:Nat):Int)=0 from rfl]
    by_cases g1:u.Prime=at0 x.zA 0
    ·rw[zAu g1,zK,zK]
     by_cases g2:u.xF=(C.length:Int)
     ·rw[zAu g2,zK,zK,bs]
      simp only
      rw[show((0:Int) != 0)=ji from rfl,zK,w1,w2,bs,bs];obtain⟨eh,D,pu,hD,hcol,fV⟩:=hs;have hDC:D=C.length:=by omega
      subst hDC;have hUl:=fV.len_le;have hWl:=w3.len_le;rw[g1]at fV eh;have hUr:∀i,i<u.Rows.length->(u.Rows.getD i []).length<=1000000:=fun i hi=>by rw[(fV.row i hi).1];omega
      have hWr:∀i,i<W.length->(W.getD i []).length<=1000000:=fun i hi=>by rw[(w3.row i hi).1];omega
      unfold yCD yCF;rw[zDb (by omega) hUr,bs,zV,bs,g2,g1]
      by_cases g3:u.Rows.length<C.length
      ·rw[jk,zH,zH]
       unfold yCE zPN;obtain⟨A,pa,a1,a2,a3⟩:=zC6 eh (n:=C.length) (by omega) (rows:=u.Rows++W) (by rw[J5];omega) (zR4 fV.row w3.row);obtain⟨B,pb,b1,b2,b3⟩:=zGl eh (n:=C.length) (by omega) (rows:=W++u.Rows) (by rw[J5];omega) (zR4 w3.row fV.row);have h7:=eh.pos;have e:A=B:=Red.unique (by omega) a2 b2 (a3.trans (qN.trans ⟨zWc fun r hr=>by simp only[Ja]at hr ⊢;exact hr.symm,zWc fun r hr=>by simp only[Ja]at hr ⊢;exact hr.symm⟩ b3.symm));subst e;rw[zD1 (by omega) hWr,bs,zV,bs,a1,b1,bs,bs,bs,bs];exact⟨_,_,rfl,rfl⟩
      ·rw[jj (by omega),zK,zK,bs]
       exact⟨_,_,rfl,rfl⟩
     ·rw[zA9 g2,zH,zH,bs]
      exact⟨_,_,rfl,rfl⟩
    ·rw[zA9 g1,zH,zH,bs]
     exact⟨_,_,rfl,rfl⟩
   ·rw[show(c != 0)=jh from by grind,zH,zH,bs]
    simp only
    rw[show(c != 0)=jh from by grind,zH];exact⟨_,_,rfl,rfl⟩
  ·rw[s2,i2,bs,bs,Ky,zH,zH,bs]
   exact⟨_,_,rfl,rfl⟩
 ·rw[s1,i1,bs,bs,Ky,zH,zH,bs]
  exact⟨_,_,rfl,rfl⟩
theorem zG4(x0:SPr)(x1:zI)(v0:zQI x0)(v1:zY1 x1)
  (h:zE6 x0->S2 x1.Rows-> ∃g k,zTu x0 x1=jf (g,k)/\zXI x0 x1=jf (g,k)):zZ9 x0 x1=jf jh:=by
 unfold zZ9;rw[zH9 v0 (by decide) (by decide),bs];rcases zQJ (c:=zMu x0) (b:=1048576) (by decide) (by decide)with e|⟨e,a0,b0,w0⟩<;>rw[e]
 ·rfl
 rw[zK,zUU v1 a0 b0,bs];rcases zQJ (c:=c2 x1.Rows) a0 b0 with e|⟨e,a1,b1,w1⟩<;>rw[e]
 ·rfl
 have s0:zE6 x0:=zE6.of w0;have s1:S2 x1.Rows:=w1;obtain⟨g,k,hs,hi⟩:=h s0 s1;rw[zK,zHA s0,bs,zUV s1,bs];simp only[bs];rw[hs,bs,hi,bs];simp only
 rw[bne_self_eq_false,zK,bne_self_eq_false,zK,zHB s0,bs,Kb,zK,zUR s1,bs,Kb,zK]
theorem zFi(x0:SPr)(x1:zI)(v0:zQI x0)(v1:zY1 x1):zZ9 x0 x1=jf jh:=
 zG4 x0 x1 v0 v1 zFh
end Go.Pl
