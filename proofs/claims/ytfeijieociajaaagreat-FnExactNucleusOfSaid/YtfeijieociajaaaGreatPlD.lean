/- The program's NucleusOf returns what the reference's returns,for all arguments;no conditions. -/
import Derived.Test.YtfeijieociajaaaGreatPlC
import Derived.Test.YtfeijieociajaaaGreatPlA
open List renaming replicate→J1,getD_eq_getElem?_getD→J2,getElem?_eq_getElem→J3,length_append→J5,length_cons→J7,mem_cons→J9,mem_append→Ja,length_singleton→Jb,append_assoc→Jc,mem_map→Je,range→Jf,length_map→Jg,append_nil→Jh,length_replicate→Jk,getElem?_append_right→Jm,getElem_mem→Jo,take_left'→Js,length_nil→Jt,map_cons→Ju,replicate_succ→Jv,getElem?_map→Jw,take_of_length_le→Jx,take_succ_eq_append_getElem→Jy,nil_append→K0,drop_left'→K1,getElem?_append_left→K3,cons_append→K6,map_append→K7,range'→K8,take_zero→Ka,length_take→Kb,length_drop→Kl,flatMap_cons→Kr,range_succ→Kt,range_eq_range'→Kw,ext_getElem?→Kz,take_length→L8,map_nil→Ld,length_range→Lh,getElem?_eq_none→Li,mem_range→Lj,mem_flatMap→Ll,mem_iff_getElem→Lq,take_add_one→Ls,eq_of_mem_replicate→H2,filterMap_cons→Hl,range'_succ→Hp,flatMap_append→U8,getD→Ua,drop_zero→Ui,flatMap_nil→qf9,range_zero→Q6,getElem?_range→Qw,append_cancel_left→Qx,mem_filterMap→Jam,map_map→Jb1,mem_range'→Jb7,mem_filter→Jb8,flatten_append→Jbb,take_append_drop→Jbm
open Int renaming toNat_natCast->J8,emod_eq_of_lt->Jr,mul_emod->Jz,emod_emod->K4,add_emod->Kc,emod_lt_of_pos->Kg,emod_nonneg->Kk,zero_add->Kq,add_zero->L9,emod_add_emod->G6,one_mul->Gu,sub_emod->Qi,natCast_succ->Jbe,add_mul->Jbp
open Nat renaming le_refl->Jd,zero_add->Ji,lt_or_ge->Jp,mul_le_mul->Jq,succ_mul->K9,mul_one->H0,add_sub_cancel_left->H4,le_trans->H9,add_zero->U1,add_sub_cancel->Jaz
open Bool renaming not_true->Kj
open Option renaming isSome_iff_exists->Kv,getD_some->Lu
open Option renaming some->jh,none->ji
open Bool renaming true->jj,false->jk
namespace Go.Pl
open Go Go.Ab Go.Wk Go.Pc
variable {a:Vec}{u C:Mx}{i k q j:Nat}{x:SPr}{pc:Nat->Nat}
section
variable {x:SPr} (h:Pres x) (hc:xC (suf x 0))
 include h hc
theorem yED{b:Vec}(ha:V (suf x 0) a)(hb:V (suf x 0) b):∃w,V (suf x 0) w/\mul (suf x 0) (mul (suf x 0) b a) w=mul (suf x 0) a b/\zOb x a b=jh w/\zQd x a b=jh w:=by
 have G:=g0 h hc;have ok:=ok0 h hc;obtain⟨w,w1,w2,w3⟩:=yA2 h hc ha hb;obtain⟨z,z1,z2,z3⟩:=zVK h hc ha hb;rw[G.cancel_l (yO ok hb ha) z1 w1 (z2.trans w2.symm)]at z3;exact⟨w,w1,w2,w3,z3⟩
 omit h hc in
noncomputable def cmf (x:SPr) (a b:Vec):Vec:=(zOb x a b).getD []
theorem zCE{b:Vec}(ha:V (suf x 0) a)(hb:V (suf x 0) b):V (suf x 0) (cmf x a b)/\mul (suf x 0) (mul (suf x 0) b a) (cmf x a b)=mul (suf x 0) a b/\zOb x a b=jh (cmf x a b)/\zQd x a b=jh (cmf x a b):=by
 obtain⟨w,w1,w2,w3,w4⟩:=yED h hc ha hb;have:cmf x a b=w:=by rw[cmf,w3];rfl
 rw[this];exact⟨w1,w2,w3,w4⟩
 omit h hc in
noncomputable def cms (x:SPr) (u v:Mx) (i:Nat):Mx:=((u.take i).map fun a=>v.map fun b=>cmf x a b).flatten
 omit h hc in
theorem zI2{v:Mx}(hi:i<u.length:=by omega):cms x u v (i+1)=cms x u v i++v.map (fun b=>cmf x (u.getD i []) b):=by
  rw[cms,Ls,K7,Jbb,J3 hi,J2,J3 hi];simp[cms]
 omit h hc in
theorem zLv{u v:Mx}:∀i,i<=u.length->(cms x u v i).length=i*v.length
  |0,_=>by simp[cms]
  |i+1,hi=>by rw[zI2,J5,zLv i (by omega),Jg,K9]
 omit h hc in
theorem zLw{v:Mx}{c:Vec}:c∈cms x u v u.length↔ ∃a∈u,∃b∈v,cmf x a b=c:=by
  simp only[cms,L8,List.mem_flatten,Je];constructor
  · rintro⟨l,⟨b,hb,rfl⟩,hc⟩
    obtain⟨a,ha,rfl⟩:=Je.1 hc;exact⟨b,hb,a,ha,rfl⟩
  · rintro⟨b,hb,a,ha,rfl⟩
    exact⟨_,⟨b,hb,rfl⟩,Je.2 ⟨a,ha,rfl⟩⟩
theorem yEE{v:Mx}(hu:∀a∈u,V (suf x 0) a)(hv:∀a∈v,V (suf x 0) a):∀c∈cms x u v u.length,V (suf x 0) c:=fun c bC=>by obtain⟨a,ha,b,hb,rfl⟩:=zLw.1 bC;exact(zCE h hc (hu a ha) (hv b hb)).1
theorem zP2{v:Mx}(hu:∀a∈u,V (suf x 0) a)(gT:u.length<=14)(hv:∀a∈v,V (suf x 0) a)(fU:v.length<=14):
  zF (zTx x u v) ([],0)=jh (cms x u v u.length)/\zF (zTw x u v) ([],0)=jh (cms x u v u.length):=by
 have gf:∀i,i<=u.length->(cms x u v i).length<=196:=fun i hi=>by rw[zLv i hi];exact H9 (Jq (H9 hi gT) fU) (by decide)
 have um:∀i,i<u.length->V (suf x 0) (u.getD i []):=fun i hi=>hu _ (by rw[J2,J3 hi];exact Jo hi)
 have vm:∀i,i<v.length->V (suf x 0) (v.getD i []):=fun i hi=>hv _ (by rw[J2,J3 hi];exact Jo hi)
 have ev:∀j(hj:j<v.length),v.getD j []=v[j]:=fun j hj=>by rw[J2,J3 hj];rfl
 constructor
 ·have l:=zN (body:=zTx x u v) (r:=cms x u v u.length) (fun i=>(cms x u v i,(i:Int))) u.length (fun i hi=>by
   have gy:=gf i (by omega);have inner:=zN (body:=zXI x v (u.getD i [])) (r:=cms x u v (i+1)) (fun j=>(cms x u v i++(v.take j).map (fun b=>cmf x (u.getD i []) b),(j:Int))) v.length (fun j hj=>by
    unfold zXI;simp only
    rw[show decide ((j:Int)<(v.length:Int))=jj from jm,zH,yA [] hj,bs,(zCE h hc (um i hi) (vm j hj)).2.2.1,bs,zV (by simp only[J5,Jg,Kb,Jb];omega),bs,zB,bs];rw[Ls,K7,J3 hj,ev j hj,<-Jc];rfl) (by
    unfold zXI;simp only
    rw[show decide ((v.length:Int)<(v.length:Int))=jk from jl (by omega),zJ,L8,zI2 hi])
   rw[Ka,Ld,Jh,show((0:Nat):Int)=0 from rfl]at inner;unfold zTx;simp only
   rw[show decide ((i:Int)<(u.length:Int))=jj from jm,zH,yA [] hi,bs,inner,bs,zB,bs];rfl) (by
   unfold zTx;simp only
   rw[show decide ((u.length:Int)<(u.length:Int))=jk from jl (by omega),zJ])
  exact l
 ·have l:=zN (body:=zTw x u v) (r:=cms x u v u.length) (fun i=>(cms x u v i,(i:Int))) u.length (fun i hi=>by
   have gy:=gf i (by omega);have inner:=zN (body:=zXB x u v (cms x u v i,(i:Int))) (r:=cms x u v (i+1)) (fun j=>(cms x u v i++(v.take j).map (fun b=>cmf x (u.getD i []) b),(j:Int))) v.length (fun j hj=>by
    unfold zXB;simp only
    rw[show decide ((j:Int)<(v.length:Int))=jj from jm,zH,yA [] hi,bs,yA [] hj,bs,(zCE h hc (um i hi) (vm j hj)).2.2.2,bs,zV (by simp only[J5,Jg,Kb,Jb];omega),bs,zB,bs];rw[Ls,K7,J3 hj,ev j hj,<-Jc];rfl) (by
    unfold zXB;simp only
    rw[show decide ((v.length:Int)<(v.length:Int))=jk from jl (by omega),zJ,L8,zI2 hi])
   rw[Ka,Ld,Jh,show((0:Nat):Int)=0 from rfl]at inner;unfold zTw;simp only
   rw[show decide ((i:Int)<(u.length:Int))=jj from jm,zH,inner,bs,zB,bs];rfl) (by
   unfold zTw;simp only
   rw[show decide ((u.length:Int)<(u.length:Int))=jk from jl (by omega),zJ])
  exact l
end
theorem zP3(hk:k<=1000000:=by omega):zXH (k:Int)=jh []:=by
 unfold zXH;rw[jl (by omega),zJ,zB,bs,zB,bs]
 by_cases h:k=0
 ·subst h;rfl
 ·rw[jm,zH]
  rw[show(((k:Nat):Int)-(0-0))=(k:Int)from by omega];unfold wL;rw[if_pos (by simp only[Jt];omega),bs];unfold zS;rw[if_pos ⟨by omega,by omega,by omega⟩,bs];simp
theorem zLx{v:Mx}(hu:u.length<=1000:=by omega)(hv:v.length<=1000:=by omega):zZ4 [u,v]=jh (u++v):=by
 unfold zZ4;have l1:=zN (body:=zOd [u,v]) (r:=(((u.length+v.length:Nat)):Int)) (fun i=>((match i with|0=>0|1=>(u.length:Int)|_=>((u.length+v.length:Nat):Int)),(i:Int))) 2 (fun i hi=>by
  unfold zOd
  match i,hi with
  |0,_=>
   simp only
   rw[show decide (((0:Nat):Int)<(([u,v]:List Mx).length:Int))=jj from rfl,zH,show ixO [u,v] ((0:Nat):Int)=jh u from rfl,bs,zB,bs,jl (by omega),zJ,zB,bs];simp
  |1,_=>
   simp only
   rw[show decide (((1:Nat):Int)<(([u,v]:List Mx).length:Int))=jj from rfl,zH,show ixO [u,v] ((1:Nat):Int)=jh v from rfl,bs,zB,bs,jl (by omega),zJ,zB,bs];simp) (by
  unfold zOd;simp only
  rw[show decide (((2:Nat):Int)<(([u,v]:List Mx).length:Int))=jk from rfl,zJ])
 have l2:=zN (body:=zOe [u,v]) (r:=u++v) (fun i=>((match i with|0=>[] |1=>u|_=>u++v),(i:Int))) 2 (fun i hi=>by
  unfold zOe
  match i,hi with
  |0,_=>
   simp only
   rw[show decide (((0:Nat):Int)<(([u,v]:List Mx).length:Int))=jj from rfl,zH,show ixO [u,v] ((0:Nat):Int)=jh u from rfl,bs,zV (by simp only[Jt];omega),bs,zB,bs];simp
  |1,_=>
   simp only
   rw[show decide (((1:Nat):Int)<(([u,v]:List Mx).length:Int))=jj from rfl,zH,show ixO [u,v] ((1:Nat):Int)=jh v from rfl,bs,zV,bs,zB,bs];simp) (by
  unfold zOe;simp only
  rw[show decide (((2:Nat):Int)<(([u,v]:List Mx).length:Int))=jk from rfl,zJ])
 simp only at l1 l2;rw[show((0:Nat):Int)=0 from rfl]at l1 l2;rw[l1,bs,zP3,bs,l2,bs]
section
variable {x:SPr} (h:Pres x) (hc:xC (suf x 0))
 include h hc
theorem zG3{v:Mx}(hu:∀a∈u,V (suf x 0) a)(gT:u.length<=14)(hv:∀a∈v,V (suf x 0) a)(fU:v.length<=14):
  ∃(L:Vec->Prop)(C:Nat->Option Vec),f_X x u v=jh (wA C 0 x.zA.length)/\f_W x u v=jh (wA C 0 x.zA.length)/\zAx x L C/\(∀a,L a->V (suf x 0) a)/\
   ∀a,vR x L a↔NCl (V (suf x 0)) (mul (suf x 0)) (zeros (suf x 0).length) (· ∈cms x u v u.length) (· ∈u++v) a:=by
 obtain⟨li,ls⟩:=zP2 h hc hu gT hv fU;have hV:=yEE h hc hu hv;have gy:(cms x u v u.length).length<=196:=by rw[zLv u.length (Jd _)];exact H9 (Jq gT fU) (by decide)
 have hB:∀a∈u++v,V (suf x 0) a:=fun a ha=>(Ja.1 ha).elim (hu a) (hv a)
 have po:(u++v).length<=50:=by rw[J5];omega
 obtain⟨C0,c1,c2⟩:=zEf h hc hV (by omega);obtain⟨L,C,s1,s2,s3,s4⟩:=zNx h hc (M:=cms x u v u.length) hB po (L0:=(· ∈cms x u v u.length)) (fun a ha=>hV a ha) (fun a ha=>.x ha) (fun a ha=>.x ha) c2;obtain⟨L',C',i1,i2,i3,i4⟩:=zLs h hc hV (by omega) hB (by omega);have e:=zI1 h hc s2 i2 fun a=>(s4 a).trans (i4 a).symm
 have h9:=h.os.1;refine⟨L,C,?_,?_,s2,s3,s4⟩
 ·unfold f_X
  rw[ls,bs,c1,bs,zCZ (by omega) (fun i hi=>by have:=hu (u.getD i []) (by rw[J2,J3 hi];exact Jo hi);rw[zBt h hc this];omega),bs,zV,bs,s1,bs]
 ·unfold f_W
  rw[li,bs,zLx,bs,i1,bs,e]
end
noncomputable def gns (x:SPr):Mx:=(Jf x.zA.length).map (vA x.zA.length)
theorem zNy(h:Pres x):zXG x=jh (gns x):=by
 have h9:=h.os.1;have l:=zN (body:=zOc x) (r:=gns x) (fun i=>((Jf i).map (vA x.zA.length),(i:Int))) x.zA.length (fun i hi=>by
  unfold zOc;simp only
  rw[show decide ((i:Int)<(x.zA.length:Int))=jj from jm,zH,qF hi,bs,zV (by simp only[Jg,Lh,Jb];omega),bs,zB,bs,Kt,K7];rfl) (by
  unfold zOc;simp only
  rw[show decide ((x.zA.length:Int)<(x.zA.length:Int))=jk from jl (by omega),zJ];rfl)
 unfold zXG yC8;rw[Q6,Ld,show((0:Nat):Int)=0 from rfl]at l;rw[l,bs,bs]
section
variable {x:SPr} (h:Pres x) (hc:xC (suf x 0))
 include h hc
theorem zNz{l0:Mx}(hu:∀a∈u,V (suf x 0) a)(gT:u.length<=14)(iD:l0.length<=100){q:Int}(q0:0<=q)(q1:q<=1000):
  zF (zKf u x q) (l0,0)=jh (l0++u.map fun a=>pw (mul (suf x 0)) (zeros (suf x 0).length) a q.toNat)/\zF (zKd x u q) (l0,0)=jh (l0++u.map fun a=>pw (mul (suf x 0)) (zeros (suf x 0).length) a q.toNat):=by
 have um:∀i,i<u.length->V (suf x 0) (u.getD i []):=fun i hi=>hu _ (by rw[J2,J3 hi];exact Jo hi)
 have eu:∀j(hj:j<u.length),u.getD j []=u[j]:=fun j hj=>by rw[J2,J3 hj];rfl
 constructor
 ·have l:=zN (body:=zKf u x q) (r:=l0++u.map fun a=>pw (mul (suf x 0)) (zeros (suf x 0).length) a q.toNat) (fun i=>(l0++(u.take i).map (fun a=>pw (mul (suf x 0)) (zeros (suf x 0).length) a q.toNat),(i:Int))) u.length (fun i hi=>by
   unfold zKf;simp only
   rw[show decide ((i:Int)<(u.length:Int))=jj from jm,zH,yA [] hi,bs,zYL h hc (um i hi) q0 q1,bs,zV (by simp only[J5,Jg,Kb,Jb];omega),bs,zB,bs];rw[Ls,K7,J3 hi,eu i hi,<-Jc];rfl) (by
   unfold zKf;simp only
   rw[show decide ((u.length:Int)<(u.length:Int))=jk from jl (by omega),zJ,L8])
  rw[Ka,Ld,Jh,show((0:Nat):Int)=0 from rfl]at l;exact l
 ·have l:=zN (body:=zKd x u q) (r:=l0++u.map fun a=>pw (mul (suf x 0)) (zeros (suf x 0).length) a q.toNat) (fun i=>(l0++(u.take i).map (fun a=>pw (mul (suf x 0)) (zeros (suf x 0).length) a q.toNat),(i:Int))) u.length (fun i hi=>by
   unfold zKd;simp only
   rw[show decide ((i:Int)<(u.length:Int))=jj from jm,zH,yA [] hi,bs,zVJ h hc (um i hi) q0 q1,bs,zV (by simp only[J5,Jg,Kb,Jb];omega),bs,zB,bs];rw[Ls,K7,J3 hi,eu i hi,<-Jc];rfl) (by
   unfold zKd;simp only
   rw[show decide ((u.length:Int)<(u.length:Int))=jk from jl (by omega),zJ,L8])
  rw[Ka,Ld,Jh,show((0:Nat):Int)=0 from rfl]at l;exact l
end
theorem zN0(h:Pres x):zX8 x=jh (gns x):=by
 have h9:=h.os.1;have l:=zN (body:=zFi (x.zA.length:Int)) (r:=gns x) (fun i=>((Jf i).map (vA x.zA.length),(i:Int))) x.zA.length (fun i hi=>by
  unfold zFi;simp only
  rw[show decide ((i:Int)<(x.zA.length:Int))=jj from jm,zH,yH,bs,yA 0 (by rw[Jk];exact hi),bs,show((i:Nat):Int).toNat=i from rfl,zV (by simp only[Jg,Lh,Jb];omega),bs,zB,bs,Kt,K7,uD,sP];rfl) (by
  unfold zFi;simp only
  rw[show decide ((x.zA.length:Int)<(x.zA.length:Int))=jk from jl (by omega),zJ];rfl)
 unfold zX8 f_v;rw[Q6,Ld,show((0:Nat):Int)=0 from rfl]at l;rw[l,bs,bs]
theorem zD3(h:Pres x):∀a∈gns x,V (suf x 0) a:=fun a ha=>by
 obtain⟨k,hk,rfl⟩:=Je.1 ha;have bp:=Lj.1 hk;refine zYu x.zA.length 0 _ (by omega) (by simp[vA,mkv]) fun i hi=>?_
 have hp:=(h.os.2 i hi).pos;have e:at0 (vA x.zA.length k) i=if i=k then 1 else 0:=by exact zW hi
 rw[Ji,e];split<;>omega
theorem zR7:(gns x).length=x.zA.length:=by simp[gns]
section
variable {x:SPr} (h:Pres x) (hc:xC (suf x 0))
 include h hc
theorem zSA(hu:∀a∈u,V (suf x 0) a)(gT:u.length<=14){q:Int}(q0:0<=q)(q1:q<=1000):
  ∃(L:Vec->Prop)(C D:Nat->Option Vec),zXC x u q=jh (wA C 0 x.zA.length)/\zXJ u x q=jh (wA C 0 x.zA.length)/\
   zAx x (· ∈wA D 0 x.zA.length++u.map fun a=>pw (mul (suf x 0)) (zeros (suf x 0).length) a q.toNat) C/\zAx x L D/\(∀a,L a->V (suf x 0) a)/\
   ∀a,vR x L a↔NCl (V (suf x 0)) (mul (suf x 0)) (zeros (suf x 0).length) (· ∈cms x u (gns x) u.length) (· ∈u++gns x) a:=by
 have h9:=h.os.1;have G:=g0 h hc;obtain⟨L,D,s1,i1,d1,d2,d3⟩:=zG3 h hc hu gT (zD3 h) (by rw[zR7];exact h9);have hdl:=zCD D 0 x.zA.length;obtain⟨pi,ps⟩:=zNz h hc (l0:=wA D 0 x.zA.length) hu gT (by omega) q0 q1;have a7:∀a∈wA D 0 x.zA.length++u.map (fun a=>pw (mul (suf x 0)) (zeros (suf x 0).length) a q.toNat),V (suf x 0) a:=fun a ha=>by
  rcases Ja.1 ha with ha|ha
  ·obtain⟨k,_,hk⟩:=Jam.1 ha
   exact(d1.i hk).2.2.1
  ·obtain⟨a0,k0,rfl⟩:=Je.1 ha
   exact wT G.toMon (hu a0 k0) _
 obtain⟨C,c1,c2,c3⟩:=zI0 h hc a7 (by simp only[J5,Jg];omega);refine⟨L,C,D,?_,?_,c3,d1,d2,d3⟩
 ·unfold zXC
  rw[zN0 h,bs,s1,bs,ps,bs,c1,bs]
 ·unfold zXJ
  rw[zNy h,bs,i1,bs,pi,bs,c2,bs]
end
theorem zN1(a:List Int):∀l:Nat,(∀j,j<l->at0 a j=0)\/ ∃j,j<l/\(∀i,i<j->at0 a i=0)/\at0 a j≠0
 |0=>.inl fun j hj=>by omega
 |l+1=>by
  rcases zN1 a l with h|⟨j,h1,h2⟩
  ·by_cases hl:at0 a l=0
   ·refine .inl fun j hj=>?_
    by_cases hjl:j=l
    ·subst hjl;exact hl
    ·exact h j (by omega)
   ·exact .inr ⟨l,by omega,h,hl⟩
  ·exact .inr ⟨j,by omega,h2⟩
noncomputable def gtb (x:SPr) (k:Nat):Option Vec:=if k<x.zA.length then jh (vA x.zA.length k)else ji
theorem zYN:wA (gtb x) 0 x.zA.length=gns x:=by
 have:∀(l:List Nat),(∀k∈l,k<x.zA.length)->l.filterMap (gtb x)=l.map (vA x.zA.length):=by
  intro l
  induction l with
  |nil=>intro _;rfl
  |cons k l ih=>
   intro hk;rw[Hl,gtb,if_pos (hk k (by simp)),Ju,ih fun j hj=>hk j (by simp[hj])]
 rw[wA,this _ fun k hk=>by simpa[Jb7]using hk,gns,Kw]
section
variable {x:SPr} (h:Pres x) (hc:xC (suf x 0))
 include h hc
theorem zDf:zAx x (· ∈gns x) (gtb x):=by
 have G:=g0 h hc;have F:=zBV h hc;have at_:∀{k j},j<x.zA.length->at0 (vA x.zA.length k) j=if j=k then 1 else 0:=fun hj=>zW hj
 refine⟨fun{k t} hk=>?_,fun{a} ha gc=>?_⟩
 ·by_cases eZ:k<x.zA.length
  ·rw[gtb,if_pos eZ]at hk
   cases hk;have hm:vA x.zA.length k∈gns x:=Je.2 ⟨k,Lj.2 eZ,rfl⟩;refine⟨eZ,.x hm,zD3 h _ hm,fun j hj=>?_,?_,fun j hj fL _=>?_⟩
   ·rw[at_ (by omega),if_neg (by omega)]
   ·rw[at_ eZ,if_pos rfl]
   ·rw[at_ fL,if_neg (by omega)]
  ·rw[gtb,if_neg eZ]at hk;cases hk
 ·have haV:=ha.in G (zD3 h)
  rcases zN1 a x.zA.length with hz|⟨j,h1,h2,h3⟩
  ·exact absurd (F.ex haV G.ein fun d hd=>by rw[F.e0 hd];exact hz d hd) gc
  ·exact⟨j,h1,by rw[gtb,if_pos h1];rfl,h2,h3⟩
end
section
variable {x:SPr} (h:Pres x) (hc:xC (suf x 0))
 include h hc
theorem zD4{c:Vec}(cV:V (suf x 0) c):vR x (· ∈gns x) c:=by
 have G:=g0 h hc;have F:=zBV h hc;have key:∀l k:Nat,k+l=x.zA.length-> ∀{a:Vec},V (suf x 0) a->(∀j,j<k->at0 a j=0)->vR x (· ∈gns x) a:=by
  intro l
  induction l with
  |zero=>
   intro k hk a ha za;rw[F.ex ha G.ein fun d hd=>by rw[F.e0 hd];exact za d (by omega)];exact .one
  |succ l ih=>
   intro k hk a ha za
   by_cases h0:at0 a k=0
   ·exact ih (k+1) (by omega) ha fun j hj=>by
     by_cases hjk:j=k
     ·subst hjk;exact h0
     ·exact za j (by omega)
   ·obtain⟨_,t2,t3,t4,t5,_⟩:=(zDf h hc).i (k:=k) (t:=vA x.zA.length k) (by rw[gtb,if_pos (by omega)])
    have fa:=F.killl (d:=k) (by omega) t3 t4 t5 ha za;have hp:=F.pw1 (d:=k) (by omega) t3 t4 t5 (at0 x.zA k-at0 a k).toNat;have hy:=ih (k+1) (by omega) (G.cl hp.1 ha) fun j hj=>by
     by_cases hjk:j=k
     ·subst hjk;exact fa
     ·exact F.dm (d:=k) (by omega) hp.1 ha hp.2.1 za j (by omega)
    exact Gen.right G (zD3 h) (t2.pw _) ha hy
 exact key x.zA.length 0 (by omega) cV fun j hj=>by omega
end
open Go Go.Ab Go.Wk Go.Pc GrT
def EA(x:SPr)(_:Pres x/\xC (suf x 0)):Type:={a:Vec // V (suf x 0) a}
variable {x:SPr}{w:Pres x/\xC (suf x 0)}
noncomputable instance:GrT (EA x w) where
 mul a b:=⟨mul (suf x 0) a.1 b.1,(g0 w.1 w.2).cl a.2 b.2⟩
 one:=⟨zeros (suf x 0).length,(g0 w.1 w.2).ein⟩
 inv a:=⟨Classical.choose ((g0 w.1 w.2).invl a.2),(Classical.choose_spec ((g0 w.1 w.2).invl a.2)).1⟩
 as a b c:=Subtype.ext ((g0 w.1 w.2).assoc a.2 b.2 c.2)
 ol a:=Subtype.ext ((g0 w.1 w.2).onel a.2)
 or1 a:=Subtype.ext ((g0 w.1 w.2).oner a.2)
 il a:=Subtype.ext (Classical.choose_spec ((g0 w.1 w.2).invl a.2)).2.2
 ir a:=Subtype.ext (Classical.choose_spec ((g0 w.1 w.2).invl a.2)).2.1
def mkE(w:Pres x/\xC (suf x 0))(a:Vec)(h:V (suf x 0) a):EA x w:=⟨a,h⟩
theorem yCe(a b:EA x w):(a*b).1=mul (suf x 0) a.1 b.1:=rfl
theorem zR8(a:EA x w):∀k,(pg a k).1=pw (mul (suf x 0)) (zeros (suf x 0).length) a.1 k
 |0=>rfl
 |k+1=>by rw[pg,yCe,zR8 a k,Pc.pw,Pc.pw,xQ]
theorem yA4{a b c:EA x w}(h:mul (suf x 0) (mul (suf x 0) b.1 a.1) c.1=mul (suf x 0) a.1 b.1):c=a⁻¹*b⁻¹*a*b:=
 zQP (a:=b*a) (by simp only[as,cl2];rw[<-as];exact Subtype.ext h)
theorem yEF{a b c:EA x w}(h:mul (suf x 0) b.1 c.1=mul (suf x 0) a.1 b.1):c=b⁻¹*a*b:=
 zQP (a:=b) (by simp only[as,cl2];exact Subtype.ext h)
theorem zVQ(X:Vec->Prop):Sg (A:=EA x w) fun a=>vR x X a.1:=⟨.one,fun h1 h2=>.m h1 h2,fun{a} h=>.i h (a⁻¹).2 (congrArg (·.1) (ir a))⟩
theorem zLy{X:Vec->Prop}{H:EA x w->Prop}(hH:Sg H)(hX:∀a,X a-> ∃h,H (mkE w a h))(ha:vR x X a):∃h,H (mkE w a h):=by
 induction ha with
 |one=>exact⟨_,hH.o⟩
 |x k=>exact hX _ k
 |m _ _ k1 k2=>obtain⟨a,a1⟩:=k1;obtain⟨b,b1⟩:=k2;exact⟨_,hH.m a1 b1⟩
 | @i a b _ hb hh k=>
  obtain⟨h,h1⟩:=k;refine⟨hb,?_⟩;rw[show mkE w b hb=(mkE w a h)⁻¹ from zDQ (Subtype.ext hh)];exact hH.i h1
theorem zVR:Fil (fun _:EA x w=>True) (· *·) 1 x.zA.length (fun d=>at0 x.zA d) (fun a d=>at0 a.1 d):=by
 have F:=zBV w.1 w.2;exact⟨⟨⟨fun _ _=>trivial,trivial,fun _ _ _=>as _ _ _,fun _=>ol _,fun _=>or1 _⟩,fun{a} _=>⟨a⁻¹,trivial,ir a⟩⟩,fun{a d} _ hd=>F.r a.2 hd,fun hd=>F.e0 hd,
  fun{a b} _ _ h=>Subtype.ext (F.ex a.2 b.2 h),fun{a b d} _ _ hd h=>F.ad a.2 b.2 hd h⟩
def zCF(w:Pres x/\xC (suf x 0))(q i:Nat)(t:Mx):Prop:=∃Y C,t=wA C 0 x.zA.length/\zAx x Y C/\(∀a,Y a->V (suf x 0) a)/\ ∀a:EA x w,vR x Y a.1↔Qm q i a
theorem zCF.v{t:Mx}(h:zCF w q i t):(∀a∈t,V (suf x 0) a)/\t.length<=x.zA.length/\ ∀a:EA x w,Ge (fun b=>b.1∈t) a↔Qm q i a:=by
 obtain⟨Y,C,rfl,hC,hY,hQ⟩:=h;have pO:=zFg w.1 w.2 hY hC;have hV:∀a∈wA C 0 x.zA.length,V (suf x 0) a:=fun a ha=>((pO a).2 (.x ha)).in (g0 w.1 w.2) hY
 refine⟨hV,zCD C 0 x.zA.length,fun a=>?_⟩;rw[<-hQ a,pO];constructor
 ·intro h;exact h.to (zVQ _) fun b hb=>.x hb
 ·intro h
  obtain⟨_,h1⟩:=zLy (w:=w) (H:=Ge fun b=>b.1∈wA C 0 x.zA.length) (Ge.s _) (fun a ha=>⟨hV a ha,.x ha⟩) h;exact h1
theorem zP4(a:EA x w):Ge (fun b=>b.1∈gns x) a:=by obtain⟨_,h1⟩:=zLy (w:=w) (H:=Ge fun b=>b.1∈gns x) (Ge.s _) (fun a ha=>⟨zD3 w.1 a ha,.x ha⟩) (zD4 w.1 w.2 a.2);exact h1
theorem zVS(hq:q<=1000){t:Mx}(h:zCF w q i t)(hl:x.zA.length<=14):∃s,zXC x t q=jh s/\zXJ t x q=jh s/\zCF w q (i+1) s:=by
 obtain⟨hV,fd,hQ⟩:=h.v;obtain⟨L,C,D,e1,e2,c3,d1,d2,d3⟩:=zSA w.1 w.2 hV (by omega) (q:=(q:Int)) (by omega) (by omega);simp only[J8]at c3;have eg:=zFg w.1 w.2 d2 d1;have i6:Qm q i=Ge (A:=EA x w) (fun b=>b.1∈t):=funext fun a=>propext (hQ a).symm
 have hn:=Qm.n (A:=EA x w) q i;have bh:=Qm.n (A:=EA x w) q (i+1);have gI:∀a,NCl (V (suf x 0)) (mul (suf x 0)) (zeros (suf x 0).length) (· ∈cms x t (gns x) t.length) (· ∈t++gns x) a-> ∃h,Qm q (i+1) (mkE w a h):=fun a ha=>by
  induction ha with
  |one=>exact⟨_,bh.o⟩
  |x hx=>
   obtain⟨y,hy,b,hb,rfl⟩:=zLw.1 hx;obtain⟨k1,k2,_,_⟩:=zCE w.1 w.2 (hV y hy) (zD3 w.1 b hb);refine⟨k1,.x (.inl ⟨mkE w y (hV y hy),mkE w b (zD3 w.1 b hb),(hQ _).1 (.x hy),yA4 (c:=mkE w _ k1) k2⟩)⟩
  |m _ _ k1 k2=>obtain⟨a,a1⟩:=k1;obtain⟨b,b1⟩:=k2;exact⟨_,bh.m a1 b1⟩
  | @i a b _ hb hh k=>
   obtain⟨h,h1⟩:=k;refine⟨hb,?_⟩;rw[show mkE w b hb=(mkE w a h)⁻¹ from zDQ (Subtype.ext hh)];exact bh.i h1
  | @c a b c _ hb cV hh k=>
   obtain⟨h,h1⟩:=k;have tw:V (suf x 0) b:=by
    rcases Ja.1 hb with hb|hb
    ·exact hV b hb
    ·exact zD3 w.1 b hb
   refine⟨cV,?_⟩;rw[yEF (a:=mkE w a h) (b:=mkE w b tw) (c:=mkE w c cV) hh];exact bh.c _ h1
 refine⟨_,e1,e2,_,C,rfl,c3,fun a ha=>?_,fun a=>⟨fun ha=>?_,fun ha=>?_⟩⟩
 ·rcases Ja.1 ha with ha|ha
  ·exact((eg a).2 (.x ha)).in (g0 w.1 w.2) d2
  ·obtain⟨b,hb,rfl⟩:=Je.1 ha
   exact wT (g0 w.1 w.2).toMon (hV b hb) _
 ·obtain⟨_,h1⟩:=zLy (w:=w) bh.toSg (fun b hb=>by
   rcases Ja.1 hb with hb|hb
   ·exact gI b ((d3 b).1 ((eg b).2 (.x hb)))
   ·obtain⟨c,hc,rfl⟩:=Je.1 hb
    have:Qm (A:=EA x w) q (i+1) (pg (mkE w c (hV c hc)) q):=.x (.inr ⟨_,(hQ _).1 (.x hc),rfl⟩);refine⟨wT (g0 w.1 w.2).toMon (hV c hc) _,?_⟩;rw[show mkE w _ (wT (g0 w.1 w.2).toMon (hV c hc) q)=pg (mkE w c (hV c hc)) q from Subtype.ext (zR8 (mkE w c (hV c hc)) q).symm];exact this) ha
  exact h1
 ·change Ge (NX q (Qm q i)) a at ha
  rw[i6]at ha;have hN:Nm (A:=EA x w) fun a=>vR x L a.1:=Nm.of zVR (zVQ _) (B:=fun b=>b.1∈gns x) zP4 fun{a b} ha hb=>(d3 _).2 (.c ((d3 _).1 ha) (Ja.2 (.inr hb)) (b⁻¹*a*b).2 (by rw[<-yCe,<-yCe];simp[as,cl2]))
  refine zYr zP4 hN (fun{u b} hu hb=>(d3 _).2 (.x (zLw.2 ⟨u.1,hu,b.1,hb,?_⟩))) (zVQ _) (fun b hb=>?_) (fun u hu=>?_) ha
  ·obtain⟨k1,k2,_,_⟩:=zCE w.1 w.2 u.2 b.2
   exact congrArg (·.1) (yA4 (a:=u) (b:=b) (c:=mkE w _ k1) k2)
  ·exact Gen.to (fun c hc=>.x (Ja.2 (.inl hc))) ((eg _).1 hb)
  ·rw[zR8];exact .x (Ja.2 (.inr (Je.2 ⟨u.1,hu,rfl⟩)))
variable {x:SPr}{w:Pres x/\xC (suf x 0)}
theorem zVT{s t:Mx}(ht:zCF w q i t)(hs:zCF w q (i+1) s):s.length<=t.length/\(s.length=t.length->s=t/\ ∀a:EA x w,Qm q i a->Qm q (i+1) a)/\(s.length<t.length-> ∃a:EA x w,Qm q i a/\ ¬Qm q (i+1) a):=by
 obtain⟨Y,C,rfl,hC,hY,hQ⟩:=ht;obtain⟨Z,D,rfl,hD,hZ,hR⟩:=hs;have G:=g0 w.1 w.2;have er:∀a,vR x Z a->vR x Y a:=fun a ha=>(hQ (mkE w a (ha.in G hZ))).2 ((Qm.n q i).sub ((hR (mkE w a (ha.in G hZ))).1 ha))
 have fd:=(Pc.some_len (C:=D) (D:=C) (K8 0 x.zA.length) (fun k _ hk=>Pc.Can.sub (zBV w.1 w.2) hD hC er hk)).1;refine⟨fd,fun hl=>?_,fun hl=>?_⟩
 ·have e:=zR6 w.1 w.2 hY hD hC er hl
  exact⟨zI1 w.1 w.2 hD hC e,fun a ha=>(hR a).1 ((e _).2 ((hQ a).2 ha))⟩
 ·refine Classical.byContradiction fun hn=>?_
  have e:∀a,vR x Z a↔vR x Y a:=fun a=>⟨er a,fun ha=>(hR (mkE w a (ha.in G hY))).2 (Classical.byContradiction fun h=>hn ⟨_,(hQ (mkE w a (ha.in G hY))).1 ha,h⟩)⟩
  rw[zI1 w.1 w.2 hD hC e]at hl;omega
theorem zVU{t:Mx}(h:zCF w q i t):∀r∈t,r.length<=1000:=fun r hr=>by have:=zBt w.1 w.2 (h.v.1 r hr);have:=w.1.os.1;omega
theorem zI3(w:Pres x/\xC (suf x 0))(hq:q<=1000:=by omega):∃s,zQg x q=jh s/\zOg x q=jh s/\0<s.length/\s.length<=20/\(∀i,i<s.length->zCF w q i (s.getD i []))/\
  (∀i,i+1<s.length-> ∃a:EA x w,Qm q i a/\ ¬Qm q (i+1) a)/\ ∀a:EA x w,Qm q (s.length-1) a->Qm q (s.length-1+1) a:=by
 have h9:=w.1.os.1;have dy:zCF w q 0 (gns x):=⟨(· ∈gns x),gtb x,zYN.symm,zDf w.1 w.2,zD3 w.1,fun a=>⟨fun _=>trivial,fun _=>zD4 w.1 w.2 a.2⟩⟩;obtain⟨s,r1,r2,r3⟩:=uA (body:=zRK (x,(q:Int))) (Q:=fun s=>zF (zIB x q) [gns x]=jh s/\0<s.length/\s.length<=20/\(∀i,i<s.length->zCF w q i (s.getD i []))/\
  (∀i,i+1<s.length-> ∃a:EA x w,Qm q i a/\ ¬Qm q (i+1) a)/\ ∀a:EA x w,Qm q (s.length-1) a->Qm q (s.length-1+1) a)
  (fun s=>zF (zIB x q) [gns x]=zF (zIB x q) s/\ ∃s0 t,s=s0++[t]/\s0.length+t.length<=19/\(∀i,i<s.length->zCF w q i (s.getD i []))/\ ∀i,i+1<s.length-> ∃a:EA x w,Qm q i a/\ ¬Qm q (i+1) a) (fun s=>30-s.length) (fun s hs=>by
   obtain⟨p8,s0,t,rfl,hl,hM,hN⟩:=hs;have gf:(s0++[t]).length=s0.length+1:=by simp
   have ht:=hM s0.length (by omega);have et:(s0++[t]).getD s0.length []=t:=by simp
   rw[et]at ht;obtain⟨z,e1,e2,hz⟩:=zVS hq ht h9;obtain⟨k1,k2,k3⟩:=zVT ht hz;have ei:ixO (s0++[t]) ((((s0++[t]).length:Nat):Int)-1)=jh t:=by rw[show(((s0++[t]).length:Nat):Int)-1=(s0.length:Int)from by simp,yA [] (by simp)];simp
   have spec1:zIB x q (s0++[t])=cond ((z.length:Int)==(t.length:Int)) (jh (.inr (s0++[t]))) (jh (.inl (s0++[t]++[z]))):=by unfold zIB;rw[zB,bs,ei,bs,e1,bs,zV (by simp only[J5,Jb];omega),bs]
   unfold zRK;simp only
   rw[zB,bs,ei,bs,e2,bs,bs,ei,bs,zIK (by have:=hz.v.2.1;omega) (zVU hz),bs]
   by_cases g:z.length=t.length
   ·right
    obtain⟨g1,g2⟩:=k2 g;rw[show(z==t)=jj from by rw[g1];simp,zH];refine⟨_,rfl,?_,by omega,by omega,hM,hN,fun a=>?_⟩
    ·rw[p8,yP,spec1,show((z.length:Int)==(t.length:Int))=jj from by simp[g],zH]
    ·rw[gf,Jaz];exact g2 a
   ·left
    rw[show(z==t)=jk from by apply beq_false_of_ne;intro e;exact g (by rw[e]),zJ,zV (by simp only[J5,Jb];omega),bs]
    refine⟨_,rfl,⟨?_,s0++[t],z,rfl,by omega,fun i hi=>?_,fun i hi=>?_⟩,by simp only[J5,Jb];omega⟩
    ·rw[p8,yP,spec1,show((z.length:Int)==(t.length:Int))=jk from by simp;omega,zJ]
    ·simp only[J5,Jb]at hi
     by_cases c:i<s0.length+1
     ·have:=hM i (by omega)
      rwa [J2,K3 (by omega),<-J2]
     ·obtain rfl:i=s0.length+1:=by omega
      rw[show(s0++[t]++[z]).getD (s0.length+1) []=z by simp];exact hz
    ·simp only[J5,Jb]at hi
     by_cases c:i+1<s0.length+1
     ·exact hN i (by omega)
     ·obtain rfl:i=s0.length:=by omega
      exact k3 (by omega)) 100 [gns x] (by simp)
  ⟨rfl,[],gns x,rfl,by rw[zR7];simp;omega,fun i hi=>by
   obtain rfl:i=0:=by simpa using hi
   exact dy,fun i hi=>by simp at hi⟩
 refine⟨s,?_,?_,r3⟩
 ·unfold zQg
  rw[zN0 w.1,bs,r2,bs]
 ·unfold zOg zZ7
  rw[zNy w.1,bs,r1,bs,bs]
theorem zVV(hq:q=2\/q=3\/q=5\/q=7)(ho:∀d,d<x.zA.length->at0 x.zA d=q)(h:∀a:EA x w,Qm q i a->Qm q (i+1) a)(a:EA x w)(ha:Qm q i a):a=1:=by
 have F:=zVR (w:=w);have F':Fil (fun _:EA x w=>True) (· *·) 1 x.zA.length (fun _=>(q:Int)) (fun a d=>at0 a.1 d):=⟨F.g,fun{a d} _ hd=>by
  have:=F.r (a:=a) trivial hd
  rwa [ho d hd]at this,F.e0,F.ex,fun{a b d} _ _ hd hz=>by
  have:=F.ad (a:=a) (b:=b) trivial trivial hd hz
  rwa [ho d hd]at this⟩
 refine Classical.byContradiction fun hn=>?_
 obtain⟨b,b1,b2⟩:=yEg F' hq (fun i hi=>by obtain⟨_,_,t3,t4,t5,_⟩:=(zDf w.1 w.2).i (k:=i) (t:=vA x.zA.length i) (by rw[gtb,if_pos hi]);exact⟨mkE w _ t3,t4,t5⟩) (Qm.n q i) ⟨a,ha,hn⟩
 exact b2 (h b b1)
def wt(g:Nat->Int):List Nat->Int
 | []=>0
 |a::w=>g a+wt g w
theorem zBJ{g:Nat->Int}:∀(u v:List Nat),wt g (u++v)=wt g u+wt g v
 | [],v=>by simp[wt]
 |a::u,v=>by rw[K6,wt,zBJ u v,wt];omega
theorem zI4{g:Nat->Int}{a:Nat}:∀k:Nat,wt g (J1 k a)=k*g a
 |0=>by simp[wt]
 |k+1=>by rw[Jv,wt,zI4 k,Jbe,Jbp];omega
def tsm(t:Nat->Int):Trc->Int
 | []=>0
 |q::tr=>t q.1+tsm t tr
section
variable {x:SPr}{g t:Nat->Int}
structure Wt (x:SPr) (g t:Nat->Int):Prop where
 p:∀a,a<x.zA.length->t a=wt g (nw 0 (x.zP.getD a []))-yD x a*g a
 c:∀b a,b<a->a<x.zA.length->t (base x.zA.length b+(a-(b+1)))=wt g (nw 0 (lcj x b a))-g a
variable (hW:Wt x g t)
 include hW
theorem yEG:∀{w:List Nat}{r:zC7},(∀a∈w,a<x.zA.length)->hdS x w=jh r->wt g r.2.2=wt g w+t r.1/\ ∀a∈r.2.1,a∈w:=by
 intro w r hw h;unfold hdS at h;have pw:∀{w:List Nat},(∀a∈w,a<x.zA.length)->pws x w=jh r->wt g r.2.2=wt g w+t r.1/\ ∀a∈r.2.1,a∈w:=fun{w} hw h=>by
  match w,h with
  | [],h=>cases h
  |a::w,h=>
   simp only[pws]at h
   by_cases k:(a::w).take (yD x a)=J1 (yD x a) a
   ·rw[if_pos k]at h
    cases h;refine⟨?_,fun b hb=>List.mem_of_mem_drop hb⟩;have e:=Jbm (yD x a) (a::w);rw[k]at e;have:=congrArg (wt g) e;rw[zBJ,zI4]at this;simp only
    rw[zBJ,hW.p a (hw a (by simp))];omega
   ·rw[if_neg k]at h;cases h
 match w,h with
 | [],h=>exact pw hw h
 | [a],h=>exact pw hw h
 |a::b::s,h=>
  simp only[swp]at h
  by_cases k:b<a
  ·rw[if_pos k]at h
   cases h;refine⟨?_,fun c hc=>by simp only at hc;simp[hc]⟩;simp only[wt];rw[zBJ,hW.c b a k (hw a (by simp))];omega
  ·rw[if_neg k]at h;exact pw hw h
theorem yA5:∀{w:List Nat}{r:zC7},(∀a∈w,a<x.zA.length)->stS x w=jh r->wt g r.2.2=wt g w+t r.1/\ ∀a∈r.2.1,a∈w
 | [],_,_,h=>by cases h
 |a::w,r,hw,h=>by
  simp only[stS]at h;cases e:hdS x (a::w)with
  |some q=>rw[e]at h;cases h;exact yEG hW hw e
  |none=>
   rw[e]at h;cases e2:stS x w with
   |none=>rw[e2]at h;cases h
   |some q=>
    rw[e2]at h;cases h;obtain⟨k1,k2⟩:=yA5 (fun b hb=>hw b (by simp[hb])) e2;exact⟨by simp only[wt];omega,fun b hb=>by simp[k2 b hb]⟩
theorem zVW{w w':List Nat}{tr:Trc}(hc:Col x k w tr w'):wt g w'=wt g w+tsm t tr/\ ∀q∈tr,∀a∈q.2,a<x.zA.length:=by
 induction hc with
 |refl w=>exact⟨by simp[tsm],by simp⟩
 | @step w w1 w' s r tr hw hs _ ih=>
  obtain⟨k1,k2⟩:=yA5 hW (fun a ha=>(hw a ha).2) hs;simp only at k1 k2;refine⟨by rw[ih.1,k1,tsm];show _=_+(t r+_);omega,fun q hq=>?_⟩;rcases J9.1 hq with rfl|hq
  ·exact fun a ha=>(hw a (k2 a ha)).2
  ·exact ih.2 q hq
end
theorem zP5{q:Int}(hq:Prime q){n N:Nat}{T:Mx}{t:Nat->Int}(hT:∀i,i<N->Row q 1 (T.getD i [])/\at0 (T.getD i []) 0%q=t i%q):∀tr:Trc,(∀p∈tr,p.1<N/\ ∀a∈p.2,a<n)->tv q 1 (xP q 1 n) T tr=mkv 1 fun _=>tsm t tr%q
 | [],_=>by rfl
 |(r,s)::tr,h=>by
  have h0:=h (r,s) (by simp);have ih:=zP5 hq hT tr fun p hp=>h p (by simp[hp])
  obtain⟨h1,h2⟩:=hT r h0.1;simp only[tv,tsm];rw[ih,zBs s (tL hq.pos.1) h0.2,sZ h1,adv];refine zX fun j hj=>?_
  obtain rfl:j=0:=by omega
  rw[zW,Int.add_emod_emod,Kc,h2,<-Kc]
theorem zR9{x:SPr}(h:Pres x)(h6:x.zA.length<=6):∀b,b<=x.zA.length->x.zA.length+((Jf b).flatMap (R2 x)).length=base x.zA.length b
 |0,_=>by simp[base]
 |b+1,hb=>by
  have ih:=zR9 h h6 b (by omega);have:=(h.tl b (by omega)).2.1;have e:((Jf (b+1)).flatMap (R2 x)).length=((Jf b).flatMap (R2 x)).length+(x.zE.getD b []).length:=by rw[Kt,U8,J5];simp only[Kr,qf9,Jh,R2,Jg,Lh]
  rw[zJH _ (by omega) b (by omega),<-ih,e];omega
theorem yCf{x:SPr}{a:Nat}(ha:a<x.zA.length):(wO x).getD a ([],[])=r1 x a:=by rw[wO,J2,K3 (by simp;exact ha)];simp[ha]
theorem yCg{x:SPr}(h:Pres x)(h6:x.zA.length<=6){b:Nat}(hb:b<x.zA.length:=by omega)(hj:b+j+1<x.zA.length:=by omega):(wO x).getD (base x.zA.length b+j) ([],[])=r2 x b j:=by
 have hf:=zR9 h h6 b (by omega);have hl:=(h.tl b hb).2.1;have e:Jf x.zA.length=Jf b++b::K8 (b+1) (x.zA.length-(b+1)):=by have a1:=@List.range'_append_1 0 b (x.zA.length-b);rw[Ji,show b+(x.zA.length-b)=x.zA.length by omega,show x.zA.length-b=x.zA.length-(b+1)+1 by omega,Hp]at a1;rw[Kw,Kw,<-a1]
 have e2:(Jf x.zA.length).flatMap (R2 x)=(Jf b).flatMap (R2 x)++(R2 x b++(K8 (b+1) (x.zA.length-(b+1))).flatMap (R2 x)):=by rw[e,U8,Kr]
 have l1:((Jf x.zA.length).map (r1 x)).length=x.zA.length:=by simp
 have l2:(R2 x b).length=(x.zE.getD b []).length:=by simp only[R2,Jg,Lh]
 have ei:base x.zA.length b+j-((Jf x.zA.length).map (r1 x)++(Jf b).flatMap (R2 x)).length=j:=by rw[J5,l1];omega
 rw[wO,e2,<-Jc,J2,Jm (by rw[J5,l1];omega),ei,K3 (by omega),R2,Jw,Qw (by omega)];rfl
theorem zP6{q:Int}(hq:Prime q){n:Nat}{u:Mx}:∀(w:List Nat)(v:List Int),(∀a∈w,a<n)->Row q 1 v->at0 (ev (xP q 1 n) 1 u v w) 0=(at0 v 0+wt (fun a=>at0 (u.getD a []) 0) w)%q
 | [],v,_,hv=>by have:=hv.2 0 (by omega);show at0 v 0=_;rw[wt,L9,Jr (by omega) (by omega)]
 |a::w,v,hw,hv=>by show at0 (ev (xP q 1 n) 1 u (stp (xP q 1 n) 1 u v a) w) 0=_;rw[zVI (hw a (by simp)) hv,zP6 hq w _ (fun b hb=>hw b (by simp[hb])) (qV hq),uO,zW,wt,G6,Gu,Int.add_assoc]
theorem zP7{g:Nat->Int}:∀w,wt (fun a=> -g a) w= -wt g w
 | []=>rfl
 |a::w=>by rw[wt,zP7 w,wt];omega
section
variable {x:SPr} (hx:zA4 x) {q:Int} (hq:Prime q) (hc:xC (suf x 0)) (h0:0<x.zA.length)
 include hx hq
theorem yCh(hi:i<x.zA.length):∃g t,Wt x g t/\ ∀r,r<base x.zA.length x.zA.length->at0 ((zC6 x (xP q 1 x.zA.length) 1).getD i []) r%q=t r%q:=by
 have h:=hx.toPres;have h6:=hx.n6;have hl:=zEQ h h6;refine⟨fun a=> -at0 ((uv x.zA.length 1 i).getD a []) 0,fun r=>wt (fun a=> -at0 ((uv x.zA.length 1 i).getD a []) 0) ((wO x).getD r ([],[])).2-wt (fun a=> -at0 ((uv x.zA.length 1 i).getD a []) 0) ((wO x).getD r ([],[])).1,⟨fun a ha=>?_,fun b a hb ha=>?_⟩,fun r hr=>?_⟩
 ·rw[yCf ha,r1,zI4]
 ·rw[yCg h h6,r2,wt,wt,wt,wt,show b+(a-(b+1))+1=a by omega,show(x.zE.getD b []).getD (a-(b+1)) []=lcj x b a from rfl]
  omega
 ·have cz:r<(wO x).length:=by omega
  have pE:(wO x)[r]? =jh (wO x)[r]:=by simp
  obtain⟨z1,z2⟩:=yCd h _ (Jo cz);have hz:=zFF (p:=q) (D:=1) (by have:=hq.pos;omega);have:=zMW (F:=dfc (xP q 1 x.zA.length) 1 (uv x.zA.length 1 i)) (show 0<1 by omega) (wO x) r (wO x)[r] (fun _ _=>zMK) pE;rw[H0,U1]at this;rw[zC6,zJJ,xJ,this,dfc,uO,zW,zP6 hq _ _ z1 hz,zP6 hq _ _ z2 hz];show _=(wt _ _-wt _ _)%q;rw[zP7,zP7,J2,pE];have e0:at0 (z0 1) 0=0:=rfl;rw[e0,Kq,Kq];show _%q%q=_;rw[K4,G6];simp only[Lu];rw[show(-1)*(wt (fun a=>at0 ((uv x.zA.length 1 i).getD a []) 0) (wO x)[r].2%q)= -(wt (fun a=>at0 ((uv x.zA.length 1 i).getD a []) 0) (wO x)[r].2%q)by omega,<-Int.sub_eq_add_neg,Qi,K4,<-Qi]
  congr 1
  omega
 include hc h0
theorem zYO{g t:Nat->Int}(hW:Wt x g t){y:Vec}(hy:Row q (base x.zA.length x.zA.length) y)(ht:∀r,r<base x.zA.length x.zA.length->at0 y r%q=t r%q):xC (suf (exx 1 x (xP q 1 x.zA.length) (Tc (base x.zA.length x.zA.length) 1 y)) 0):=by
 have h:=hx.toPres;have h6:=hx.n6;have hD:MOk x.zA.length (xP q 1 x.zA.length) 1:=zFb hq;have hr:=zCB (D:=1) h hq;have hB:=H0 (base x.zA.length x.zA.length);obtain⟨K,pk,_,_,k3⟩:=zAD hx hD h0 hc hr;have hz:Row q (base x.zA.length x.zA.length*1) (zeros (base x.zA.length x.zA.length*1)):=yX (by have:=hq.pos;omega);have c0:=(k3 _ hz).1 (zA7 fun j _=>by rw[wJ];rfl);obtain⟨dI,dE⟩:=zNm hx hD hz;obtain⟨hE,hT⟩:=zNm hx hD (y:=y) (by rw[hB];exact hy);have pe:∀k,k<x.zA.length->LC x k:=fun k hk=>((kG h.w hk).1 (tO hc k)).2
 refine(zJM h hE hT hc hr).1 ?_;have hTT:∀i,i<base x.zA.length x.zA.length->Row q 1 ((Tc (base x.zA.length x.zA.length) 1 y).getD i [])/\at0 ((Tc (base x.zA.length x.zA.length) 1 y).getD i []) 0%q=t i%q:=fun i hi=>by
  have e:(Tc (base x.zA.length x.zA.length) 1 y).getD i []=mkv 1 fun j=>at0 y (i*1+j):=by rw[Tc,xJ hi];rfl
  refine⟨hT i (by rw[Tc,wN];exact hi),?_⟩;rw[e,zW,H0,U1];exact ht i hi
 have bb:=xY x.zA.length (by omega);have key:∀{k r1 r2:Nat}{s1 s2 w1 w2:List Nat}{u1 u2:Trc}{y1 y2:Vec},tT x k w1 u1 y1->tT x k w2 u2 y2->y1=y2->r1<base x.zA.length x.zA.length->r2<base x.zA.length x.zA.length->(∀a∈s1,a<x.zA.length)->(∀a∈s2,a<x.zA.length)->t r1-wt g w1=t r2-wt g w2->
   tv q 1 (xP q 1 x.zA.length) (Tc (base x.zA.length x.zA.length) 1 y) ((r1,s1)::u1)=tv q 1 (xP q 1 x.zA.length) (Tc (base x.zA.length x.zA.length) 1 y) ((r2,s2)::u2):=by
  intro k r1 r2 s1 s2 w1 w2 u1 u2 y1 y2 k1 k2 hyy b1 b2 a1 a2 he;obtain⟨e1,l1⟩:=zVW hW k1.col;obtain⟨e2,l2⟩:=zVW hW k2.col;have m1:=Col.lt h6 k1.col;have m2:=Col.lt h6 k2.col;rw[zP5 hq hTT _ (fun p hp=>by
   rcases J9.1 hp with rfl|hp
   ·exact⟨b1,a1⟩
   ·exact⟨m1 p hp,l1 p hp⟩),zP5 hq hTT _ (fun p hp=>by
   rcases J9.1 hp with rfl|hp
   ·exact⟨b2,a2⟩
   ·exact⟨m2 p hp,l2 p hp⟩)]
  refine zX fun _ _=>?_
  subst hyy
  congr 1
  simp only[tsm];omega
 have ho:∀i,i<x.zA.length->1<=yD x i:=fun i hi=>by have:=(h.os.2 i hi).pos;show 1<=(at0 x.zA i).toNat;omega
 have fw:∀i j,i<j->j<x.zA.length->base x.zA.length i+(j-(i+1))<base x.zA.length x.zA.length:=fun i j hi hj=>by have:=zAb x.zA.length (by omega) i (by omega);omega
 have hm1:∀o:Nat,1<=o-> ∀c:Int,((o-1:Nat):Int)*c=o*c-c:=fun o ho c=>by rw[Int.natCast_sub ho,Int.sub_mul];omega
 refine⟨?_,?_,?_,?_⟩
 ·rintro k j h1 h2 t1 t2 ⟨⟨u1,y1,rfl,k1⟩,⟨u2,y2,rfl,k2⟩⟩
  refine key k1 k2 (zV0 h dI dE (by omega) (tO c0 _) (pe k (by omega)) (by omega) h2 k1 k2).1 (by omega) (fw k j h1 h2) (by simp;omega) (by simp) ?_;rw[hW.p j h2,hW.c k j h1 h2,zBJ,zBJ,zI4,wt,wt,wt,hm1 _ (ho j h2)];omega
 ·rintro k i j h1 gJ h2 t1 t2 ⟨⟨u1,y1,rfl,k1⟩,⟨u2,y2,rfl,k2⟩⟩
  refine key k1 k2 (zV1 h dI dE (by omega) (tO c0 _) (pe k (by omega)) (by omega) gJ h2 k1 k2).1 (fw i j gJ h2) (fw k i h1 (by omega)) (by simp;omega) (by simp) ?_;rw[hW.c i j gJ h2,hW.c k i h1 (by omega),wt,zBJ,wt,wt,wt,wt];omega
 ·rintro k hk t1 t2 ⟨⟨u1,y1,rfl,k1⟩,⟨u2,y2,rfl,k2⟩⟩
  refine key k1 k2 (zVz h dI dE hk (tO c0 _) (pe k hk) k1 k2).1 (by omega) (by omega) (by simp;omega) (by simp) ?_;rw[zBJ,wt,wt,wt];omega
 ·rintro k j h1 h2 t1 t2 ⟨⟨u1,y1,rfl,k1⟩,⟨u2,y2,rfl,k2⟩⟩
  refine key k1 k2 (zV3 h dI dE (by omega) (tO c0 _) (pe k (by omega)) (by omega) h2 k1 k2).1 (fw k j h1 h2) (by omega) (fun a ha=>by rw[H2 ha];omega) (by simp) ?_;rw[hW.c k j h1 h2,hW.p k (by omega),wt,zBJ,zI4,wt,hm1 _ (ho k (by omega))];omega
end
section
variable {x:SPr} (hc:uX x) (hp:zLp x)
 include hc hp
theorem zP8(hC:zIY x=jh C):∀i,i<C.length->xC (suf (exx 1 x (xP (at0 x.zA 0) 1 x.zA.length) (Tc (base x.zA.length x.zA.length) 1 (C.getD i []))) 0):=by
 have hx:=hc.2.2;have h6:=hx.n6;have hq:=hc.1.os.2 0 hp.1;have hD:MOk x.zA.length (xP (at0 x.zA 0) 1 x.zA.length) 1:=zFb hq;have hr:=zCB (D:=1) hc.1 hq;have hb:=xY x.zA.length (by omega);have hB:=H0 (base x.zA.length x.zA.length);obtain⟨R,pv,r1,r2,r3,r4⟩:=zJP hx hD;obtain⟨R',pv',r1',_,s1,_⟩:=zVq hx hD;rw[r1]at r1';cases r1';obtain⟨K,pk,k1,k2,k3⟩:=zAD hx hD hp.1 hc.2.1 hr;have hK:=k2.len_le;have hl:(gl K.length fun i=>cl (xP (at0 x.zA 0) 1 x.zA.length).Prime (base x.zA.length x.zA.length*1) R pv (K.getD i []) R.length).length=K.length:=wN;obtain⟨C',pc,c1,c2,c3,c4⟩:=sL hD.p (n:=base x.zA.length x.zA.length*1) (rows:=gl K.length fun i=>cl (xP (at0 x.zA 0) 1 x.zA.length).Prime (base x.zA.length x.zA.length*1) R pv (K.getD i []) R.length) (by omega) (by omega) (fun i hi=>by rw[hl]at hi;rw[xJ hi];exact(r4 _ (k2.row i hi)).1)
 have e:zIY x=jh C':=by
  unfold zIY zZw;rw[show(0:Int)=((0:Nat):Int)from rfl,yJ hp.1,bs,show(1:Int)=((1:Nat):Int)from rfl,zJQ hq h6,bs,bs];unfold zXy;rw[r1,bs,k1,bs,wH (body:=zGr (xP (at0 x.zA 0) 1 x.zA.length) R K) K.length (fun i=>cl (xP (at0 x.zA 0) 1 x.zA.length).Prime (base x.zA.length x.zA.length*1) R pv (K.getD i []) R.length) (fun i acc hi ha=>by
   unfold zGr;simp only
   rw[yS hi,zH,yA [] hi,bs,(r4 _ (k2.row i hi)).2.1,bs,zV (by simp only[J7,Jt];omega),bs,zB,bs];rfl) (fun acc=>by
   unfold zGr;simp),bs,c1,bs,bs]
 rw[e]at hC;cases hC;have hR:∀i,i<R.length->Sp (at0 x.zA 0) (base x.zA.length x.zA.length*1) K (R.getD i []):=fun i hi=>by
  refine sK (fun k hk=>?_) ((s1 _).1 (uP hi));have bp:k<x.zA.length:=by have:(zC6 x (xP (at0 x.zA 0) 1 x.zA.length) 1).length=x.zA.length*1:=wN;omega
  have gG:=zSt hx hD (i:=k) (by omega);obtain⟨g,t,g1,g2⟩:=yCh hx hq bp;refine(k3 _ gG).2 (zYO hx hq hc.2.1 hp.1 g1 ?_ g2);rw[hB]at gG;exact gG
 intro i hi;refine(k3 _ (c3.row i hi)).1 (sK (fun k hk=>?_) (c4.iff.1 (uP hi)));rw[hl]at hk;rw[xJ hk];obtain⟨cf,c8⟩:=zRa hD.p (by omega) r2 (k2.row k hk) R.length (Jd _);refine jJ (k:=1) (v:=K.getD k []) (w:=mkv (base x.zA.length x.zA.length*1) fun j=>S R.length fun k=>cf k*ent R k j) (uP hk) (sK hR ⟨cf,fun j hj=>by rw[zW hj]⟩) fun j hj=>?_
 rw[zW hj,Gu];exact c8 j hj
theorem zRA{D:Nat}(dK:D<=8):Mv D x.zA.length (xP (at0 x.zA 0) D x.zA.length) (xP (at0 x.zA 0) D x.zA.length):=by
 have hq:=hc.1.os.2 0 hp.1;have hE:=zIu (n:=x.zA.length) (D:=D) hq;refine⟨rfl,fun k hk u hu=>?_⟩;have hA:=hE.mat k hk;have gT:=hu.1;have hl:=hE.len;unfold zXg;rw[yP]
 by_cases hD:D=0
 ·subst hD
  unfold zD5;simp only
  rw[jl (by omega),zJ];rfl
 have e1:zD5 (xP (at0 x.zA 0) D x.zA.length) u (k:Int) ([],0)=jh (.inl (xK (xP (at0 x.zA 0) D x.zA.length).Prime D u ((xP (at0 x.zA 0) D x.zA.length).zM.getD k []),(D:Int))):=by
  unfold zD5;simp only
  rw[jm,zH,hE.d,zB,bs,Kq];have cx:zS u 0 (D:Int)=jh u:=by
   unfold zS;rw[if_pos (by omega)]
   congr 1
   rw[show((D:Int)).toNat=D from by omega,show(0:Int).toNat=0 from rfl,Ui,Jx (by omega)]
  rw[cx,bs,yA [],bs,zDU hE.p (by omega) hu hA,bs,zV (by grind[xK,zU]),bs,bs,K0]
 have e2:zD5 (xP (at0 x.zA 0) D x.zA.length) u (k:Int) (xK (xP (at0 x.zA 0) D x.zA.length).Prime D u ((xP (at0 x.zA 0) D x.zA.length).zM.getD k []),(D:Int))=jh (.inr (xK (xP (at0 x.zA 0) D x.zA.length).Prime D u ((xP (at0 x.zA 0) D x.zA.length).zM.getD k []))):=by
  unfold zD5;simp only
  rw[jl (by omega),zJ]
 rw[e1];simp only
 rw[yP,e2];rfl
theorem zVX(hR:Red (at0 x.zA 0) (base x.zA.length x.zA.length) C pc)(dK:C.length<=30):
  ExB x.zA.length C.length x (xP (at0 x.zA 0) C.length x.zA.length) (kL (base x.zA.length x.zA.length) C)/\ ∀i,i<(kL (base x.zA.length x.zA.length) C).length->Row (at0 x.zA 0) C.length ((kL (base x.zA.length x.zA.length) C).getD i []):=by
 have hx:=hc.2.2;have hq:=hc.1.os.2 0 hp.1;have hD:MOk x.zA.length (xP (at0 x.zA 0) 1 x.zA.length) 1:=zFb hq;have hE:=zIu (n:=x.zA.length) hq dK;refine⟨zPo hx hD ⟨hE.p,by omega,hE.len,hE.mat⟩ zCC,fun i hi=>?_⟩;rw[zCC]at hi;rw[kL,xJ hi];exact⟨zU _ _,fun j hj=>by rw[zW hj];exact(hR.row j hj).2 i hi⟩
theorem zP9(hC:zIY x=jh C)(hR:Red (at0 x.zA 0) (base x.zA.length x.zA.length) C pc)(dK:C.length<=8):
  xC (suf (exx C.length x (xP (at0 x.zA 0) C.length x.zA.length) (kL (base x.zA.length x.zA.length) C)) 0):=by
 have hx:=hc.2.2;have hq:=hc.1.os.2 0 hp.1;have hD:MOk x.zA.length (xP (at0 x.zA 0) 1 x.zA.length) 1:=zFb hq;obtain⟨hE,hT⟩:=zVX hc hp hR (by omega);have hM:=zRA hc hp dK;obtain⟨L,l1,l2,l3,l4⟩:=zIn (φ:=id) hc.1 hE hT hE hT ⟨rfl,fun _ h=>h,rfl,fun _ _ _ _=>rfl,fun _ _ _ _=>rfl,fun _ _=>rfl⟩ hM hc.2.1 (zCB hc.1 hq);refine l4.1 fun r hr=>?_
 have gG:=l3 r hr;show r=_;rw[show zeros C.length=mkv C.length fun _=>0 from uD _];refine(vF gG.1).trans (zX fun j hj=>?_);have hy:=hR.row j hj;obtain⟨gN,gR⟩:=zNm hx hD (y:=C.getD j []) (by rw[H0];exact hy);obtain⟨L',m1,_,_,m4⟩:=zIn (φ:=fun u=>mkv 1 fun _=>at0 u j) hc.1 hE hT gN gR ⟨rfl,fun u hu=>yE8 hq hj hu,by
  show(mkv 1 fun _=>at0 (zeros C.length) j)=_;rw[wJ];rfl,fun u v hu hv=>zX fun i hi=>by
  obtain rfl:i=0:=by omega
  rw[adv,zW hj,zW,zW],fun k hk u hu=>by
  have fq:Row (at0 x.zA 0) C.length u:=hu;rw[qQ hk,qQ hk];show(mkv 1 fun _=>at0 (xK (at0 x.zA 0) C.length u (idM C.length)) j)=xK (at0 x.zA 0) 1 (mkv 1 fun _=>at0 u j) (idM 1);rw[zGQ fq,zGQ (yE8 hq hj fq)],fun r hr=>by
  rw[kL,xJ hr,Tc,xJ hr];refine zX fun i hi=>?_
  obtain rfl:i=0:=by omega
  rw[zW hj,H0,U1]⟩ hM hc.2.1 (zCB hc.1 hq)
 rw[l1]at m1;cases m1;have e:at0 (mkv 1 fun _=>at0 r j) 0=at0 (zeros 1) 0:=congrArg (fun v=>at0 v 0) (m4.2 (zP8 hc hp hC j hj) r hr);rw[zW,wJ]at e;exact e
end
structure zN2 (x:SPr) (C:Mx) (q:Nat):Prop where
 c:uX x
 p:zLp x
 q:at0 x.zA 0=q
 d:C.length<=8
 r:∀i,i<C.length->Row (at0 x.zA 0) (base x.zA.length x.zA.length) (C.getD i [])
 e:ExB x.zA.length C.length x (xP (at0 x.zA 0) C.length x.zA.length) (kL (base x.zA.length x.zA.length) C)
 t:∀i,i<(kL (base x.zA.length x.zA.length) C).length->Row (at0 x.zA 0) C.length ((kL (base x.zA.length x.zA.length) C).getD i [])
 cc:xC (suf (exx C.length x (xP (at0 x.zA 0) C.length x.zA.length) (kL (base x.zA.length x.zA.length) C)) 0)
abbrev cvX(x:SPr)(C:Mx):SPr:=exx C.length x (xP (at0 x.zA 0) C.length x.zA.length) (kL (base x.zA.length x.zA.length) C)
section
variable {x:SPr}{C:Mx}{q:Nat} (h:zN2 x C q)
 include h
theorem yFT:q=2\/q=3\/q=5\/q=7:=by have:=h.c.1.os.2 0 h.p.1;rw[h.q]at this;rcases this with h|h|h|h<;>omega
theorem zEg:(cvX x C).zA.length=x.zA.length+C.length:=xW h.c.1 h.e h.t
theorem zPA:Pres (cvX x C):=(zEK h.c.1 h.e h.t).p (by rw[zEg h];have:=h.c.2.2.n6;have:=h.d;omega)
theorem zFh:Pres (cvX x C)/\xC (suf (cvX x C) 0):=⟨zPA h,h.cc⟩
theorem zGp:Pres x/\xC (suf x 0):=⟨h.c.1,h.c.2.1⟩
theorem zPB(v:Vec):V (suf (cvX x C) 0) v↔ ∃y u,v=y++u/\V (suf x 0) y/\Row (at0 x.zA 0) C.length u:=tM h.c.1 h.e h.t x.zA.length 0 (by omega) v
theorem zYP{d:Nat}(hd:d<x.zA.length):at0 x.zA d=q:=by rw[h.p.2 d hd,h.q]
abbrev EX(h:zN2 x C q):Type:=EA (cvX x C) (zFh h)
abbrev EG(h:zN2 x C q):Type:=EA x (zGp h)
theorem zAF{v:Vec}(hv:V (suf x 0) v):v.length=x.zA.length:=zBt h.c.1 h.c.2.1 hv
 omit h in
def pj(h:zN2 x C q)(a:EX h):EG h:=mkE (zGp h) (a.1.take x.zA.length) (by
  obtain⟨y,u,e,hy,_⟩:=(zPB h a.1).1 a.2;rw[e,Js (zAF h hy)];exact hy)
 omit h in
def up(h:zN2 x C q)(b:EG h):EX h:=mkE (zFh h) (b.1++zeros C.length) ((zPB h _).2 ⟨b.1,_,rfl,b.2,yX (by have:=(h.c.1.os.2 0 h.p.1).pos;omega)⟩)
theorem zPC(a b:EX h):pj h (a*b)=pj h a*pj h b:=Subtype.ext (zGL h.c.1 h.e h.t x.zA.length 0 (by omega) a.1 b.1 a.2 b.2)
theorem zRB(b:EG h):pj h (up h b)=b:=Subtype.ext (Js (zAF h b.2))
theorem zVY{a:EX h}(ha:pj h a=1):∃u,Row (at0 x.zA 0) C.length u/\a.1=zeros x.zA.length++u:=by obtain⟨y,u,e,hy,hu⟩:=(zPB h a.1).1 a.2;have:=congrArg (·.1) ha;have e2:a.1.take x.zA.length=zeros (suf x 0).length:=this;rw[e,Js (zAF h hy)]at e2;refine⟨u,hu,?_⟩;rw[e,e2,yB];rfl
theorem yFU(y:Vec):aM (xP (at0 x.zA 0) C.length x.zA.length) C.length 0 y=idM C.length:=by
 have hi:=tL (D:=C.length) (h.c.1.os.2 0 h.p.1).pos.1;refine qE (S:=(· =idM C.length)) (fun{a b} ha hb=>?_) _ _ (fun c hc=>?_) rfl
 ·rw[ha,hb];exact zCV hi
 ·rw[Ui,xP]at hc
  obtain⟨_,_,rfl⟩:=Je.1 hc;rfl
theorem zRC{y u r:Vec}(hy:V (suf x 0) y)(hu:Row (at0 x.zA 0) C.length u)(hr:Row (at0 x.zA 0) C.length r):mul (suf (cvX x C) 0) (y++u) (zeros x.zA.length++r)=y++adv (at0 x.zA 0) C.length u r:=zD1 h.c.1 h.e h.t x.zA.length 0 (by omega) y u r hy hu hr
theorem z0V:V (suf x 0) (zeros x.zA.length):=by
 have:=(g0 h.c.1 h.c.2.1).ein
 rwa [yB]at this
theorem yFV(z:EX h)(hz:pj h z=1)(a:EX h):z*a=a*z:=by obtain⟨u,hu,e⟩:=zVY h hz;obtain⟨y,v,e2,hy,hv⟩:=(zPB h a.1).1 a.2;refine Subtype.ext ?_;show mul _ z.1 a.1=mul _ a.1 z.1;have:=zNa h.c.1 h.e h.t x.zA.length 0 (by omega) u y v hu hy hv;rw[yFU h,show(xP (at0 x.zA 0) C.length x.zA.length).Prime=at0 x.zA 0 from rfl,zGQ hu]at this;rw[e,e2,zRC h hy hv hu,uU];exact this
theorem yCi{z:EX h}{u:Vec}(hu:Row (at0 x.zA 0) C.length u)(e:z.1=zeros x.zA.length++u):∀k,(pg z k).1=zeros x.zA.length++iter k (fun w=>adv (at0 x.zA 0) C.length w u) (zeros C.length)/\Row (at0 x.zA 0) C.length (iter k (fun w=>adv (at0 x.zA 0) C.length w u) (zeros C.length))
 |0=>by have hp:=(h.c.1.os.2 0 h.p.1).pos;refine⟨?_,yX⟩;show zeros (suf (cvX x C) 0).length=_;rw[yB,zEg h];simp[zeros,iter]
 |k+1=>by
  have hp:=(h.c.1.os.2 0 h.p.1).pos;obtain⟨h1,h2⟩:=yCi hu e k;rw[xQ];refine⟨?_,zU _ _,fun j hj=>?_⟩
  ·show mul _ (pg z k).1 z.1=_
   rw[h1,e,zRC h (z0V h) h2 hu]
  ·rw[adv,zW hj]
   exact⟨Kk _ (by omega),by have:=Kg (at0 (iter k (fun w=>adv (at0 x.zA 0) C.length w u) (zeros C.length)) j+at0 u j) (show 0<at0 x.zA 0 by omega);omega⟩
theorem yFW(z:EX h)(hz:pj h z=1):pg z q=1:=by
 obtain⟨u,hu,e⟩:=zVY h hz;have hp:=(h.c.1.os.2 0 h.p.1).pos;have:=(yCi h hu e q).1;have hq:q=(at0 x.zA 0).toNat:=by rw[h.q];omega
 have e2:iter q (fun w=>adv (at0 x.zA 0) C.length w u) (zeros C.length)=zeros C.length:=by rw[hq];exact zPg (p:=at0 x.zA 0) (D:=C.length)
 rw[e2]at this;refine Subtype.ext (this.trans ?_);show _=zeros (suf (cvX x C) 0).length;rw[yB,zEg h];simp[zeros]
theorem yCj{t:Mx}(ht:zCF (zGp h) q k t)(hk:∀b:EG h,Qm q (k+1) b->b=1)(a:EX h):Qm q (k+1) a↔Ge (RwC (up h) q (fun b=>b.1∈t) (fun b=>b.1∈gns x)) a:=
 cov (zPC h) (zRB h) (yFV h) (yFW h) zP4 hk ht.v.2.2 a
theorem zSB:∃k s S,zQg x q=jh s/\zOg x q=jh s/\s.length=k+2/\k<=20/\zCF (zGp h) q k (s.getD k [])/\(∀b:EG h,Qm q (k+1) b->b=1)/\
  zOg (cvX x C) q=jh S/\k+1<S.length/\zCF (zFh h) q (k+1) (S.getD (k+1) []):=by
 have hq:=yFT h;obtain⟨s,s1,s2,s3,s4,s5,s6,s7⟩:=zI3 (zGp h) (q:=q);obtain⟨S,t1,t2,t3,t4,t5,t6,t7⟩:=zI3 (zFh h) (q:=q);have hl:=zVV hq (fun d hd=>zYP h hd) s7;have pA:2<=s.length:=by
  refine Classical.byContradiction fun hn=>?_
  have e:s.length-1=0:=by omega
  rw[e]at hl;obtain⟨_,_,u3,_,u5,_⟩:=(zDf h.c.1 h.c.2.1).i (k:=0) (t:=vA x.zA.length 0) (by rw[gtb,if_pos h.p.1]);have:=congrArg (·.1) (hl (mkE (zGp h) _ u3) trivial);have e3:vA x.zA.length 0=zeros (suf x 0).length:=this;rw[e3,wJ]at u5;omega
 obtain⟨k,hk⟩:∃k,s.length=k+2:=⟨s.length-2,by omega⟩;rw[show s.length-1=k+1 by omega]at hl;have hS:k+1<S.length:=by
  refine Classical.byContradiction fun hn=>?_
  obtain⟨b,b1,b2⟩:=s6 (S.length-1) (by omega);obtain⟨a,a1,rfl⟩:=Qm.back (zPC h) (zRB h) q (S.length-1) b1;exact b2 (Qm.to (zPC h) q _ (t7 a a1))
 exact⟨k,s,S,s1,s2,hk,by omega,s5 k (by omega),hl,t2,hS,t5 _ hS⟩
end
section
variable {x:SPr}{C:Mx}{q:Nat}
noncomputable def pwr (x:SPr) (C:Mx) (q:Nat) (a:Vec):Vec:=(pw (mul (suf (cvX x C) 0)) (zeros (suf (cvX x C) 0).length) (a++zeros C.length) q).drop x.zA.length
noncomputable def gpr (x:SPr) (C:Mx) (a:Vec) (i:Nat):Vec:=uO (at0 x.zA 0) C.length ((mul (suf (cvX x C) 0) (a++zeros C.length) (vA x.zA.length i++zeros C.length)).drop x.zA.length) (-1) ((mul (suf (cvX x C) 0) (vA x.zA.length i++zeros C.length) (a++zeros C.length)).drop x.zA.length)
noncomputable def rw1 (x:SPr) (C:Mx) (q:Nat) (a:Vec):Mx:=pwr x C q a::(Jf x.zA.length).map (gpr x C a)
noncomputable def nrw (x:SPr) (C:Mx) (q:Nat) (t:Mx):Mx:=t.flatMap (rw1 x C q)
variable (h:zN2 x C q)
 include h
theorem zI5(ha:V (suf x 0) a):V (suf (cvX x C) 0) (a++zeros C.length):=(up h (mkE _ a ha)).2
theorem zPD(hi:i<x.zA.length):V (suf x 0) (vA x.zA.length i):=zD3 h.c.1 _ (Je.2 ⟨i,Lj.2 hi,rfl⟩)
theorem zI6{v:Vec}(hv:V (suf (cvX x C) 0) v):Row (at0 x.zA 0) C.length (v.drop x.zA.length):=by obtain⟨y,u,rfl,hy,hu⟩:=(zPB h v).1 hv;rw[K1 (zAF h hy)];exact hu
theorem zYQ(ha:V (suf x 0) a):Row (at0 x.zA 0) C.length (pwr x C q a):=zI6 h (wT (g0 (zPA h) h.cc).toMon (zI5 h ha) q)
theorem zYR:Row (at0 x.zA 0) C.length (gpr x C a i):=qV (h.c.1.os.2 0 h.p.1)
theorem zN3(w:Vec):prE x 0 w=⟨w.take x.zA.length,w.drop x.zA.length⟩:=by have _:=h;rw[prE,fv0];rfl
theorem zVZ(ha:V (suf x 0) a):(⟨a,zeros C.length⟩:zC)=prE x 0 (a++zeros C.length):=by rw[zN3 h,Js (zAF h ha),K1 (zAF h ha)]
theorem zWa{b:Vec}(ha:V (suf (cvX x C) 0) a)(hb:V (suf (cvX x C) 0) b):f_b ⟨x,xP (at0 x.zA 0) C.length x.zA.length,kL (base x.zA.length x.zA.length) C⟩ 0 (prE x 0 a) (prE x 0 b)=jh (prE x 0 (mul (suf (cvX x C) 0) a b)):=
 zEP h.c.1 h.e h.t (zRA h.c h.p (by have:=h.d;omega)) (k:=0) (by omega) a b ha hb
theorem zYS{b:Vec}(ha:V (suf (cvX x C) 0) a)(hb:V (suf (cvX x C) 0) b):zI8 ⟨x,xP (at0 x.zA 0) C.length x.zA.length,kL (base x.zA.length x.zA.length) C⟩ (prE x 0 a) (prE x 0 b)=jh (uO (at0 x.zA 0) C.length (a.drop x.zA.length) (-1) (b.drop x.zA.length)):=by
 have hq:=h.c.1.os.2 0 h.p.1;have h7:=hq.pos;unfold zI8;rw[zN3 h,zN3 h];simp only
 rw[show(xP (at0 x.zA 0) C.length x.zA.length).Prime=at0 x.zA 0 from rfl,zB,bs,uS hq (zI6 h ha) (zI6 h hb) (by omega) (by have:=h.d;omega),bs,zB5]
theorem zWb{s:List Mx}(hs:zQg x q=jh s)(hk:s.length=k+2)(fa:k<=20)(hV:∀a∈s.getD k [],V (suf x 0) a)(hl:(s.getD k []).length<=6):
  f_A x C=f_q (at0 x.zA 0) (nrw x C q (s.getD k [])):=by
 have hq:=h.c.1.os.2 0 h.p.1;have h7:=hq.pos;have h6:=h.c.2.2.n6;have hd:=h.d;have hb:=xY x.zA.length (by omega);have G:=g0 (zPA h) h.cc;have pE:(at0 x.zA 0)=(q:Int):=h.q;have eP:0<(kL (base x.zA.length x.zA.length) C).length:=by rw[zCC];have:=h.p.1;omega
 have hz:zI7 ⟨x,xP (at0 x.zA 0) C.length x.zA.length,kL (base x.zA.length x.zA.length) C⟩=jh ⟨zeros x.zA.length,zeros C.length⟩:=by unfold zI7;rw[jm (by show((kL _ C).length:Int)> 0;omega),zH,show(0:Int)=((0:Nat):Int)from rfl,yA [] eP,bs,yH (by show x.zA.length<=_;omega),bs,yH (by rw[(h.t 0 eP).1];omega),bs,(h.t 0 eP).1];rfl
 have pwV:∀{a:Vec},V (suf x 0) a-> ∀j,V (suf (cvX x C) 0) (pw (mul (suf (cvX x C) 0)) (zeros (suf (cvX x C) 0).length) (a++zeros C.length) j):=fun ha j=>wT G.toMon (zI5 h ha) j
 have cz:∀a,(rw1 x C q a).length=x.zA.length+1:=fun a=>by simp[rw1]
 have bx:∀l:Mx,(l.flatMap (rw1 x C q)).length=l.length*(x.zA.length+1):=fun l=>by
  induction l with
  |nil=>simp
  |cons a l ih=>rw[Kr,J5,ih,cz,J7,K9];omega
 have iO:∀j,j<=(s.getD k []).length->(((s.getD k []).take j).flatMap (rw1 x C q)).length<=6*7:=fun j hj=>by rw[bx];exact Jq (by rw[Kb];omega) (by omega)
 have main:=zN (body:=zXF x (at0 x.zA 0) (s.getD k []) (xP (at0 x.zA 0) C.length x.zA.length) (kL (base x.zA.length x.zA.length) C) ⟨zeros x.zA.length,zeros C.length⟩) (r:=nrw x C q (s.getD k [])) (fun j=>(((s.getD k []).take j).flatMap (rw1 x C q),(j:Int))) (s.getD k []).length (fun j hj=>by
  have hm:(s.getD k [])[j]∈s.getD k []:=Jo hj;have ha:=hV _ hm;have e0:(s.getD k []).getD j []=(s.getD k [])[j]:=by rw[J2,J3 hj];rfl
  have hjl:=iO j (by omega);have l1:=zN (body:=zXD x (at0 x.zA 0) (xP (at0 x.zA 0) C.length x.zA.length) (kL (base x.zA.length x.zA.length) C) ⟨zeros x.zA.length,zeros C.length⟩ (s.getD k [])[j])
   (r:=((pw (mul (suf (cvX x C) 0)) (zeros (suf (cvX x C) 0).length) ((s.getD k [])[j]++zeros C.length) q).take x.zA.length,pwr x C q (s.getD k [])[j]))
   (fun i=>((pw (mul (suf (cvX x C) 0)) (zeros (suf (cvX x C) 0).length) ((s.getD k [])[j]++zeros C.length) i).take x.zA.length,(pw (mul (suf (cvX x C) 0)) (zeros (suf (cvX x C) 0).length) ((s.getD k [])[j]++zeros C.length) i).drop x.zA.length,(i:Int))) q (fun i hi=>by
    unfold zXD;simp only
    rw[jm,zH,<-zN3 h,zVZ h ha,zWa h (pwV ha i) (zI5 h ha),bs,zB,bs,zN3 h];simp only
    rw[show pw (mul (suf (cvX x C) 0)) (zeros (suf (cvX x C) 0).length) ((s.getD k [])[j]++zeros C.length) (i+1)=mul (suf (cvX x C) 0) (pw (mul (suf (cvX x C) 0)) (zeros (suf (cvX x C) 0).length) ((s.getD k [])[j]++zeros C.length) i) ((s.getD k [])[j]++zeros C.length)from by rw[Pc.pw,xQ];rfl];rfl) (by
    unfold zXD;simp only
    rw[jl (by omega),zJ];rfl)
  have ez:zeros (suf (cvX x C) 0).length=zeros x.zA.length++zeros C.length:=by rw[yB,zEg h];simp[zeros]
  rw[show pw (mul (suf (cvX x C) 0)) (zeros (suf (cvX x C) 0).length) ((s.getD k [])[j]++zeros C.length) 0=zeros x.zA.length++zeros C.length from ez,Js (zT _),K1 (zT _),show((0:Nat):Int)=0 from rfl]at l1;have l2:=zN (body:=zXE x (xP (at0 x.zA 0) C.length x.zA.length) (kL (base x.zA.length x.zA.length) C) ⟨zeros x.zA.length,zeros C.length⟩ (s.getD k [])[j])
   (r:=((s.getD k []).take (j+1)).flatMap (rw1 x C q))
   (fun i=>(((s.getD k []).take j).flatMap (rw1 x C q)++pwr x C q (s.getD k [])[j]::(Jf i).map (gpr x C (s.getD k [])[j]),(i:Int))) x.zA.length (fun i hi=>by
    have hu:=zPD h hi;unfold zXE;simp only
    rw[yS hi,zH,yE9 hi,bs,zVZ h ha,zVZ h hu,zWa h (zI5 h ha) (zI5 h hu),bs,zWa h (zI5 h hu) (zI5 h ha),bs,zYS h ((ok0 (zPA h) h.cc|> fun o=>yO o (zI5 h ha) (zI5 h hu))) ((ok0 (zPA h) h.cc|> fun o=>yO o (zI5 h hu) (zI5 h ha))),bs,zV (by simp only[J5,J7,Jg,Lh,Jt];omega),bs,zB,bs,Jc,K6,Kt,K7];rfl) (by
    unfold zXE;simp only
    rw[tS,zJ,Jy hj,U8,Kr,qf9,Jh];rfl)
  rw[Q6,Ld,show((0:Nat):Int)=0 from rfl]at l2;unfold zXF;simp only
  rw[yS hj,zH,yA [] hj,bs,e0,l1,bs];simp only
  rw[zV (by simp only[J7,Jt];omega),bs,l2,bs,zB,bs];rfl) (by
  unfold zXF;simp only
  rw[tS,zJ,L8];rfl)
 rw[Ka,qf9,show((0:Nat):Int)=0 from rfl]at main;have gF:zQg x (at0 x.zA 0)=jh s:=by rw[pE];exact hs
 have hT:f_U x C=jh (kL (base x.zA.length x.zA.length) C):=by have gG:∀i,i<C.length->Row (at0 x.zA 0) (base x.zA.length x.zA.length) (C.getD i []):=h.r;exact zS3 gG (by omega) h6 rfl
 unfold f_A;rw[show(0:Int)=((0:Nat):Int)from rfl,yJ h.p.1,bs,gF,bs,show((s.length:Int)-2)=(k:Int)from by omega,zB,bs,yA [],bs,zPu h6,bs,hT,bs,hz,bs,show((0:Nat):Int)=0 from rfl,main,bs];cases f_q (at0 x.zA 0) (nrw x C q (s.getD k []))<;>rfl
end
theorem yA6{C:Nat->Option Vec}:∀l:List Nat,l.filterMap C=(l.filter fun j=>(C j).isSome).map fun j=>(C j).getD []
 | []=>rfl
 |a::l=>by
  rw[Hl,List.filter_cons,yA6 l];cases hc:C a with
  |none=>rfl
  |some v=>simp[hc]
theorem zPE{n:Nat}{v:Vec}:(j<n->at0 (zeros n++v) j=0)/\at0 (zeros n++v) (n+j)=at0 v j:=by
 refine⟨fun hj=>?_,?_⟩
 ·rw[zDa,zT,if_pos hj,wJ]
 ·rw[zDa,zT,if_neg (by omega),H4]
section
variable {x:SPr}{C:Mx}{q:Nat} (h:zN2 x C q)
 include h
theorem zN4{v:Vec}(hv:Row (at0 x.zA 0) C.length v):V (suf (cvX x C) 0) (zeros x.zA.length++v):=(zPB h _).2 ⟨_,v,rfl,z0V h,hv⟩
theorem yCk{a b:EX h}{u v:Vec}(hu:Row (at0 x.zA 0) C.length u)(hv:Row (at0 x.zA 0) C.length v)(ea:a.1=zeros x.zA.length++u)(eb:b.1=zeros x.zA.length++v):(a*b).1=zeros x.zA.length++adv (at0 x.zA 0) C.length u v:=by show mul _ a.1 b.1=_;rw[ea,eb,zRC h (z0V h) hu hv]
theorem yCl:(1:EX h).1=zeros x.zA.length++zeros C.length:=by show zeros (suf (cvX x C) 0).length=_;rw[yB,zEg h];simp[zeros]
theorem zWc{u v:Vec}:Row (at0 x.zA 0) C.length (adv (at0 x.zA 0) C.length u v):=by have hp:=(h.c.1.os.2 0 h.p.1).pos;refine⟨zU _ _,fun j hj=>?_⟩;rw[adv,zW hj];exact⟨Kk _ (by omega),by have:=Kg (at0 u j+at0 v j) (show 0<at0 x.zA 0 by omega);omega⟩
theorem yA7(R:Mx):Sg fun a:EX h=> ∃v,Row (at0 x.zA 0) C.length v/\a.1=zeros x.zA.length++v/\Sp (at0 x.zA 0) C.length R v:=by
 have hp:=(h.c.1.os.2 0 h.p.1).pos;refine⟨⟨zeros C.length,yX,yCl h,zA7 fun j _=>by rw[wJ];rfl⟩,?_,?_⟩
 ·rintro a b ⟨u,u1,u2,u3⟩ ⟨v,v1,v2,v3⟩
  exact⟨_,zWc h,yCk h u1 v1 u2 v2,jJ (k:=1) u3 v3 fun j hj=>by rw[adv,zW hj,K4,Gu]⟩
 ·rintro a ⟨u,u1,u2,u3⟩
  have hk:pj h a=1:=Subtype.ext (by show a.1.take x.zA.length=zeros (suf x 0).length;rw[u2,Js (zT _),yB];rfl)
  obtain⟨v,v1,v2⟩:=zVY h (a:=a⁻¹) (by rw[h_i (zPC h),hk,i1]);refine⟨v,v1,v2,jJ (k:=-1) (v:=zeros C.length) (zA7 fun j _=>by rw[wJ];rfl) u3 fun j hj=>?_⟩;have e:=congrArg (·.1) (ir a);have e2:(a*a⁻¹).1=(1:EX h).1:=e;rw[yCk h u1 v1 u2 v2,yCl h]at e2;have e3:at0 (adv (at0 x.zA 0) C.length u v) j=at0 (zeros C.length) j:=congrArg (fun w=>at0 w j) (Qx e2);rw[adv,zW hj,wJ]at e3;rw[wJ,show(0:Int)+ -1*at0 u j=at0 v j-(at0 u j+at0 v j)by omega,Qi,e3,Int.sub_zero,K4]
theorem yEH{R:Mx}(hR:∀i,i<R.length->Row (at0 x.zA 0) C.length (R.getD i [])){K:EX h->Prop}(hK:Sg K)(hr:∀i(hi:i<R.length),K (mkE (zFh h) _ (zN4 h (hR i hi)))){v:Vec}(hv:Row (at0 x.zA 0) C.length v)(hs:Sp (at0 x.zA 0) C.length R v):K (mkE (zFh h) _ (zN4 h hv)):=by
 have hp:=(h.c.1.os.2 0 h.p.1).pos;obtain⟨c,hc⟩:=hs;have key:∀m,m<=R.length-> ∃a:EX h,K a/\a.1=zeros x.zA.length++mkv C.length fun j=>(S m fun i=>c i*ent R i j)%at0 x.zA 0:=by
  intro m
  induction m with
  |zero=>
   intro _;refine⟨1,hK.o,?_⟩;rw[yCl h,show zeros C.length=mkv C.length fun _=>0 from uD _];rfl
  |succ m ih=>
   intro hm;obtain⟨a,a1,a2⟩:=ih (by omega);have gG:=hR m (by omega);have hk:=yCi h (z:=mkE (zFh h) _ (zN4 h gG)) gG rfl (c m%at0 x.zA 0).toNat;refine⟨a*pg (mkE (zFh h) _ (zN4 h gG)) (c m%at0 x.zA 0).toNat,hK.m a1 (hK.pg (hr m (by omega)) _),?_⟩;rw[yCk h ⟨zU _ _,fun j hj=>by rw[zW hj];exact⟨Kk _ (by omega),by have:=Kg (S m fun i=>c i*ent R i j) (show 0<at0 x.zA 0 by omega);omega⟩⟩ hk.2 a2 hk.1]
   congr 1
   refine zX fun j hj=>?_
   have bC:=Kk (c m) (show at0 x.zA 0≠0 by omega);rw[zW hj,zEL (by omega) _ _ (yX),zW hj,wJ,Kq,<-Kc,show(((c m%at0 x.zA 0).toNat:Nat):Int)=c m%at0 x.zA 0 by omega,Kc,Jz,K4,<-Jz,<-Kc];rfl
 obtain⟨a,a1,a2⟩:=key R.length (Jd _);rw[show mkE (zFh h) _ (zN4 h hv)=a from Subtype.ext ?_]
 ·exact a1
 ·show zeros x.zA.length++v=a.1
  rw[a2]
  congr 1
  refine(vF hv.1).trans (zX fun j hj=>?_);have:=hv.2 j hj;rw[hc j hj,Jr (by omega) (by omega)]
theorem yA8{t:Mx}(ht:zCF (zGp h) q k t)(hk:∀b:EG h,Qm q (k+1) b->b=1)(a:EX h):RwC (up h) q (fun b=>b.1∈t) (fun b=>b.1∈gns x) a↔ ∃r,r∈nrw x C q t/\a.1=zeros x.zA.length++r:=by
 have hp:=(h.c.1.os.2 0 h.p.1).pos;have P1:∀b:EG h,b.1∈t->(pg (up h b) q).1=zeros x.zA.length++pwr x C q b.1:=fun b hb=>by
  obtain⟨u,_,e⟩:=zVY h (a:=pg (up h b) q) (by rw[zSb (zPC h),zRB];exact hk _ (.x (.inr ⟨b,(ht.v.2.2 b).1 (.x hb),rfl⟩)))
  rw[e,pwr];have:=zR8 (up h b) q;rw[e]at this;have e2:(up h b).1=b.1++zeros C.length:=rfl;rw[e2]at this;rw[<-this,K1 (zT _)]
 have P2:∀(b g:EG h)(i:Nat),b.1∈t->i<x.zA.length->g.1=vA x.zA.length i->((up h b)⁻¹*(up h g)⁻¹*up h b*up h g).1=zeros x.zA.length++gpr x C b.1 i:=fun b g i hb hi hg=>by
  obtain⟨u,u1,e⟩:=zVY h (a:=(up h b)⁻¹*(up h g)⁻¹*up h b*up h g) (by simp only[zPC h,h_i (zPC h),zRB];exact hk _ (.x (.inl ⟨b,g,(ht.v.2.2 b).1 (.x hb),rfl⟩)))
  have e3:up h b*up h g=up h g*up h b*((up h b)⁻¹*(up h g)⁻¹*up h b*up h g):=by simp[as,cl2]
  have e4:=congrArg (·.1) e3;obtain⟨y,v,e5,hy,hv⟩:=(zPB h _).1 (up h g*up h b).2;have e6:(up h g*up h b).1=mul (suf (cvX x C) 0) (vA x.zA.length i++zeros C.length) (b.1++zeros C.length):=by rw[<-hg];rfl
  have e7:(up h b*up h g).1=mul (suf (cvX x C) 0) (b.1++zeros C.length) (vA x.zA.length i++zeros C.length):=by rw[<-hg];rfl
  have e8:(up h b*up h g).1=y++adv (at0 x.zA 0) C.length v u:=by refine e4.trans ?_;show mul _ (up h g*up h b).1 ((up h b)⁻¹*(up h g)⁻¹*up h b*up h g).1=_;rw[e5,e,zRC h hy hv u1]
  rw[e,gpr,<-e6,<-e7,e8,e5,K1 (zAF h hy),K1 (zAF h hy)]
  congr 1
  refine(vF u1.1).trans (zX fun j hj=>?_);have:=u1.2 j hj;rw[adv,zW hj,G6,show at0 v j+at0 u j+ -1*at0 v j=at0 u j by omega,Jr (by omega) (by omega)]
 constructor
 ·rintro⟨b,hb,⟨g,hg,rfl⟩|rfl⟩
  ·obtain⟨i,hi,e⟩:=Je.1 hg
   exact⟨_,Ll.2 ⟨b.1,hb,J9.2 (.inr (Je.2 ⟨i,hi,rfl⟩))⟩,P2 b g i hb (Lj.1 hi) e.symm⟩
  ·exact⟨_,Ll.2 ⟨b.1,hb,J9.2 (.inl rfl)⟩,P1 b hb⟩
 ·rintro⟨r,hr,e⟩
  obtain⟨b,hb,hr⟩:=Ll.1 hr;have tw:=ht.v.1 b hb;rcases J9.1 hr with rfl|hr
  ·exact⟨mkE _ b tw,hb,.inr (Subtype.ext (e.trans (P1 (mkE _ b tw) hb).symm))⟩
  ·obtain⟨i,hi,rfl⟩:=Je.1 hr
   have hi:=Lj.1 hi;exact⟨mkE _ b tw,hb,.inl ⟨mkE _ _ (zPD h hi),Je.2 ⟨i,Lj.2 hi,rfl⟩,Subtype.ext (e.trans (P2 (mkE _ b tw) (mkE _ _ (zPD h hi)) i hb hi rfl).symm)⟩⟩
theorem zRD{t:Mx}(ht:∀a∈t,V (suf x 0) a):∀r∈nrw x C q t,Row (at0 x.zA 0) C.length r:=fun r hr=>by
 obtain⟨b,hb,hr⟩:=Ll.1 hr;rcases J9.1 hr with rfl|hr
 ·exact zYQ h (ht b hb)
 ·obtain⟨i,_,rfl⟩:=Je.1 hr
  exact zYR h
theorem zLz{R:Mx}(hi:i<R.length):R.getD i []∈R:=by have _:=h;rw[J2,J3 hi];exact Jo hi
theorem yEI{t:Mx}(ht:zCF (zGp h) q k t)(hk:∀b:EG h,Qm q (k+1) b->b=1)(a:EX h):Qm q (k+1) a↔ ∃v,Row (at0 x.zA 0) C.length v/\a.1=zeros x.zA.length++v/\Sp (at0 x.zA 0) C.length (nrw x C q t) v:=by
 rw[yCj h ht hk a];have gG:=zRD h (C:=C) (q:=q) ht.v.1;constructor
 ·refine Ge.to (yA7 h _) fun b hb=>?_
  obtain⟨r,hr,e⟩:=(yA8 h ht hk b).1 hb;obtain⟨i,hi,rfl⟩:=Lq.1 hr;refine⟨_,gG _ hr,e,?_⟩;have:=uP (p:=at0 x.zA 0) (n:=C.length) hi
  rwa [J2,J3 hi]at this
 ·rintro⟨v,v1,v2,v3⟩
  rw[show a=mkE (zFh h) _ (zN4 h v1)from Subtype.ext v2];exact yEH h (fun i hi=>gG _ (zLz h hi)) (Ge.s _) (fun i hi=>.x ((yA8 h ht hk _).2 ⟨_,zLz h hi,rfl⟩)) v1 v3
theorem zYT{t:Mx}{R:Mx}(hR:∀i,i<R.length->Row (at0 x.zA 0) C.length (R.getD i []))(hm:zCF (zFh h) q j t)(hq:∀a:EX h,Qm q j a↔ ∃v,Row (at0 x.zA 0) C.length v/\a.1=zeros x.zA.length++v/\Sp (at0 x.zA 0) C.length R v):
  ∃pv,Red (at0 x.zA 0) C.length (t.map (·.drop x.zA.length)) pv/\qR (at0 x.zA 0) C.length (t.map (·.drop x.zA.length)) R:=by
 obtain⟨Y,D,rfl,hC,hY,hQ⟩:=hm;have hl:=zEg h;have et:wA D 0 (cvX x C).zA.length=((K8 0 (cvX x C).zA.length).filter fun j=>(D j).isSome).map fun j=>(D j).getD []:=yA6 _
 have er:∀p∈(K8 0 (cvX x C).zA.length).filter fun j=>(D j).isSome,(D p).isSome=jj:=fun p hp=>(Jb8.1 hp).2
 have te:((K8 0 (cvX x C).zA.length).filter fun j=>(D j).isSome).Pairwise (· <·):=List.Pairwise.filter _ (List.pairwise_lt_range')
 generalize (K8 0 (cvX x C).zA.length).filter (fun j=>(D j).isSome)=P at et er te
 have key:∀i(hi:i<P.length),∃v,D P[i]=jh (zeros x.zA.length++v)/\Row (at0 x.zA 0) C.length v/\Sp (at0 x.zA 0) C.length R v/\x.zA.length<=P[i]/\P[i]<x.zA.length+C.length/\(∀j,j<P[i]-x.zA.length->at0 v j=0)/\at0 v (P[i]-x.zA.length)=1/\ ∀p,P[i]<p->(D p).isSome=jj->at0 v (p-x.zA.length)=0:=fun i hi=>by
  obtain⟨r,hr⟩:=Kv.1 (er _ (Jo hi));obtain⟨c1,c2,c3,c4,c5,c6⟩:=hC.i hr;obtain⟨v,v1,v2,v3⟩:=(hq (mkE (zFh h) r c3)).1 ((hQ _).1 c2);have e:r=zeros x.zA.length++v:=v2;subst e;have hn:x.zA.length<=P[i]:=Classical.byContradiction fun g=>by have:=(zPE (n:=x.zA.length) (v:=v) (j:=P[i])).1 (by omega);rw[this]at c5;omega
  have ea:∀p,x.zA.length<=p->at0 (zeros x.zA.length++v) p=at0 v (p-x.zA.length):=fun p hp=>by
   have:=(zPE (n:=x.zA.length) (v:=v) (j:=p-x.zA.length)).2
   rwa [show x.zA.length+(p-x.zA.length)=p by omega]at this
  refine⟨v,hr,v1,v3,hn,by omega,fun j hj=>?_,?_,fun p hp hs=>?_⟩
  ·have:=c4 (x.zA.length+j) (by omega)
   rwa [zPE.2]at this
  ·rw[<-ea _ hn];exact c5
  ·rw[<-ea _ (by omega)]
   refine c6 p hp ?_ hs;obtain⟨r',tc⟩:=Kv.1 hs;exact(hC.i tc).1
 have ew:∀i(hi:i<P.length) v,D P[i]=jh (zeros x.zA.length++v)->((wA D 0 (cvX x C).zA.length).map (·.drop x.zA.length)).getD i []=v:=fun i hi v hv=>by rw[et,Jb1,J2,Jw,J3 hi];show((D P[i]).getD []).drop x.zA.length=v;rw[hv];exact K1 (zT _)
 have gf:((wA D 0 (cvX x C).zA.length).map (·.drop x.zA.length)).length=P.length:=by rw[et,Jg,Jg]
 have mc:∀i k(hi:i<P.length)(hk:k<P.length),i<k->P[i]<P[k]:=fun i k hi hk aV=>List.pairwise_iff_getElem.1 te i k hi hk aV
 have p8:∀i,i<P.length->Sp (at0 x.zA 0) C.length R (((wA D 0 (cvX x C).zA.length).map (·.drop x.zA.length)).getD i []):=fun i hi=>by obtain⟨v,k1,_,k3,_⟩:=key i hi;rw[ew i hi v k1];exact k3
 refine⟨fun i=>P.getD i 0-x.zA.length,⟨?_,?_,?_,?_,?_,?_⟩,⟨fun i hi=>p8 i (by omega),fun i hi=>?_⟩⟩
 ·intro i hi
  rw[gf]at hi;obtain⟨v,k1,k2,_⟩:=key i hi;rw[ew i hi v k1];exact k2
 ·intro i hi
  rw[gf]at hi;obtain⟨v,_,_,_,k4,k5,_⟩:=key i hi;simp only[J2,J3 hi,Lu];omega
 ·intro i hi
  rw[gf]at hi;obtain⟨v,k1,_,_,_,_,_,k7,_⟩:=key i hi;simp only[J2,J3 hi,Lu];show at0 (Ua _ _ _) _=_;rw[ew i hi v k1];exact k7
 ·intro i hi
  rw[gf]at hi;obtain⟨v,k1,_,_,_,_,k6,_⟩:=key i hi;simp only[J2,J3 hi,Lu];intro j hj;show at0 (Ua _ _ _) _=_;rw[ew i hi v k1];exact k6 j hj
 ·intro i k hi hk gc
  rw[gf]at hi hk;obtain⟨v,k1,_,_,k4,_,k6,_,k8⟩:=key k hk;simp only[J2,J3 hi,Lu];show at0 (Ua _ _ _) _=_;rw[ew k hk v k1];have iu:=(key i hi).choose_spec.2.2.2.1;rcases Jp k i with g|g
  ·exact k8 _ (mc k i hk hi g) (er _ (Jo hi))
  ·have:=mc i k hi hk (by omega)
   exact k6 _ (by omega)
 ·intro i k aV hk
  rw[gf]at hk;have hi:i<P.length:=by omega
  have h1:=mc i k hi hk aV;have iu:=(key i hi).choose_spec.2.2.2.1;simp only[J2,J3 hi,J3 hk,Lu];omega
 ·have ta:=hR i hi
  have a1:=(hQ (mkE (zFh h) _ (zN4 h ta))).2 ((hq _).2 ⟨_,ta,rfl,uP hi⟩);have a2:=(zFg (zPA h) h.cc hY hC _).1 a1;obtain⟨_,v,v1,v2,v3⟩:=zLy (w:=zFh h) (yA7 h ((wA D 0 (cvX x C).zA.length).map (·.drop x.zA.length))) (fun a ha=>by
   rw[et]at ha;obtain⟨p,hp,e⟩:=Je.1 ha;obtain⟨i,hi,rfl⟩:=Lq.1 hp;obtain⟨v,k1,k2,_⟩:=key i hi;rw[k1]at e;have e':zeros x.zA.length++v=a:=e;subst e';refine⟨zN4 h k2,v,k2,rfl,?_⟩;have:=uP (p:=at0 x.zA 0) (n:=C.length) (R:=(wA D 0 (cvX x C).zA.length).map (·.drop x.zA.length)) (i:=i)
   rwa [ew i hi v k1]at this) a2
  have e:zeros x.zA.length++R.getD i []=zeros x.zA.length++v:=v2;rw[Qx e];exact v3
end
theorem yCm{β:Type}{F:Vec->β}{l:Mx}:(Jf l.length).map (fun i=>F (l.getD i []))=l.map F:=by
 apply Kz;intro i
 by_cases hi:i<l.length
 ·rw[Jw,Qw hi,Jw,J3 hi]
  simp[hi]
 ·rw[Li (by simp;omega),Li (by simp;omega)]
theorem yEJ{x:SPr}(hc:uX x)(hp:zLp x)(hC:zIY x=jh C)(hR:Red (at0 x.zA 0) (base x.zA.length x.zA.length) C pc)(h8:C.length<=8):zN2 x C (at0 x.zA 0).toNat:=by have hq:=(hc.1.os.2 0 hp.1).pos;obtain⟨h1,h2⟩:=zVX hc hp hR (by omega);exact⟨hc,hp,by omega,h8,hR.row,h1,h2,zP9 hc hp hC hR h8⟩
theorem zWd{x:SPr}(hc:uX x)(hp:zLp x)(hC:zIY x=jh C)(hR:Red (at0 x.zA 0) (base x.zA.length x.zA.length) C pc)(h8:C.length<=8):
  ∃W pv,f_A x C=jh W/\zZ8 x C=jh ⟨at0 x.zA 0,(C.length:Int),W⟩/\Red (at0 x.zA 0) C.length W pv:=by
 have h:=yEJ hc hp hC hR h8;have hq:=hc.1.os.2 0 hp.1;have h7:=hq.pos;have h6:=hc.2.2.n6;have hb:=xY x.zA.length (by omega);obtain⟨k,s,S,s1,s2,hk,fa,hm,hl,t2,hS,hM⟩:=zSB h;have gG:=zRD h (C:=C) (q:=(at0 x.zA 0).toNat) hm.v.1;have mB:∀i,i<(nrw x C (at0 x.zA 0).toNat (s.getD k [])).length->Row (at0 x.zA 0) C.length ((nrw x C (at0 x.zA 0).toNat (s.getD k [])).getD i []):=fun i hi=>gG _ (zLz h hi)
 obtain⟨pv,r1,r2⟩:=zYT h mB hM (yEI h hm hl);have cH:(nrw x C (at0 x.zA 0).toNat (s.getD k [])).length<=6*7:=by
  have bx:∀l:Mx,(l.flatMap (rw1 x C (at0 x.zA 0).toNat)).length=l.length*(x.zA.length+1):=fun l=>by
   induction l with
   |nil=>simp
   |cons a l ih=>rw[Kr,J5,ih,J7,K9];simp[rw1];omega
  rw[nrw,bx];exact Jq (by have:=hm.v.2.1;omega) (by omega)
 obtain⟨W,pw,w1,w2,w3⟩:=zGl hq (n:=C.length) (by omega) (by omega) mB;have e:W=(S.getD (k+1) []).map (·.drop x.zA.length):=Red.unique (by omega) w2 r1 (w3.trans r2.symm);have i6:(((at0 x.zA 0).toNat:Nat):Int)=at0 x.zA 0:=by omega
 refine⟨W,pw,?_,?_,w2⟩
 ·rw[zWb h s1 hk fa hm.v.1 (by have:=hm.v.2.1;omega)];exact w1
 have hE:zUS x.zA.length C.length x (xP (at0 x.zA 0) C.length x.zA.length) (kL (base x.zA.length x.zA.length) C):=zUS.ofX hc.2.2 (zIu hq) zCC (by grind[zVH]);have eO:f_V x C=jh (cvX x C):=by unfold f_V;rw[zHS rfl h6,bs,show(0:Int)=((0:Nat):Int)from rfl,show((0:Nat):Int)=0 from rfl,zS4 hR.row (by omega) (by omega),bs,show(0:Int)=((0:Nat):Int)from rfl,yJ hp.1,bs,zPv h6,bs,zUU hE,bs]
 have eP:=hM.v;have hXl:=zEg h;have eV:=wH (body:=zKg x (S.getD (k+1) [])) (S.getD (k+1) []).length (fun i=>((S.getD (k+1) []).getD i []).drop x.zA.length) (fun i acc hi ha=>by
  have gf:=zBt (zPA h) h.cc (eP.1 _ (zLz h hi));unfold zKg;simp only
  rw[yS hi,zH,yA [] hi,bs];have cx:zS ((S.getD (k+1) []).getD i []) (x.zA.length:Int) ((S.getD (k+1) []).getD i []).length=jh (((S.getD (k+1) []).getD i []).drop x.zA.length):=by unfold zS;rw[if_pos (by omega),J8,J8,Jx (by rw[Kl];omega)]
  rw[cx,bs,jL (by rw[Kl];omega),bs,zV (by have:=eP.2.1;simp only[J7,Jt];omega),bs,zB (by have:=eP.2.1;omega) (by have:=eP.2.1;omega),bs];rfl) (fun acc=>by
  unfold zKg;simp only
  rw[tS,zJ])
 have fZ:(Jf (S.getD (k+1) []).length).map (fun i=>((S.getD (k+1) []).getD i []).drop x.zA.length)=W:=by rw[e,<-yCm]
 rw[i6]at s2 t2;unfold zZ8;rw[eO,bs,show(0:Int)=((0:Nat):Int)from rfl,yJ hp.1,bs,s2,bs,show((s.length:Int)-1)=((k+1:Nat):Int)from by omega,zB,bs,bs,bs,t2,bs,yA [] hS,bs,show((0:Nat):Int)=0 from rfl,eV,bs,fZ]
theorem zG4{x:SPr}(hx:zDv x):∃g k,zXK x=jh (g,k)/\zTy x=jh (g,k)/\S2 g.Rows:=by
 obtain⟨c,e1,e2,e3⟩:=zPr (x:=x) hx.1;have cR:S2 ([]:Mx):=by simp[S2,c2,sm]
 unfold zXK zTy;rw[e1,e2,bs,bs]
 by_cases g:c=0
 ·obtain⟨hc,hp⟩:=e3 g
  obtain⟨C,pc,c1,c2,c3,c4⟩:=zIQ hc hp;subst g;rw[show((0:Int) != 0)=jk from rfl,zJ,zJ,c1,c2,bs,bs]
  by_cases g8:C.length<=8
  ·obtain⟨W,pv,w1,w2,w3⟩:=zWd hc hp c1 c3 g8
   have hWl:=w3.len_le;rw[jl (by omega),zJ,zJ,show(0:Int)=((0:Nat):Int)from rfl,yJ hp.1,bs,w1,w2,bs,bs];unfold yC3;rw[zCZ (by omega) (fun i hi=>by rw[(w3.row i hi).1];omega),bs,bs];exact⟨_,_,rfl,rfl,w3.small (by omega)⟩
  ·rw[jm,zH,zH]
   exact⟨_,_,rfl,rfl,cR⟩
 ·rw[show(c != 0)=jj from by grind,zH,zH]
  exact⟨_,_,rfl,rfl,cR⟩
theorem zIR(x0:SPr)(v0:zQR x0)
  (h:zDv x0-> ∃g k,zXK x0=jh (g,k)/\zTy x0=jh (g,k)/\S2 g.Rows):zZ9 x0=jh jj:=by
 unfold zZ9;rw[zH9 v0 (by decide) (by decide),bs];rcases zYt (c:=zM0 x0) (b:=1048576) (by decide) (by decide)with e|⟨e,a0,b0,w0⟩<;>rw[e]
 ·rfl
 have s0:zDv x0:=zDv.of w0;obtain⟨g,k,hs,hi,sg⟩:=h s0;have t0:=zRe s0;have qg:=zHC (x:=g.Rows);rw[zJ,zHA s0,bs];simp only[bs];rw[hs,bs,hi,bs];simp only
 rw[zMS sg,bs];simp only[Kj,zJ,bne_self_eq_false];rw[zHB s0,bs,Kj,zJ,zDk s0 (by decide) (by decide),bs];simp only
 rw[jl (by omega),zJ,bs,Kj,zJ];rw[zOY sg (by decide) (by decide),bs];simp only
 rw[zOZ sg (by decide) (by decide),bs,jl (by omega),zJ,bne_self_eq_false,zJ,bs];simp only
 rw[zMS sg,bs,Kj,zJ,bne_self_eq_false,zJ,bs,jl (by omega),zJ,bne_self_eq_false,zJ]
theorem zG5(x0:SPr)(v0:zQR x0):zZ9 x0=jh jj:=
 zIR x0 v0 zG4
end Go.Pl
