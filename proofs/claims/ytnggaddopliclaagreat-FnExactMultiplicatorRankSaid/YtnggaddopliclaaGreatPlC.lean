/- The program's MultiplicatorRank returns what the reference's returns,for all arguments;no conditions. -/
import Derived.Test.YtnggaddopliclaaGreatPlB
open List renaming replicate→J1,getD_eq_getElem?_getD→J2,getElem?_eq_getElem→J3,length_append→J5,length_cons→J6,getElem?_append_right→J8,append_nil→J9,append_assoc→Ja,length_map→Jc,mem_cons→Jd,length_replicate→Jh,nil_append→Ji,mem_append→Jj,range→Jl,getElem?_append_left→Jm,take_left'→Jn,replicate_succ→Jo,cons_append→Jq,take_of_length_le→Jr,eq_of_mem_replicate→Js,mem_map→Jt,map_cons→Ju,length_nil→Jw,getElem?_map→K0,length_drop→K1,drop_left'→K3,take_zero→K6,take_succ_eq_append_getElem→K8,length_take→Ka,all_eq_true→Kh,getElem_mem→Kj,reverse_reverse→Km,getElem?_drop→Ko,mem_range→Kq,map_append→Ks,length_range→Kt,range'→L9,flatMap_cons→Ln,flatten_cons→Lp,range_eq_range'→Lr,getD_cons_zero→Lu,mem_append_right→Lv,map_nil→Lw,flatMap_append→Lx,reverse_cons→H0,getElem?_take→H3,replicate_succ'→H4,mem_cons_of_mem→H5,drop_eq_nil_of_le→H9,replicate_zero→He,take_length→Hg,flatten_nil→Hw,mem_iff_getElem→G3,drop_zero→G4,drop_eq_getElem_cons→G8,mem_flatMap→Gf,mem_append_left→Gk,head?_cons→Gv,getD_cons_succ→Ub,map_replicate→Q2,length_range'→Q3,getElem_range→Q4,range_zero→Q5,map_congr_left→Qm,flatten_append→Qo,map_take→Qq,mem_reverse→Qs,ext_getElem→Qu,getElem?_replicate_of_lt→Qv,flatMap_nil→Jaf,length_reverse→Jaz,not_mem_nil→Jb2,mem_of_mem_head?→Jbg,mem_of_mem_drop→Jbo,map_map→Jbp,findSome?_cons→Jby,drop_drop→Jc0,map_drop→Jcy,range'_succ→Jd6,getElem_map→Jd7
open Int renaming toNat_natCast→Je,mul_emod→Jx,emod_emod→Kc,emod_eq_of_lt→Ke,add_emod→Kl,emod_lt_of_pos→Kv,natCast_mul→L5,mul_zero→Ld,emod_nonneg→Le,add_zero→Ha,mul_assoc→Hf,mul_one→Ho,natCast_add→U0,mul_le_mul_of_nonneg_left→Ja6,mul_add→Ja7,toNat_of_nonneg→Jd8
open Nat renaming zero_add→Jf,lt_or_ge→Jk,le_refl→Jp,succ_mul→Jy,mul_le_mul→K4,mul_le_mul_right→Kg,zero_le→Kk,mul_comm→H2,div_add_mod→H8,add_sub_cancel_left→Hb,div_lt_iff_lt_mul→Hn,zero_mul→Hp,mod_lt→Gd,sub_zero→U7,eq_zero_or_pos→Uc,not_lt_zero→Um,mul_one→Qp,add_sub_cancel→Jbe,mul_pos→Jbz,lt_irrefl→Jc2
open Bool renaming not_false→Kw,not_true→Ky,false_eq_true→Ga
open Option renaming some→Lb,map_some→Hj,bind→G9,isSome_none→Q0,getD_some→Qh
open Prod renaming mk→Jax
namespace Go.Pl
open Go Go.Ab Go.Wk Go.Pc
theorem zKa{D:Nat}{f:Nat→Int}:∀B:Nat,S (B*D) f=S B fun q=>S D fun l=>f (q*D+l)
 |0=>by rw[Hp];rfl
 |B+1=>by rw[Jy,zGr,zKa B];rfl
def blk(D:Nat)(w:Vec)(q:Nat):Vec:=mkv D fun j=>at0 w (q*D+j)
theorem jV{D B q l:Nat}(hq:q<B)(hl:l<D):q*D+l<B*D:=by have:=Kg D (show q+1≤B by omega);rw[Jy]at this;omega
theorem zOL{p:Int}{D B:Nat}{w:Vec}(hw:Row p (B*D) w){q:Nat}(hq:q<B):Row p D (blk D w q):=
 ⟨yC _ _,fun j hj=>by rw[blk,yG hj];exact hw.2 _ (jV hq hj)⟩
theorem sH{D q l:Nat}(hl:l<D):(q*D+l)/D=q∧(q*D+l)%D=l:=by
 have hD:0<D:=by omega
 constructor
 ·rw[H2,Nat.mul_add_div hD,Nat.div_eq_of_lt hl];rfl
 ·rw[H2,Nat.mul_add_mod,Nat.mod_eq_of_lt hl]
def ABk(B D:Nat)(A:Mx):Mx:=gl (B*D) fun i=>mkv (B*D) fun j=>if i/D=j/D then ent A (i%D) (j%D)else 0
theorem zOM{B D:Nat}{A:Mx}{i j:Nat}(hi:i<B*D)(hj:j<B*D):ent (ABk B D A) i j=if i/D=j/D then ent A (i%D) (j%D)else 0:=by show at0 ((gl (B*D) _).getD i []) j=_;rw[xV hi,yG hj]
theorem zUr{p:Int}{B D:Nat}{A:Mx}(hp:2≤p)(hD:0<D)(hA:Mat p D A):Mat p (B*D) (ABk B D A):=by
 refine⟨wD,fun i hi=>?_⟩;rw[ABk,xV hi];refine⟨yC _ _,fun j hj=>?_⟩;rw[yG hj];split
 ·exact(hA.2 (i%D) (Gd _ hD)).2 _ (Gd _ hD)
 ·omega
theorem zLL{p:Int}{B D:Nat}{u:Vec}{A:Mx}{q l:Nat}(hq:q<B)(hl:l<D):at0 (wC p (B*D) u (ABk B D A)) (q*D+l)=S D (fun i=>at0 u (q*D+i)*ent A i l)%p:=by
 rw[wC,yG (jV hq hl),zKa]
 congr 1
 rw[kW (k:=q) hq fun i hi hne=>?_]
 ·refine xG fun i hi=>?_
  rw[zOM (jV hq hi) (jV hq hl),(sH hi).1,(sH hi).2,(sH hl).1,(sH hl).2,if_pos rfl]
 ·rw[xG (g:=fun _=>0) fun j hj=>?_,qB]
  rw[zOM (jV hi hj) (jV hq hl),(sH hj).1,(sH hl).1,if_neg hne,Ld]
theorem zUs{p:Int}{B D:Nat}{u:Vec}{A:Mx}{q:Nat}(hq:q<B):blk D (wC p (B*D) u (ABk B D A)) q=wC p D (blk D u q) A:=by
 refine zX fun l hl=>?_
 rw[zLL hq hl]
 congr 1
 exact xG fun i hi=>by rw[blk,yG hi]
theorem zLM{D B:Nat}{w:Vec}(hw:w.length=B*D){q:Nat}(hq:q<B):(w.drop (q*D)).take D=blk D w q:=by
 have h1:=Kg D (show q+1≤B by omega);rw[Jy]at h1;apply Qu
 ·rw[Ka,K1,blk,yC];omega
 ·intro i a b
  rw[Ka,K1]at a;rw[List.getElem_take,List.getElem_drop];simp only[blk,mkv,Jd7,Q4,at0];rw[J2,J3 (by omega)];rfl
theorem zSc{D B:Nat}{w:Vec}(hw:w.length=B*D){q:Nat}(hq:q<B):w.take (q*D)++blk D w q=w.take ((q+1)*D):=by rw[←zLM hw hq,Jy,List.take_add]
def mBk(B D n:Nat)(m:zG):zG:=⟨m.Prime,((B*D:Nat):Int),(Jl n).map fun k=>ABk B D (m.zQ.getD k [])⟩
theorem zKb{B D n:Nat}{m:zG}{k:Nat}(hk:k<n):(mBk B D n m).zQ.getD k []=ABk B D (m.zQ.getD k []):=by simp[mBk,J2,hk]
theorem zXd{B D n:Nat}{m:zG}(hm:MOk n m D)(hB:1≤B)(h2:B*D≤200):zR0 n (mBk B D n m) (B*D):=by have h1:=hm.d1;have hp:=hm.p.pos;refine⟨hm.p,Jbz (by omega) (by omega),h2,by simp[mBk],fun i hi=>?_⟩;rw[zKb hi];exact zUr (by show 2≤m.Prime;omega) (by omega) (hm.mat i hi)
theorem zXe{B D n:Nat}{m:zG}(hm:MOk n m D)(h2:B*D≤200):Mv (B*D) n m (mBk B D n m):=by
 refine⟨rfl,fun k hk u hu=>?_⟩;have h1:=hm.d1;have h3:=hm.d3;have hul:=hu.1;have hml:=hm.len;have hA:=hm.mat k hk;rw[zKb hk];have hR:(wC m.Prime (B*D) u (ABk B D (m.zQ.getD k []))).length=B*D:=by rw[wC,yC]
 unfold zUH;have:=zZ (body:=zMk m u (k:Int)) (r:=wC m.Prime (B*D) u (ABk B D (m.zQ.getD k []))) (fun i=>((wC m.Prime (B*D) u (ABk B D (m.zQ.getD k []))).take (i*D),((i*D:Nat):Int))) B (fun i hi=>by
  have hin:=Kg D (show i+1≤B by omega);rw[Jy]at hin;unfold zMk;simp only
  rw[decide_eq_true (by omega),zN,hm.d,zC (by omega) (by omega),bs];have hsl:yB u ((i*D:Nat):Int) (((i*D:Nat):Int)+(D:Int))=some (blk D u i):=by
   unfold yB;rw[if_pos ⟨by omega,by omega,by omega⟩]
   congr 1
   rw[show(((i*D:Nat):Int)+(D:Int)).toNat=i*D+D from by omega,Je,Hb];exact zLM hul hi
  rw[hsl,bs,xD [] (by omega),bs,zH1 hm.p (by omega) (zOL hu hi) hA,bs,←zUs (B:=B) hi,yO (by rw[Ka,blk,yC];omega),bs,zSc hR hi,bs,Jy];rfl) (by
  unfold zMk;simp only
  rw[decide_eq_false (by omega),zL,Jr (by omega)])
 rw[Hp,K6]at this;rw[show((0:Nat):Int)=0 from rfl]at this;rw[this,bs];rfl
def phi(p:Int)(B D:Nat)(c w:Vec):Vec:=mkv D fun j=>S B (fun q=>at0 c q*at0 w (q*D+j))%p
theorem zUt{p:Int}{B D:Nat}{c w:Vec}(hp:2≤p):Row p D (phi p B D c w):=⟨yC _ _,fun j hj=>by rw[phi,yG hj];exact⟨Le _ (show p≠0 by omega),by have:=Kv (S B fun q=>at0 c q*at0 w (q*D+j)) (show 0<p by omega);omega⟩⟩
def Tc(N D:Nat)(c:Vec):Mx:=gl N fun i=>blk D c i
theorem zXf{n B D N:Nat}{m:zG}{TB:Mx}{c:Vec}(hm:MOk n m D)(hN:B=N*D)(hb:base n n=N)(hc:Row m.Prime B c)(ht:∀i,i<N→TB.getD i []=mkv (B*D) fun j=>if j/D=i*D+j%D then 1 else 0):Fh n (B*D) D (mBk B D n m) m TB (Tc N D c) (phi m.Prime B D c):=by
 have hp:=hm.p.pos;have h1:=hm.d1;refine⟨rfl,fun u _=>zUt (by show 2≤m.Prime;omega),?_,fun u v hu hv=>?_,fun k hk u hu=>?_,fun r hr=>?_⟩
 ·rw[show zeros D=mkv D fun _=>0 from tT D]
  refine zX fun j hj=>?_
  rw[xG (g:=fun _=>0) fun q hq=>by rw[tX,Ld],qB];simp
 ·refine zX fun j hj=>?_
  rw[phi,phi,yG hj,yG hj];show _%m.Prime=(_%m.Prime+_%m.Prime)%m.Prime;rw[←Kl,←zC5];refine kJ fun q hq=>?_
  rw[yG (jV hq hj),←Ja7];show(at0 c q*((at0 u (q*D+j)+at0 v (q*D+j))%m.Prime))%m.Prime=_;rw[Jx,Kc,←Jx]
 ·rw[zKb hk]
  refine zX fun j hj=>?_
  show S B (fun q=>at0 c q*at0 (wC m.Prime (B*D) u (ABk B D (m.zQ.getD k []))) (q*D+j))%m.Prime=S D (fun l=>at0 (phi m.Prime B D c u) l*ent (m.zQ.getD k []) l j)%m.Prime;rw[kJ (g:=fun q=>at0 c q*S D (fun i=>at0 u (q*D+i)*ent (m.zQ.getD k []) i j)) fun q hq=>by rw[zLL hq hj,Jx,Kc,←Jx]];rw[kJ (f:=fun l=>at0 (phi m.Prime B D c u) l*ent (m.zQ.getD k []) l j) (g:=fun l=>S B (fun q=>at0 c q*at0 u (q*D+l))*ent (m.zQ.getD k []) l j) fun l hl=>by rw[phi,yG hl,Jx,Kc,←Jx]]
  congr 1
  rw[xG (g:=fun q=>S D (fun i=>at0 c q*(at0 u (q*D+i)*ent (m.zQ.getD k []) i j))) fun q _=>(zC6 _ D).symm,zHx];refine xG fun l hl=>?_
  rw[←zLq];exact xG fun q _=>(Hf _ _ _).symm
 ·rw[hb]at hr
  rw[ht r hr,Tc,xV hr];refine zX fun j hj=>?_
  have hin:r*D+j<B:=by rw[hN];exact jV hr hj
  rw[kW (k:=r*D+j) hin fun q hq hne=>?_]
  ·rw[yG (jV hin hj),(sH hj).1,(sH hj).2,if_pos rfl,Ho]
   have:=hc.2 _ hin;exact Ke this.1 (by omega)
  ·rw[yG (jV hq hj),(sH hj).1,(sH hj).2,if_neg hne,Ld]
end Go.Pl

namespace Go.Pl
open Go Go.Ab Go.Wk Go.Pc
def uT(N D:Nat):Mx:=gl N fun i=>mkv (N*D*D) fun j=>if j/D=i*D+j%D then 1 else 0
section
variable {x:SPr}{m:zG}{D:Nat} (hx:zCy x) (hD:MOk x.zA.length m D)
 include hx hD
theorem zSd{D2:Nat}{m2:zG}{T:Mx}(hm:zR0 x.zA.length m2 D2)(ht:T.length=base x.zA.length x.zA.length):ExB x.zA.length D2 x m2 T:=by have _:=hD;refine⟨hx.n6,rfl,hx.pl,hx.cl,fun i hi=>?_,ht,hm⟩;have:=(hx.tl i hi).2.1;omega
theorem zVC{y:Vec}(hy:Row m.Prime (base x.zA.length x.zA.length*D) y):ExB x.zA.length D x m (Tc (base x.zA.length x.zA.length) D y)∧ ∀i,i<(Tc (base x.zA.length x.zA.length) D y).length→Row m.Prime D ((Tc (base x.zA.length x.zA.length) D y).getD i []):=by refine⟨zSd hx hD hD.b wD,fun i hi=>?_⟩;rw[Tc,wD]at hi;rw[Tc,xV hi];exact zOL hy hi
theorem zSe(h0:0<x.zA.length)(hc:wQ (suf x 0))(hr:zF0 x m D):∃L,f_J ⟨x,m,uT (base x.zA.length x.zA.length) D⟩=some L∧L.length≤1000∧(∀r∈L,Row m.Prime (base x.zA.length x.zA.length*D*D) r)∧
  ∀y,Row m.Prime (base x.zA.length x.zA.length*D) y→((∀r∈L,phi m.Prime (base x.zA.length x.zA.length*D) D y r=zeros D)↔wQ (suf (exx D x m (Tc (base x.zA.length x.zA.length) D y)) 0)):=by
 have h6:=hx.n6;have hb:=vO x.zA.length (by omega);have h1:=hD.d1;have h3:=hD.d3;have hp:=hD.p.pos;have hB:base x.zA.length x.zA.length*D≤21*3:=K4 hb.2.1 h3;have hB1:1≤base x.zA.length x.zA.length*D:=Jbz (by omega) (by omega);have hBD:base x.zA.length x.zA.length*D*D≤63*3:=K4 (by omega) h3;have hE:=zSd hx hD (T:=uT (base x.zA.length x.zA.length) D) (zXd hD hB1 (by omega)) wD;have hT:∀i,i<(uT (base x.zA.length x.zA.length) D).length→Row (mBk (base x.zA.length x.zA.length*D) D x.zA.length m).Prime (base x.zA.length x.zA.length*D*D) ((uT (base x.zA.length x.zA.length) D).getD i []):=fun i hi=>by rw[uT,wD]at hi;rw[uT,xV hi];refine⟨yC _ _,fun j hj=>?_⟩;rw[yG hj];show _∧_≤m.Prime-1;split<;>omega
 have hM:=zXe (B:=base x.zA.length x.zA.length*D) hD (by omega);have key:∀y,Row m.Prime (base x.zA.length x.zA.length*D) y→ ∃L,f_J ⟨x,m,uT (base x.zA.length x.zA.length) D⟩=some L∧L.length≤1000∧(∀r∈L,Row m.Prime (base x.zA.length x.zA.length*D*D) r)∧((∀r∈L,phi m.Prime (base x.zA.length x.zA.length*D) D y r=zeros D)↔wQ (suf (exx D x m (Tc (base x.zA.length x.zA.length) D y)) 0)):=fun y hy=>by obtain⟨e1,e2⟩:=zVC hx hD hy;exact zSb hx.toPres hE hT e1 e2 (zXf hD rfl rfl hy fun i hi=>by rw[uT,xV hi]) hM hc hr
 obtain⟨L,l1,l2,l3,_⟩:=key (zeros (base x.zA.length x.zA.length*D)) (xL (by omega));refine⟨L,l1,l2,l3,fun y hy=>?_⟩;obtain⟨L2,k1,_,_,k4⟩:=key y hy;rw[l1]at k1;cases k1;exact k4
end
def zDo(D k:Nat)(L:Mx):List Int:=(L.map fun r=>blk D r k).flatten
theorem zLN{D k:Nat}:∀L:Mx,(zDo D k L).length=L.length*D
 | []=>by rw[zDo];simp
 |r::L=>by have ih:=zLN (D:=D) (k:=k) L;simp only[zDo]at ih;simp only[zDo,Ju,Lp,J5,J6];rw[ih,blk,yC,Jy];omega
theorem zKc{D k:Nat}:∀(L:Mx)(i j:Nat),i<L.length→j<D→at0 (zDo D k L) (i*D+j)=at0 (L.getD i []) (k*D+j)
 | [],i,j,hi,_=>by simp at hi
 |r::L,i,j,hi,hj=>by
  have hl:(blk D r k).length=D:=yC _ _;simp only[zDo,Ju,Lp];cases i with
  |zero=>
   rw[Hp,Jf,Lu,at0,J2,Jm (by omega),←J2];show at0 (blk D r k) j=_;rw[blk,yG hj]
  |succ i=>
   have ih:=zKc (D:=D) (k:=k) L i j (by simpa using hi) hj;simp only[zDo]at ih;rw[Ub,←ih,at0,J2,J8 (by rw[hl,Jy];omega),hl,Jy,show i*D+D+j-D=i*D+j from by omega,←J2]
theorem zSf{p:Int}{B D:Nat}{L:Mx}{y:Vec}:(∀c,c<L.length*D→(S B fun k=>at0 y k*ent (gl B fun k=>zDo D k L) k c)%p=0)↔ ∀r∈L,phi p B D y r=zeros D:=by
 have e:∀i j,i<L.length→j<D→(S B fun k=>at0 y k*ent (gl B fun k=>zDo D k L) k (i*D+j))%p=at0 (phi p B D y (L.getD i [])) j:=fun i j hi hj=>by
  rw[phi,yG hj]
  congr 1
  refine xG fun k hk=>?_
  show at0 y k*at0 ((gl B fun k=>zDo D k L).getD k []) (i*D+j)=_;rw[xV hk,zKc L i j hi hj]
 constructor
 ·intro g r hr
  obtain⟨i,hi,rfl⟩:=G3.1 hr;rw[show zeros D=mkv D fun _=>0 from tT D,vR (D:=D) (v:=phi p B D y L[i]) (yC _ _)];refine zX fun j hj=>?_
  have:=e i j hi hj;rw[J2,J3 hi]at this;rw[←g _ (jV hi hj),this];rfl
 ·intro g c hc
  have hD:0<D:=by
   rcases Uc D with h|h
   ·rw[h,Nat.mul_zero]at hc;omega
   ·exact h
  have hi:c/D<L.length:=(Hn hD).2 hc;have hj:c%D<D:=Gd _ hD;rw[show c=c/D*D+c%D from by rw[H2];exact(H8 c D).symm,e _ _ hi hj,g _ (by rw[J2,J3 hi];exact Kj hi),tX]
end Go.Pl

namespace Go.Pl
open Go Go.Ab Go.Wk Go.Pc
def zAR(p:Int)(D:Nat)(m:zG):List (Nat×List Nat)→Nat→Nat→Nat→Int
 | [],_,_,_=>0
 |(q,s)::t,r,i,j=>(if q=r then ent (wM p D m.zQ s (idM D)) i j else 0)+zAR p D m t r i j
section
variable {p:Int}{D N:Nat}{m:zG}{y:Vec}
theorem zSg{j:Nat}(hj:j<D):∀t:List (Nat×List Nat),(∀q∈t,q.1<N)→at0 (tv p D m (Tc N D y) t) j=(S N fun r=>S D fun i=>at0 y (r*D+i)*zAR p D m t r i j)%p
 | [],_=>by
  show at0 (zeros D) j=_;rw[tX,xG (g:=fun _=>0) fun r _=>by rw[xG (g:=fun _=>0) fun i _=>by rw[zAR,Ld],qB],qB]
  rfl
 |(q,s)::t,h=>by
  have hq:q<N:=h (q,s) (by simp);have ih:=zSg hj t fun q hq=>h q (by simp[hq])
  show at0 (adv p D (wC p D ((Tc N D y).getD q []) (wM p D m.zQ s (idM D))) (tv p D m (Tc N D y) t)) j=_;rw[show adv p D=fun u v=>mkv D fun j=>(at0 u j+at0 v j)%p from rfl];show at0 (mkv D _) j=_;rw[yG hj,ih,wC,yG hj,←Kl]
  congr 1
  have e:(S N fun r=>S D fun i=>at0 y (r*D+i)*zAR p D m ((q,s)::t) r i j)=
    (S N fun r=>S D fun i=>at0 y (r*D+i)*(if q=r then ent (wM p D m.zQ s (idM D)) i j else 0))+S N fun r=>S D fun i=>at0 y (r*D+i)*zAR p D m t r i j:=by
   rw[←zC5];refine xG fun r _=>?_
   rw[←zC5];refine xG fun i _=>?_
   rw[zAR,Ja7]
  rw[e]
  congr 1
  rw[kW (k:=q) hq fun r _ hr=>by rw[xG (g:=fun _=>0) fun i _=>by rw[if_neg (Ne.symm hr),Ld],qB]]
  refine xG fun l hl=>?_
  rw[if_pos rfl,Tc,xV hq,blk,yG hl]
end
def prR(p:Int)(D:Nat)(m:zG)(t1 t2:List (Nat×List Nat))(k:Nat):List Int:=mkv D fun j=>(zAR p D m t1 (k/D) (k%D) j-zAR p D m t2 (k/D) (k%D) j)%p
section
variable {p:Int}{D N:Nat}{m:zG}{y:Vec}
theorem zON(hp:2≤p){t1 t2:List (Nat×List Nat)}(h1:∀q∈t1,q.1<N)(h2:∀q∈t2,q.1<N):
  (∀j,j<D→(S (N*D) fun k=>at0 y k*at0 (prR p D m t1 t2 k) j)%p=0)↔tv p D m (Tc N D y) t1=tv p D m (Tc N D y) t2:=by
 have e:∀j,j<D→(S (N*D) fun k=>at0 y k*at0 (prR p D m t1 t2 k) j)%p=(at0 (tv p D m (Tc N D y) t1) j-at0 (tv p D m (Tc N D y) t2) j)%p:=fun j hj=>by
  rw[zSg hj t1 h1,zSg hj t2 h2,←Int.sub_emod,zKa];have e1:((S N fun r=>S D fun i=>at0 y (r*D+i)*zAR p D m t1 r i j)-S N fun r=>S D fun i=>at0 y (r*D+i)*zAR p D m t2 r i j)=S N fun r=>S D fun i=>at0 y (r*D+i)*(zAR p D m t1 r i j-zAR p D m t2 r i j):=by
   have:(S N fun r=>S D fun i=>at0 y (r*D+i)*zAR p D m t1 r i j)=(S N fun r=>S D fun i=>at0 y (r*D+i)*(zAR p D m t1 r i j-zAR p D m t2 r i j))+S N fun r=>S D fun i=>at0 y (r*D+i)*zAR p D m t2 r i j:=by
    rw[←zC5];refine xG fun r _=>?_
    rw[←zC5];refine xG fun i _=>?_
    rw[←Ja7];congr 1;omega
   omega
  rw[e1];refine kJ fun r _=>kJ fun i hi=>?_
  have hd:=sH (q:=r) hi;rw[prR,yG hj,hd.1,hd.2,Jx,Kc,←Jx]
 constructor
 ·intro g
  have r1:=zJT (D:=D) (m:=m) (T:=Tc N D y) hp t1;have r2:=zJT (D:=D) (m:=m) (T:=Tc N D y) hp t2;rw[vR r1.1,vR r2.1];refine zX fun j hj=>?_
  have k:=e j hj;rw[g j hj]at k;have b1:=r1.2 j hj;have b2:=r2.2 j hj;have:=Int.emod_emod_of_dvd (at0 (tv p D m (Tc N D y) t1) j-at0 (tv p D m (Tc N D y) t2) j) (Int.dvd_refl p);have hdv:p∣at0 (tv p D m (Tc N D y) t1) j-at0 (tv p D m (Tc N D y) t2) j:=Int.dvd_of_emod_eq_zero k.symm;obtain⟨c,hc⟩:=hdv;have:c=0:=by
   rcases Int.lt_trichotomy c 0 with hlt|h0|hgt
   ·have:p*c≤p*(-1):=Ja6 (by omega) (by omega)
    omega
   ·exact h0
   ·have:p*1≤p*c:=Ja6 (by omega) (by omega)
    omega
  rw[this,Ld]at hc;omega
 ·intro g j hj
  rw[e j hj,g,Int.sub_self];rfl
end
end Go.Pl

namespace Go.Pl
open Go Go.Ab Go.Wk Go.Pc
abbrev Trc:=List (Nat×List Nat)
structure PD where
 k:Nat
 wd:List Nat
 t:Nat
 r1:Nat
 s1:List Nat
 w1:List Nat
 r2:Nat
 s2:List Nat
 w2:List Nat
section
variable (x:SPr)
abbrev PD.B(d:PD)(t1 t2:Trc):Prop:=zJY x d.k d.r1 d.s1 d.w1 d.r2 d.s2 d.w2 t1 t2
def ups(n i:Nat):List Nat:=L9 (i+1) (n-(i+1))
def pd2(i j k:Nat):PD:=⟨i,[k,j,i],1,base x.zA.length j+(k-(j+1)),[i],j::(nw 0 (lcj x j k)++[i]),base x.zA.length i+(j-(i+1)),[],k::i::nw 0 (lcj x i j)⟩
def pd1(i j:Nat):PD:=⟨i,J1 (yH x j) j++[i],yH x j-1,j,[i],nw 0 (x.zU.getD j [])++[i],base x.zA.length i+(j-(i+1)),[],J1 (yH x j-1) j++i::nw 0 (lcj x i j)⟩
def pd4(i j:Nat):PD:=⟨i,j::J1 (yH x i) i,1,base x.zA.length i+(j-(i+1)),J1 (yH x i-1) i,i::(nw 0 (lcj x i j)++J1 (yH x i-1) i),i,[],j::nw 0 (x.zU.getD i [])⟩
def pd3(i:Nat):PD:=⟨i,J1 (yH x i+1) i,1,i,[i],nw 0 (x.zU.getD i [])++[i],i,[],i::nw 0 (x.zU.getD i [])⟩
def cps:List PD:=
 ((Jl x.zA.length).flatMap fun i=>(ups x.zA.length i).flatMap fun j=>(ups x.zA.length j).map fun k=>pd2 x i j k)++
 (((Jl x.zA.length).flatMap fun i=>(ups x.zA.length i).map fun j=>pd1 x i j)++
 (((Jl x.zA.length).flatMap fun i=>(ups x.zA.length i).map fun j=>pd4 x i j)++
 (Jl x.zA.length).map fun i=>pd3 x i))
end
theorem zEN{n i j:Nat}:j∈ups n i↔i<j∧j<n:=by rw[ups,List.mem_range'_1];omega
section
variable {x:SPr}
theorem zAG{φ:PD→Prop}:(∀d∈cps x,φ d)↔(∀i j k,i<j→j<k→k<x.zA.length→φ (pd2 x i j k))∧(∀i j,i<j→j<x.zA.length→φ (pd1 x i j))∧(∀i j,i<j→j<x.zA.length→φ (pd4 x i j))∧ ∀i,i<x.zA.length→φ (pd3 x i):=by
 constructor
 ·intro g
  refine⟨fun i j k h1 h2 h3=>g _ ?_,fun i j h1 h2=>g _ ?_,fun i j h1 h2=>g _ ?_,fun i h1=>g _ ?_⟩
  ·exact Gk _ (Gf.2 ⟨i,Kq.2 (by omega),Gf.2 ⟨j,zEN.2 ⟨h1,by omega⟩,Jt.2 ⟨k,zEN.2 ⟨h2,h3⟩,rfl⟩⟩⟩)
  ·exact Lv _ (Gk _ (Gf.2 ⟨i,Kq.2 (by omega),Jt.2 ⟨j,zEN.2 ⟨h1,h2⟩,rfl⟩⟩))
  ·exact Lv _ (Lv _ (Gk _ (Gf.2 ⟨i,Kq.2 (by omega),Jt.2 ⟨j,zEN.2 ⟨h1,h2⟩,rfl⟩⟩)))
  ·exact Lv _ (Lv _ (Lv _ (Jt.2 ⟨i,Kq.2 h1,rfl⟩)))
 ·rintro⟨g2,g1,g4,g3⟩ d hd
  simp only[cps,Jj,Gf,Jt,Kq,zEN]at hd;rcases hd with⟨i,_,j,⟨h1,_⟩,k,⟨h2,h3⟩,rfl⟩|⟨i,_,j,⟨h1,h2⟩,rfl⟩|⟨i,_,j,⟨h1,h2⟩,rfl⟩|⟨i,h1,rfl⟩
  ·exact g2 i j k h1 h2 h3
  ·exact g1 i j h1 h2
  ·exact g4 i j h1 h2
  ·exact g3 i h1
theorem zPB{D:Nat}{m:zG}{T:Mx}:zVA x D m T↔ ∀d∈cps x,∀t1 t2,d.B x t1 t2→tv m.Prime D m T t1=tv m.Prime D m T t2:=by
 rw[zAG (φ:=fun d=> ∀t1 t2,d.B x t1 t2→tv m.Prime D m T t1=tv m.Prime D m T t2)];constructor
 ·intro g
  exact⟨fun i j k h1 h2 h3=>g.p2 i j k h1 h2 h3,fun i j h1 h2=>g.p1 i j h1 h2,fun i j h1 h2=>g.p4 i j h1 h2,fun i h1=>g.p3 i h1⟩
 ·rintro⟨g2,g1,g4,g3⟩
  exact⟨fun k j h1 h2=>g1 k j h1 h2,fun k i j h1 h2 h3=>g2 k i j h1 h2 h3,fun k hk=>g3 k hk,fun k j h1 h2=>g4 k j h1 h2⟩
theorem zVD(h6:x.zA.length≤6){w:List Nat}{r:zDU}(hw:∀a∈w,a<x.zA.length)(h:hdS x w=some r):r.1<base x.zA.length x.zA.length:=by
 unfold hdS at h;have hb:=vO x.zA.length (by omega)
 match w,h with
 | [],h=>cases h
 | [a],h=>
  have ha:=hw a (by simp);simp only[swp,pws]at h;split at h
  ·cases h;simp only;omega
  ·cases h
 |a::b::w,h=>
  have ha:=hw a (by simp);simp only[swp]at h
  by_cases g:b<a
  ·rw[if_pos g]at h
   cases h;have:=zBF x.zA.length (by omega) b (by omega);simp only
   omega
  ·rw[if_neg g]at h
   simp only[pws]at h;split at h
   ·cases h;simp only;omega
   ·cases h
theorem zVE(h6:x.zA.length≤6):∀{w:List Nat}{r:zDU},(∀a∈w,a<x.zA.length)→stS x w=some r→r.1<base x.zA.length x.zA.length
 | [],_,_,h=>by cases h
 |a::w,r,hw,h=>by
  simp only[stS]at h;cases e:hdS x (a::w)with
  |some q=>
   rw[e]at h;cases h;exact zVD h6 hw e
  |none=>
   rw[e]at h;cases e2:stS x w with
   |none=>rw[e2]at h;cases h
   |some q=>
    rw[e2]at h;cases h;have:=zVE (w:=w) (r:=q) h6 (fun b hb=>hw b (H5 _ hb)) e2;exact this
theorem Col.lt(h6:x.zA.length≤6){k:Nat}{w w':List Nat}{tr:Trc}(hc:Col x k w tr w'):∀q∈tr,q.1<base x.zA.length x.zA.length:=by
 induction hc with
 |refl w=>intro q hq;cases hq
 |step hw hs _ ih=>
  intro q hq;rcases Jd.1 hq with rfl|hq
  ·exact zVE h6 (fun a ha=>(hw a ha).2) hs
  ·exact ih q hq
end
section
variable {x:SPr} (h:Pres x) (h6:x.zA.length≤6)
 include h
theorem zLO{d:PD}{t1 t2 u1 u2:Trc}(hk:d.k≤x.zA.length)(a:d.B x t1 t2)(b:d.B x u1 u2):t1=u1∧t2=u2:=by
 obtain⟨⟨v1,y1,rfl,k1⟩,⟨v2,y2,rfl,k2⟩⟩:=a;obtain⟨⟨v3,y3,rfl,k3⟩,⟨v4,y4,rfl,k4⟩⟩:=b;have nn:=fun(y:Vec)(hy:V (suf x d.k) y)=>zF9 h (x.zA.length-d.k) d.k (by omega) y hy
 exact⟨by rw[(Col.det k1.col k3.col (nn _ k1.v) (nn _ k3.v)).1],by rw[(Col.det k2.col k4.col (nn _ k2.v) (nn _ k4.v)).1]⟩
 include h6
theorem zGy:∀d∈cps x,d.k<x.zA.length∧(∀a∈d.wd,a<x.zA.length)∧ ∃t1 t2,d.B x t1 t2∧(∀q∈t1,q.1<base x.zA.length x.zA.length)∧ ∀q∈t2,q.1<base x.zA.length x.zA.length:=by
 have hcon:∀i j,i<j→j<x.zA.length→ ∀a∈nw 0 (lcj x i j),i+1≤a∧a<x.zA.length:=fun i j hi hj=>(tP h (vU h hi hj) (by omega)).2
 have hpow:∀i,i<x.zA.length→ ∀a∈nw 0 (x.zU.getD i []),i+1≤a∧a<x.zA.length:=fun i hi=>(tP h (qO h hi) hi).2
 have hbb:=vO x.zA.length (by omega);have hbl:=fun i(hi:i<x.zA.length)=>zBF x.zA.length (by omega) i hi
 have key:∀(d:PD),d.k<x.zA.length→(∀a∈d.wd,a<x.zA.length)→d.r1<base x.zA.length x.zA.length→d.r2<base x.zA.length x.zA.length→(∀a∈d.w1,d.k≤a∧a<x.zA.length)→(∀a∈d.w2,d.k≤a∧a<x.zA.length)→d.k<x.zA.length∧(∀a∈d.wd,a<x.zA.length)∧ ∃t1 t2,d.B x t1 t2∧(∀q∈t1,q.1<base x.zA.length x.zA.length)∧ ∀q∈t2,q.1<base x.zA.length x.zA.length:=by
  intro d hk hwd b1 b2 c1 c2;obtain⟨u1,y1,k1⟩:=zUp h (x.zA.length-d.k) d.k (by omega) d.w1 c1;obtain⟨u2,y2,k2⟩:=zUp h (x.zA.length-d.k) d.k (by omega) d.w2 c2;refine⟨hk,hwd,_,_,⟨⟨u1,y1,rfl,k1⟩,⟨u2,y2,rfl,k2⟩⟩,fun q hq=>?_,fun q hq=>?_⟩
  ·rcases Jd.1 hq with rfl|hq
   ·exact b1
   ·exact k1.col.lt h6 q hq
  ·rcases Jd.1 hq with rfl|hq
   ·exact b2
   ·exact k2.col.lt h6 q hq
 refine zAG.2 ⟨fun i j k h1 h2 h3=>key _ ?_ ?_ ?_ ?_ ?_ ?_,fun i j h1 h2=>key _ ?_ ?_ ?_ ?_ ?_ ?_,fun i j h1 h2=>key _ ?_ ?_ ?_ ?_ ?_ ?_,fun i h1=>key _ ?_ ?_ ?_ ?_ ?_ ?_⟩
 ·show i<_;omega
 ·intro a ha
  simp only[pd2,Jd,Jb2,or_false]at ha;omega
 ·have:=hbl j (by omega);show base _ j+(k-(j+1))<_;omega
 ·have:=hbl i (by omega);show base _ i+(j-(i+1))<_;omega
 ·intro a ha
  simp only[pd2,Jd,Jj,Jb2,or_false]at ha ⊢
  rcases ha with rfl|ha|rfl
  ·omega
  ·have:=hcon j k (by omega) h3 a ha;omega
  ·omega
 ·intro a ha
  simp only[pd2,Jd]at ha ⊢
  rcases ha with rfl|rfl|ha
  ·omega
  ·omega
  ·have:=hcon i j (by omega) (by omega) a ha;omega
 ·show i<_;omega
 ·intro a ha
  simp only[pd1,Jj,List.mem_singleton]at ha;rcases ha with ha|rfl
  ·have:=Js ha;omega
  ·omega
 ·show j<_;omega
 ·have:=hbl i (by omega);show base _ i+(j-(i+1))<_;omega
 ·intro a ha
  simp only[pd1,Jj,List.mem_singleton]at ha ⊢
  rcases ha with ha|rfl
  ·have:=hpow j h2 a ha;omega
  ·omega
 ·intro a ha
  simp only[pd1,Jj,Jd]at ha ⊢
  rcases ha with ha|rfl|ha
  ·have:=Js ha;omega
  ·omega
  ·have:=hcon i j h1 h2 a ha;omega
 ·show i<_;omega
 ·intro a ha
  simp only[pd4,Jd]at ha;rcases ha with rfl|ha
  ·omega
  ·have:=Js ha;omega
 ·have:=hbl i (by omega);show base _ i+(j-(i+1))<_;omega
 ·show i<_;omega
 ·intro a ha
  simp only[pd4,Jd,Jj]at ha ⊢
  rcases ha with rfl|ha|ha
  ·omega
  ·have:=hcon i j h1 h2 a ha;omega
  ·have:=Js ha;omega
 ·intro a ha
  simp only[pd4,Jd]at ha ⊢
  rcases ha with rfl|ha
  ·omega
  ·have:=hpow i (by omega) a ha;omega
 ·exact h1
 ·intro a ha
  have:=Js (show a∈J1 _ i from ha);omega
 ·show i<_;omega
 ·show i<_;omega
 ·intro a ha
  simp only[pd3,Jj,List.mem_singleton]at ha ⊢
  rcases ha with ha|rfl
  ·have:=hpow i h1 a ha;omega
  ·omega
 ·intro a ha
  simp only[pd3,Jd]at ha ⊢
  rcases ha with rfl|ha
  ·omega
  ·have:=hpow i h1 a ha;omega
end
end Go.Pl

namespace Go.Pl
open Go Go.Ab Go.Wk Go.Pc
theorem zFA{α:Type}{F:α→Vec}{D:Nat}(hF:∀a,(F a).length=D):∀L:List α,((L.map F).flatten).length=L.length*D
 | []=>by simp
 |a::L=>by rw[Ju,Lp,J5,hF,zFA hF L,J6,Jy];omega
theorem zEO{α:Type}{F:α→Vec}{D:Nat}(hF:∀a,(F a).length=D):∀(L:List α)(i j:Nat)(hi:i<L.length),j<D→at0 ((L.map F).flatten) (i*D+j)=at0 (F L[i]) j
 | [],i,j,hi,_=>by simp at hi
 |a::L,i,j,hi,hj=>by
  have hl:=hF a;rw[Ju,Lp];cases i with
  |zero=>
   rw[Hp,Jf,List.getElem_cons_zero,at0,J2,Jm (by omega),←J2]
  |succ i=>
   have ih:=zEO hF L i j (by simpa using hi) hj;rw[List.getElem_cons_succ,←ih,at0,J2,J8 (by rw[hl,Jy];omega),hl,Jy,show i*D+D+j-D=i*D+j from by omega,←J2]
def kQ(p:Int)(D:Nat)(m:zG)(prs:List (Trc×Trc))(k:Nat):List Int:=(prs.map fun q=>prR p D m q.1 q.2 k).flatten
theorem zHT{p:Int}{D k:Nat}{m:zG}(prs:List (Trc×Trc)):(kQ p D m prs k).length=prs.length*D:=zFA (F:=fun q:Trc×Trc=>prR p D m q.1 q.2 k) (fun _=>yC _ _) prs
theorem zSh{p:Int}{D N:Nat}{m:zG}{y:Vec}(hp:2≤p){prs:List (Trc×Trc)}(hl:∀q∈prs,(∀r∈q.1,r.1<N)∧ ∀r∈q.2,r.1<N):
  (∀c,c<prs.length*D→(S (N*D) fun k=>at0 y k*ent (gl (N*D) fun k=>kQ p D m prs k) k c)%p=0)↔ ∀q∈prs,tv p D m (Tc N D y) q.1=tv p D m (Tc N D y) q.2:=by
 have e:∀i j(hi:i<prs.length),j<D→(S (N*D) fun k=>at0 y k*ent (gl (N*D) fun k=>kQ p D m prs k) k (i*D+j))=S (N*D) fun k=>at0 y k*at0 (prR p D m prs[i].1 prs[i].2 k) j:=fun i j hi hj=>by
  refine xG fun k hk=>?_
  show at0 y k*at0 ((gl (N*D) fun k=>kQ p D m prs k).getD k []) (i*D+j)=_;rw[xV hk,kQ,zEO (F:=fun q:Trc×Trc=>prR p D m q.1 q.2 k) (fun _=>yC _ _) prs i j hi hj]
 constructor
 ·intro g q hq
  obtain⟨i,hi,rfl⟩:=G3.1 hq;refine(zON hp (hl _ hq).1 (hl _ hq).2).1 fun j hj=>?_
  rw[←e i j hi hj];exact g _ (jV hi hj)
 ·intro g c hc
  have hD:0<D:=by
   rcases Uc D with h|h
   ·rw[h,Nat.mul_zero]at hc;omega
   ·exact h
  have hi:c/D<prs.length:=(Hn hD).2 hc;have hj:c%D<D:=Gd _ hD;have hm:=Kj hi;rw[show c=c/D*D+c%D from by rw[H2];exact(H8 c D).symm,e _ _ hi hj];exact(zON hp (hl _ hm).1 (hl _ hm).2).2 (g _ hm) _ hj
def tU(x:SPr):List PD→List (Trc×Trc)→Prop
 | [],[]=>True
 |d::ds,q::qs=>d.B x q.1 q.2∧tU x ds qs
 |_,_=>False
theorem tU.len{x:SPr}:{ds:List PD}→{qs:List (Trc×Trc)}→tU x ds qs→ds.length=qs.length
 | [],[],_=>rfl
 |d::ds,q::qs,h=>by rw[J6,J6,tU.len h.2]
 | [],_::_,h=>by simp[tU]at h
 |_::_,[],h=>by simp[tU]at h
theorem tU.all{x:SPr}{φ:Trc×Trc→Prop}:{ds:List PD}→{qs:List (Trc×Trc)}→tU x ds qs→(∀d∈ds,∀t1 t2,d.B x t1 t2→φ (t1,t2))→ ∀q∈qs,φ q
 | [],[],_,_,q,hq=>by cases hq
 |d::ds,q::qs,h,g,r,hr=>by
  rcases Jd.1 hr with rfl|hr
  ·exact g d (by simp) _ _ h.1
  ·exact tU.all h.2 (fun d hd=>g d (H5 _ hd)) r hr
 | [],_::_,h,_,_,_=>by simp[tU]at h
 |_::_,[],h,_,_,_=>by simp[tU]at h
theorem tU.of{x:SPr}{φ:Trc×Trc→Prop}:{ds:List PD}→{qs:List (Trc×Trc)}→tU x ds qs→(∀q∈qs,φ q)→ ∀d∈ds,∃t1 t2,d.B x t1 t2∧φ (t1,t2)
 | [],[],_,_,d,hd=>by cases hd
 |d::ds,q::qs,h,g,r,hr=>by
  rcases Jd.1 hr with rfl|hr
  ·exact⟨q.1,q.2,h.1,g q (by simp)⟩
  ·exact tU.of h.2 (fun q hq=>g q (H5 _ hq)) r hr
 | [],_::_,h,_,_,_=>by simp[tU]at h
 |_::_,[],h,_,_,_=>by simp[tU]at h
section
variable {x:SPr}{m:zG}{D:Nat} (hx:zCy x) (hD:MOk x.zA.length m D)
 include hx hD
theorem zSi{prs:List (Trc×Trc)}(hq:tU x (cps x) prs)(hc:wQ (suf x 0))(hr:zF0 x m D){y:Vec}(hy:Row m.Prime (base x.zA.length x.zA.length*D) y):
  (∀c,c<prs.length*D→(S (base x.zA.length x.zA.length*D) fun k=>at0 y k*ent (gl (base x.zA.length x.zA.length*D) fun k=>kQ m.Prime D m prs k) k c)%m.Prime=0)↔wQ (suf (exx D x m (Tc (base x.zA.length x.zA.length) D y)) 0):=by
 have hp:=hD.p.pos;have hex:=zGy hx.toPres hx.n6;have hlt:∀q∈prs,(∀r∈q.1,r.1<base x.zA.length x.zA.length)∧ ∀r∈q.2,r.1<base x.zA.length x.zA.length:=hq.all fun d hd t1 t2 hb=>by obtain⟨hk,_,u1,u2,hb2,l1,l2⟩:=hex d hd;obtain⟨rfl,rfl⟩:=zLO hx.toPres (by omega) hb hb2;exact⟨l1,l2⟩
 obtain⟨e1,e2⟩:=zVC hx hD hy;rw[zSh (by omega) hlt,←zPA hx.toPres e1 e2 hc hr,zPB];constructor
 ·intro g d hd t1 t2 hb
  obtain⟨u1,u2,hb2,e⟩:=hq.of (φ:=fun q=>tv m.Prime D m (Tc (base x.zA.length x.zA.length) D y) q.1=tv m.Prime D m (Tc (base x.zA.length x.zA.length) D y) q.2) g d hd;obtain⟨rfl,rfl⟩:=zLO hx.toPres (by have:=(hex d hd).1;omega) hb hb2;exact e
 ·intro g
  exact hq.all fun d hd t1 t2 hb=>g d hd t1 t2 hb
theorem zXg:∃prs,tU x (cps x) prs:=by
 have _:=hD;have hex:=zGy hx.toPres hx.n6
 revert hex
 generalize cps x=ds
 intro hex
 induction ds with
 |nil=>exact⟨[],trivial⟩
 |cons d ds ih=>
  obtain⟨qs,hq⟩:=ih fun d hd=>hex d (H5 _ hd)
  obtain⟨_,_,t1,t2,hb,_⟩:=hex d (by simp);exact⟨(t1,t2)::qs,hb,hq⟩
end
end Go.Pl

namespace Go.Pl
open Go Go.Ab Go.Wk Go.Pc
section
variable {x:SPr}{m:zG}{D:Nat} (hD:MOk x.zA.length m D)
 include hD
theorem zPC{N i:Nat}(hi:i<N)(hN:N≤21){T:Mx}:zI (zQc m (T,(i:Int))) (J1 (N*D*D) (0:Int),0)=some (mkv (N*D*D) fun j=>if j/D=i*D+j%D then 1 else 0):=by
 have h1:=hD.d1;have h3:=hD.d3;have hND:N*D≤21*3:=K4 hN h3;have hB:N*D*D≤63*3:=K4 hND h3;have:=zZ (body:=zQc m (T,(i:Int))) (r:=mkv (N*D*D) fun j=>if j/D=i*D+j%D then(1:Int)else 0)
  (fun c=>(mkv (N*D*D) fun j=>if j/D=i*D+j%D∧j%D<c then(1:Int)else 0,(c:Int))) D (fun c hc=>by
  unfold zQc;simp only
  have a1:i*D+D≤N*D:=by rw[←Jy];exact Kg _ hi
  have a2:(i*D+c)*D+D≤N*D*D:=by rw[←Jy];exact Kg _ (by omega)
  have b1:(i:Int)*(D:Int)=((i*D:Nat):Int):=by rw[L5]
  have b2:((i*D+c:Nat):Int)*(D:Int)=(((i*D+c)*D:Nat):Int):=by rw[L5]
  have b3:((i*D:Nat):Int)+(c:Int)=((i*D+c:Nat):Int):=by omega
  have b4:(((i*D+c)*D:Nat):Int)+(c:Int)=(((i*D+c)*D+c:Nat):Int):=by omega
  rw[hD.d,xK hc,zN,b1,zC (by omega) (by omega),bs,b3,zC (by omega) (by omega),bs,b2,zC (by omega) (by omega),bs,b4,zC (by omega) (by omega),bs,xD 0 (by rw[yC];omega),bs,zC (by omega) (by omega),bs,Je,jB,cs]
  congr 3
  refine zX fun j hj=>?_
  have hdm:=H8 j D
  by_cases g:j=(i*D+c)*D+c
  ·have e:=sH (q:=i*D+c) hc
   rw[if_pos g,g,e.1,e.2,if_pos ⟨rfl,by omega⟩]
  ·rw[if_neg g]
   by_cases g2:j/D=i*D+j%D
   ·by_cases g3:j%D<c
    ·rw[if_pos ⟨g2,g3⟩,if_pos ⟨g2,by omega⟩]
    ·rw[if_neg fun z=>g3 z.2]
     refine(if_neg fun z=>g ?_).symm;have:j%D=c:=by omega
     rw[g2,this,H2]at hdm;exact hdm.symm
   ·rw[if_neg fun z=>g2 z.1,if_neg fun z=>g2 z.1]) (by
  unfold zQc;simp only
  rw[hD.d,xX,zL]
  congr 2
  refine zX fun j _=>?_
  have:=Gd j (show 0<D by omega)
  by_cases g2:j/D=i*D+j%D
  ·rw[if_pos ⟨g2,this⟩,if_pos g2]
  ·rw[if_neg fun z=>g2 z.1,if_neg g2])
 rw[show(mkv (N*D*D) fun j=>if j/D=i*D+j%D∧j%D<0 then(1:Int)else 0)=J1 (N*D*D) 0 from by rw[show J1 (N*D*D) (0:Int)=mkv (N*D*D) fun _=>0 from tT _];exact zX fun j _=>if_neg fun z=>Um _ z.2]at this
 exact this
theorem zHU{N:Nat}(hN:N≤21):zI (zTu m (N:Int) ((N*D:Nat):Int)) ([],0)=some (uT N D):=by
 have h1:=hD.d1;have h3:=hD.d3;have hND:N*D≤21*3:=K4 hN h3;have hB:N*D*D≤63*3:=K4 hND h3;refine uQ N (fun i=>mkv (N*D*D) fun j=>if j/D=i*D+j%D then(1:Int)else 0) (fun i acc hi ha=>?_) (fun acc=>?_)
 ·unfold zTu
  simp only
  have b1:((N*D:Nat):Int)*(D:Int)=((N*D*D:Nat):Int):=by rw[L5 (N*D)]
  rw[hD.d,xK hi,zN,b1,zC (by omega) (by omega),bs,xR (by omega),bs,zPC hD hi hN,bs,yO (by simp;omega),bs,zC (by omega) (by omega),bs,cs]
 ·unfold zTu
  simp only
  rw[xX,zL]
theorem zIX{B:Nat}(hB:B≤63){L:Mx}(hL:L.length≤1000)(hr:∀r∈L,r.length=B*D):zI (zTv m ((B:Nat):Int) L) ([],0)=some (gl B fun k=>zDo D k L):=by
 have h1:=hD.d1;have h3:=hD.d3;have hLD:L.length*D≤1000*3:=K4 hL h3;have hBD:B*D≤63*3:=K4 hB h3;refine uQ B (fun k=>zDo D k L) (fun k acc hk ha=>?_) (fun acc=>?_)
 ·unfold zTv
  simp only
  have a1:k*D+D≤B*D:=by rw[←Jy];exact Kg _ hk
  have inner:zI (zQd m L (acc,(k:Int))) ([],0)=some (zDo D k L):=by
   have:=zR7 (body:=zQd m L (acc,(k:Int))) L.length D (fun i=>blk D (L.getD i []) k) [] (fun i hi=>yC _ _) (fun i acc2 hi ha2=>by
    unfold zQd;simp only
    have b0:i*D+D≤L.length*D:=by rw[←Jy];exact Kg _ hi
    have b1:(k:Int)*(D:Int)=((k*D:Nat):Int):=by rw[L5]
    have b2:((k+1:Nat):Int)*(D:Int)=((k*D+D:Nat):Int):=by rw[←L5,Jy]
    have hlen:(L.getD i []).length=B*D:=by rw[J2,J3 hi];exact hr _ (Kj hi)
    simp only[Jw,Jf]at ha2;rw[hD.d,xK hi,zN,xD [] hi,bs,b1,zC (by omega) (by omega),bs,show(k:Int)+1=((k+1:Nat):Int)from by omega,zC (by omega) (by omega),bs,b2,zC (by omega) (by omega),bs,zF4 (by omega),bs,yO (by rw[yC];omega),bs,zC (by omega) (by omega),bs,cs];rfl) (fun acc2=>by
    unfold zQd;simp only
    rw[xX,zL])
   rw[this,Ji,zDo]
   congr 2
   rw[gl];refine Qu (by simp) fun j h1 h2=>?_
   simp only[Jc,Kt]at h1;simp only[Jd7,Q4];rw[J2,J3 h1];rfl
  rw[xK hk,zN,inner,bs,yO (by simp;omega),bs,zC (by omega) (by omega),bs,cs]
 ·unfold zTv
  simp only
  rw[xX,zL]
end
section
variable {x:SPr}{m:zG}{D:Nat} (hx:zCy x) (hD:MOk x.zA.length m D)
 include hx hD
theorem zFY(h0:0<x.zA.length)(hc:wQ (suf x 0))(hr:zF0 x m D):∃K pk,f_m x m=some K∧Red m.Prime (base x.zA.length x.zA.length*D) K pk∧
  ∀y,Row m.Prime (base x.zA.length x.zA.length*D) y→(Sp m.Prime (base x.zA.length x.zA.length*D) K y↔wQ (suf (exx D x m (Tc (base x.zA.length x.zA.length) D y)) 0)):=by
 have h6:=hx.n6;have hb:=vO x.zA.length (by omega);have h1:=hD.d1;have h3:=hD.d3;have hB:base x.zA.length x.zA.length*D≤21*3:=K4 hb.2.1 h3;obtain⟨L,l1,l2,l3,l4⟩:=zSe hx hD h0 hc hr;have hLD:L.length*D≤1000*3:=K4 l2 h3;obtain⟨K,pk,k1,_,k3,k4⟩:=zF2 hD.p (c:=L.length*D) (N:=base x.zA.length x.zA.length*D) (A:=gl (base x.zA.length x.zA.length*D) fun k=>zDo D k L) (by omega) (fun k hk=>by rw[xV hk];refine⟨zLN L,fun j hj=>?_⟩;have hi:j/D<L.length:=(Hn (by omega)).2 hj;have hm:j%D<D:=Gd _ (by omega);have e:=zKc (D:=D) (k:=k) L (j/D) (j%D) hi hm;rw[show j/D*D+j%D=j from by rw[H2];exact H8 j D]at e;rw[e];have hrow:=l3 (L.getD (j/D) []) (by rw[J2,J3 hi];exact Kj hi);exact hrow.2 _ (jV hk hm)) wD
 refine⟨K,pk,?_,k3,fun y hy=>?_⟩
 ·unfold f_m
  have b1:((base x.zA.length x.zA.length:Nat):Int)*(D:Int)=((base x.zA.length x.zA.length*D:Nat):Int):=by rw[L5]
  rw[zH6 rfl h6,bs,hD.d,b1,zC (by omega) (by omega),bs,zHU hD hb.2.1,bs,l1,bs,zIX hD (by omega) l2 (fun r hr=>(l3 r hr).1),bs,show((L.length:Nat):Int)*(D:Int)=((L.length*D:Nat):Int)from by rw[L5],zC (by omega) (by omega),bs,k1,bs]
 ·rw[k4 y,←l4 y hy,←zSf (L:=L)]
end
end Go.Pl

namespace Go.Pl
open Go Go.Ab Go.Wk Go.Pc
theorem tQ{w:List Nat}{t:Nat}(h:t<w.length):ixO (enW w) (t:Int)=some (((w.getD t 0:Nat):Int)+1):=by rw[xD 0 (by simpa using h)];simp only[J2,K0,J3 h];rfl
theorem qK{w:List Nat}{t:Nat}(h:t<w.length):w.drop t=w.getD t 0::w.drop (t+1):=by rw[G8 h,J2,J3 h];rfl
theorem zDd{w:List Nat}{a b:Nat}(h1:a≤b)(h2:b≤w.length):yB (enW w) (a:Int) (b:Int)=some (enW ((w.drop a).take (b-a))):=by unfold yB;rw[if_pos ⟨by omega,by omega,by simp;omega⟩];simp only[Je,enW,Qq,Jcy]
theorem zSj{w:List Nat}{t o:Nat}{L:Int→Option (Int⊕(Unit⊕Bool))}(hL:L=zN5 (enW w) (t:Int) (enW ((w.drop t).take o))∨L=zN6 (enW w) (t:Int) (enW ((w.drop t).take o)))(ht:t<w.length)(ho:t+o≤w.length)(hl:w.length≤1000000):
  zI L 0=some (if decide ((w.drop t).take o=J1 o (w.getD t 0))then .inl ()else .inr false):=by
 have hlen:((w.drop t).take o).length=o:=by rw[Ka,K1];omega
 have hlen2:(enW ((w.drop t).take o)).length=o:=by rw[enW,Jc,hlen]
 have hget:∀i,i<o→((w.drop t).take o).getD i 0=w.getD (t+i) 0:=fun i hi=>by simp only[J2,H3,Ko];rw[if_pos hi]
 have hb:∀i,i<o→L (i:Int)=some (if(w.getD (t+i) 0==w.getD t 0)then .inl ((i+1:Nat):Int)else .inr (.inr false)):=fun i hi=>by
  have e1:ixO (enW ((w.drop t).take o)) (i:Int)=some (((w.getD (t+i) 0:Nat):Int)+1):=by rw[tQ (by omega),hget i hi]
  have e2:(((w.getD (t+i) 0:Nat):Int)+1 != ((w.getD t 0:Nat):Int)+1)= !(w.getD (t+i) 0==w.getD t 0):=by
   by_cases g:w.getD (t+i) 0=w.getD t 0
   ·rw[g];simp
   ·have:(w.getD (t+i) 0==w.getD t 0)=false:=by simpa using g
    rw[this];have g2:((w.getD (t+i) 0:Nat):Int)+1≠((w.getD t 0:Nat):Int)+1:=by omega
    simpa using g2
  rcases hL with rfl|rfl<;>
  ·first|unfold zN5|unfold zN6
   rw[hlen2,xK hi,zN,e1,bs,tQ ht,bs,e2]
   by_cases g:(w.getD (t+i) 0==w.getD t 0)=true
   ·rw[g,Ky,zL,zC (by omega) (by omega),bs,cs];rfl
   ·have g':(w.getD (t+i) 0==w.getD t 0)=false:=by simpa using g
    rw[g',Kw,zN];rfl
 have he:L (o:Int)=some (.inr (.inl ())):=by
  rcases hL with rfl|rfl
  ·unfold zN5
   rw[hlen2,xX,zL]
  ·unfold zN6
   rw[hlen2,xX,zL]
 rw[zIG o (fun i=>w.getD (t+i) 0==w.getD t 0) (fun i hi _=>hb i hi) (fun _=>he)]
 congr 1
 have hiff:(Jl o).all (fun i=>w.getD (t+i) 0==w.getD t 0)=decide ((w.drop t).take o=J1 o (w.getD t 0)):=by
  rw[Bool.eq_iff_iff,Kh,decide_eq_true_iff];constructor
  ·intro g
   refine Qu (by rw[hlen,Jh]) fun i h1 h2=>?_
   have:=g i (Kq.2 (by omega));have e:=hget i (by omega);rw[J2,J3 h1]at e;rw[List.getElem_replicate];simp only[Qh]at e;rw[e];simpa using this
  ·intro g i hi
   have e:=hget i (Kq.1 hi);rw[g,J2,Qv (Kq.1 hi)]at e;simp only[Qh]at e;rw[←e];simp
 rw[hiff]
section
variable {x:SPr} (h:Pres x)
 include h
theorem qU{a:Nat}(ha:a<x.zA.length):ixO x.zA (a:Int)=some ((yH x a:Nat):Int)∧2≤yH x a∧yH x a≤7:=by
 have hp:=(h.os.2 a ha).pos;rw[xD 0 ha];refine⟨?_,zJU h ha,?_⟩
 ·show some (at0 x.zA a)=some (((at0 x.zA a).toNat:Nat):Int)
  rw[Jd8 (by omega)]
 ·show(at0 x.zA a).toNat≤7
  omega
theorem zSk{w:List Nat}{t:Nat}(ht:t<w.length):(pws x (w.drop t)).isSome=decide (t+yH x (w.getD t 0)≤w.length∧(w.drop t).take (yH x (w.getD t 0))=J1 (yH x (w.getD t 0)) (w.getD t 0)):=by
 have _:=h;have hd:=qK ht
 by_cases g:(w.drop t).take (yH x (w.getD t 0))=J1 (yH x (w.getD t 0)) (w.getD t 0)
 ·have hl:=zBu g
  rw[K1]at hl;rw[decide_eq_true ⟨by omega,g⟩];rw[hd]at g ⊢
  simp only[pws];rw[if_pos g];rfl
 ·rw[decide_eq_false fun z=>g z.2]
  rw[hd]at g ⊢
  simp only[pws];rw[if_neg g];rfl
theorem zHV{w:List Nat}(hw:∀a∈w,a<x.zA.length)(hl:w.length≤1000000){t:Nat}(ht:t<w.length):f_B x (enW w) (t:Int)=some (hdS x (w.drop t)).isSome:=by
 have ha:w.getD t 0<x.zA.length:=hw _ (by rw[J2,J3 ht];exact Kj ht);obtain⟨o1,o2,o3⟩:=qU h ha;have hlen:(enW w).length=w.length:=by simp
 have hd:=qK ht;have a1:((w.getD t 0:Nat):Int)+1-1=((w.getD t 0:Nat):Int):=by omega
 have a2:(t:Int)+((yH x (w.getD t 0):Nat):Int)=((t+yH x (w.getD t 0):Nat):Int):=by omega
 have h9:=h.os.1;have fin:∀L:List Int→Int→Option (Int⊕(Unit⊕Bool)),(∀o,L (enW ((w.drop t).take o))=zN5 (enW w) (t:Int) (enW ((w.drop t).take o))∨L (enW ((w.drop t).take o))=zN6 (enW w) (t:Int) (enW ((w.drop t).take o)))→
   (cond (decide (((t+yH x (w.getD t 0):Nat):Int)> ((w.length:Nat):Int))) (some false) ((some ((t+yH x (w.getD t 0):Nat):Int)).bind fun v9=>(yB (enW w) (t:Int) v9).bind fun v10=>(zI (L v10) 0).bind fun r14=>match r14 with|(.inl _)=>some true|(.inr r14)=>some r14))=some (pws x (w.drop t)).isSome:=by
  intro L hL;rw[zSk h ht]
  by_cases g:t+yH x (w.getD t 0)≤w.length
  ·rw[decide_eq_false (by omega),zL,bs,zDd (by omega) g,bs,Hb,zSj (hL _) ht g hl,bs]
   by_cases g2:(w.drop t).take (yH x (w.getD t 0))=J1 (yH x (w.getD t 0)) (w.getD t 0)
   ·rw[decide_eq_true g2,decide_eq_true ⟨g,g2⟩];rfl
   ·rw[decide_eq_false g2,decide_eq_false fun z=>g2 z.2];rfl
  ·rw[decide_eq_true (by omega),zN,decide_eq_false fun z=>g z.1]
 unfold f_B;rw[hlen,zC (by omega) (by omega),bs]
 by_cases g:t+1<w.length
 ·have hd2:=qK g
  rw[decide_eq_true (by omega),zN,tQ ht,bs,bs,show(t:Int)+1=((t+1:Nat):Int)from by omega,tQ g,bs]
  by_cases g2:w.getD (t+1) 0<w.getD t 0
  ·rw[decide_eq_true (by omega),zN,hd,hd2]
   unfold hdS;simp only[swp];rw[if_pos g2];rfl
  ·rw[decide_eq_false (by omega),zL,bs,a1,zC (by omega) (by omega),bs,o1,bs,a2,zC (by omega) (by omega),bs]
   refine(fin (fun v=>zN5 (enW w) (t:Int) v) fun o=>.inl rfl).trans ?_;have:swp x (w.drop t)=none:=by rw[hd,hd2];simp only[swp];rw[if_neg g2]
   unfold hdS;rw[this]
 ·rw[decide_eq_false (by omega),zL,tQ ht,bs,a1,zC (by omega) (by omega),bs,o1,bs,a2,zC (by omega) (by omega),bs]
  refine(fin (fun v=>zN6 (enW w) (t:Int) v) fun o=>.inr rfl).trans ?_;have:swp x (w.drop t)=none:=by rw[hd,H9 (by omega)];rfl
  unfold hdS;rw[this]
end
end Go.Pl

namespace Go.Pl
open Go Go.Ab Go.Wk Go.Pc
def stI(x:SPr):List Nat→Option (Nat×zDU)
 | []=>none
 |a::w=>match hdS x (a::w)with
  |some r=>some (0,r)
  |none=>(stI x w).map fun z=>(z.1+1,z.2)
section
variable {x:SPr}
theorem zKd:∀w:List Nat,stS x w=(stI x w).map fun z=>(z.2.1,z.2.2.1,w.take z.1++z.2.2.2)
 | []=>rfl
 |a::w=>by
  simp only[stS,stI];cases hdS x (a::w)with
  |some r=>rfl
  |none=>
   rw[zKd w];cases stI x w with
   |none=>rfl
   |some z=>rfl
theorem zOO:∀{w:List Nat}{z:Nat×zDU},stI x w=some z→z.1<w.length∧hdS x (w.drop z.1)=some z.2
 | [],_,h=>by cases h
 |a::w,z,h=>by
  simp only[stI]at h;cases e:hdS x (a::w)with
  |some r=>
   rw[e]at h;cases h;exact⟨by simp,e⟩
  |none=>
   rw[e]at h;cases e2:stI x w with
   |none=>rw[e2]at h;cases h
   |some q=>
    rw[e2]at h;cases h;obtain⟨h1,h2⟩:=zOO e2;exact⟨by simpa using h1,by simpa using h2⟩
theorem zLP:∀(k i:Nat)(w:List Nat),i+k=w.length→(L9 i k).findSome? (fun j=>if(hdS x (w.drop j)).isSome then some (j:Int)else none)=(stI x (w.drop i)).map fun z=>((i+z.1:Nat):Int)
 |0,i,w,h=>by rw[H9 (by omega)];rfl
 |k+1,i,w,h=>by
  rw[Jd6,Jby,qK (show i<w.length by omega)];simp only[stI];cases e:hdS x (w.getD i 0::w.drop (i+1))with
  |some r=>rfl
  |none=>
   simp only[Q0,Ga,if_false];rw[zLP k (i+1) w (by omega)];cases stI x (w.drop (i+1))with
   |none=>rfl
   |some z=>
    simp only[Hj]
    congr 2;omega
section
variable (h:Pres x)
 include h
theorem zBv{w:List Nat}(hw:∀a∈w,a<x.zA.length)(hl:w.length≤1000000):f_N x (enW w)=some (match stI x w with|some z=>(z.1:Int)|none=> -1):=by
 have hlen:(enW w).length=w.length:=by simp
 unfold f_N;have:=zIF (body:=zTz x (enW w)) w.length (fun j=>if(hdS x (w.drop j)).isSome then some (j:Int)else none) 0 (Kk _) (fun i _ hi _=>by
  unfold zTz;rw[hlen,xK hi,zN,zHV h hw hl hi,bs];cases hdS x (w.drop i)with
  |some r=>rfl
  |none=>
   simp only[Q0];rw[zL,zC (by omega) (by omega),bs,cs];rfl) (fun _=>by
  unfold zTz;rw[hlen,xX,zL])
 rw[show((0:Nat):Int)=0 from rfl,U7,zLP w.length 0 w (by omega),G4]at this;rw[this,bs];cases stI x w with
 |none=>rfl
 |some z=>simp only[Hj,zLa,Jf]
theorem zHW{v:List Int}(hn:x.zA.length≤6)(hv:zW6 x.zA v):f_v v=some (enW (nw 0 v))∧(nw 0 v).length≤36:=by
 have hb:∀i,i<v.length→0≤at0 v i∧at0 v i≤6:=fun i hi=>by have h1:=hv.2 i hi;have h2:=(h.os.2 i (by have:=hv.1;omega)).pos;omega
 have:=zFy 0 v fun i hi=>(hb i hi).2
 have hl:=hv.1;exact⟨kP (by omega) hb,by omega⟩
theorem zCD(hn:x.zA.length≤6){w:List Nat}(hw:∀a∈w,a<x.zA.length)(hl:w.length≤900000){t:Nat}{r:zDU}(ht:t<w.length)(hr:hdS x (w.drop t)=some r):f_X x (enW w) (t:Int)=some (enW (w.take t++r.2.2)):=by
 have hmem:∀i,i<w.length→w.getD i 0<x.zA.length:=fun i hi=>hw _ (by rw[J2,J3 hi];exact Kj hi)
 have ha:=hmem t ht;obtain⟨o1,o2,o3⟩:=qU h ha;have hlen:(enW w).length=w.length:=by simp
 have hd:=qK ht;have a1:((w.getD t 0:Nat):Int)+1-1=((w.getD t 0:Nat):Int):=by omega
 have a2:(t:Int)+((yH x (w.getD t 0):Nat):Int)=((t+yH x (w.getD t 0):Nat):Int):=by omega
 obtain⟨p1,p2⟩:=zHW h hn (h.tl _ ha).1.1;have h0:yB (enW w) 0 (t:Int)=some (enW (w.take t)):=by have:=zDd (w:=w) (Kk t) (by omega);rw[show((0:Nat):Int)=0 from rfl,G4,U7]at this;exact this
 have hs:∀q,q≤w.length→yB (enW w) (q:Int) (w.length:Int)=some (enW (w.drop q)):=fun q hq=>by rw[zDd hq (Jp _),Jr (by rw[K1];omega)]
 have pw:swp x (w.drop t)=none→(rng (((w.getD t 0:Nat):Int)+1-1)).bind (fun v3=>(yB (enW w) 0 (t:Int)).bind fun v4=>(ixO x.zU v3).bind fun v5=>(f_v v5).bind fun r6=>(ixO x.zA v3).bind fun v7=>(rng ((t:Int)+v7)).bind fun v8=>(yB (enW w) v8 (w.length:Int)).bind fun v9=>(f_u [v4,r6,v9]).bind fun r10=>some r10)=some (enW (w.take t++r.2.2)):=fun hsw=>by
  unfold hdS at hr;rw[hsw]at hr;simp only at hr;rw[hd]at hr;simp only[pws]at hr;split at hr
  ·rename_i g
   have hlo:=zBu g;rw[←hd,K1]at hlo;cases hr;rw[a1,zC (by omega) (by omega),bs,h0,bs,xD [] (by rw[h.pl];exact ha),bs,p1,bs,o1,bs,a2,zC (by omega) (by omega),bs,hs _ (by omega),bs,zAD (by simp) (by simp only[Lp,Hw,J5,Jc,Ka,K1,Jw,J6,enW];omega),bs];simp only[Lp,Hw,J9,enW,Ks];rw[←hd,Jc0]
  ·cases hr
 unfold f_X;rw[hlen,zC (by omega) (by omega),bs]
 by_cases g:t+1<w.length
 ·have hd2:=qK g
  have hb:=hmem _ g;rw[decide_eq_true (by omega),zN,tQ ht,bs,bs,show(t:Int)+1=((t+1:Nat):Int)from by omega,tQ g,bs]
  by_cases g2:w.getD (t+1) 0<w.getD t 0
  ·rw[hd,hd2]at hr
   unfold hdS at hr;simp only[swp]at hr;rw[if_pos g2]at hr;cases hr;have htl:=h.tl _ hb;have hce:=htl.2.2 (w.getD t 0-(w.getD (t+1) 0+1)) (by have:=htl.2.1;omega);obtain⟨q1,q2⟩:=zHW h hn hce.1;have b1:((w.getD (t+1) 0:Nat):Int)+1-1=((w.getD (t+1) 0:Nat):Int):=by omega
   have b2:((w.getD t 0:Nat):Int)-((w.getD (t+1) 0:Nat):Int)-1=((w.getD t 0-(w.getD (t+1) 0+1):Nat):Int):=by omega
   rw[decide_eq_true (by omega),zN,bs,a1,zC (by omega) (by omega),bs,bs,tQ g,bs,b1,zC (by omega) (by omega),bs,h0,bs,zC (by omega) (by omega),bs,xD [] (by rw[h.cl];exact hb),bs,zC (by omega) (by omega),bs,b2,zC (by omega) (by omega),bs,xD [] (by have:=htl.2.1;omega),bs,q1,bs,zC (by omega) (by omega),bs,show(t:Int)+2=((t+2:Nat):Int)from by omega,hs _ (by omega),bs,zAD (by simp) (by simp only[Lp,Hw,J5,Jc,Ka,K1,Jw,J6,enW];omega),bs];simp only[Lp,Hw,J9,enW,Ks,Ju,Jq,Ji]
  ·rw[decide_eq_false (by omega),zL,bs]
   exact pw (by rw[hd,hd2];simp only[swp];rw[if_neg g2])
 ·rw[decide_eq_false (by omega),zL,tQ ht,bs]
  exact pw (by rw[hd,H9 (by omega)];rfl)
end
end
end Go.Pl

namespace Go.Pl
open Go Go.Ab Go.Wk Go.Pc
def smx(p:Int)(D N:Nat)(F:Nat→Nat→Nat→Int):List zS:=gl N fun r=>zS.mk p (D:Int) (gl D fun i=>mkv D fun j=>F r i j%p)
def upd(F:Nat→Nat→Nat→Int)(s:Int)(r0:Nat)(A:Mx)(c:Nat):Nat→Nat→Nat→Int:=fun r i j=>F r i j+if r=r0∧i<c then s*ent A i j else 0
theorem zBw{β:Type}{n:Nat}{f g:Nat→β}(h:∀i,i<n→f i=g i):gl n f=gl n g:=by simp only[gl];exact Qm fun i hi=>h i (Kq.1 hi)
section
variable {x:SPr}{m:zG}{D N:Nat}{s:Int}{r0:Nat}{A:Mx}{T0:List zS}
theorem zFB(hp:Prime m.Prime)(hD:D≤3)(hN:N≤100)(hs:-7≤s∧s≤7)(hr:r0<N)(hA:Mat m.Prime D A){F:Nat→Nat→Nat→Int}{L:(List zS)×Int→Option (((List zS)×Int)⊕(List zS))}
  (hL:L=zTw ⟨x,m,T0⟩ s (r0:Int) (zS.mk m.Prime (D:Int) A)∨L=zTx ⟨x,m,T0⟩ s (r0:Int) (zS.mk m.Prime (D:Int) A)∨L=zTy ⟨x,m,T0⟩ s (r0:Int) (zS.mk m.Prime (D:Int) A)):
  zI L (smx m.Prime D N F,0)=some (smx m.Prime D N (upd F s r0 A D)):=by
 have hp2:=hp.pos;have hAl:=hA.1;have hst:∀c,c<D→ ∀(k:Nat),(c:Int)+1=(k:Int)→((ixO A (c:Int)).bind fun v10=>(ixO (smx m.Prime D N (upd F s r0 A c)) (r0:Int)).bind fun v11=>(ixO v11.Rows (c:Int)).bind fun v12=>(f_s v12 v10 s m.Prime).bind fun r13=>(rng ((c:Int)+1)).bind fun v14=>
   (some (.inl ((smx m.Prime D N (upd F s r0 A c)).set (r0:Int).toNat (zS.mk v11.Prime v11.xN (v11.Rows.set (c:Int).toNat r13)),v14)):Option (((List zS)×Int)⊕(List zS))))=some (.inl (smx m.Prime D N (upd F s r0 A (c+1)),((c+1:Nat):Int))):=fun c hc k _=>by
  have hrow:Row m.Prime D (mkv D fun j=>upd F s r0 A c r0 c j%m.Prime):=⟨yC _ _,fun j hj=>by rw[yG hj];exact⟨Le _ (show m.Prime≠0 by omega),by have:=Kv (upd F s r0 A c r0 c j) (show 0<m.Prime by omega);omega⟩⟩
  rw[xD [] (by omega),bs,smx,zEA hr,bs];simp only
  rw[zEA hc,bs,zBo hp hrow (hA.2 c hc) hs (by omega),bs,zC (by omega) (by omega),bs,Je,Je,zJJ,zJJ,cs]
  congr 3
  refine zBw fun r _=>?_
  by_cases g:r=r0
  ·rw[if_pos g,g]
   congr 1
   refine zBw fun i _=>?_
   by_cases g2:i=c
   ·rw[if_pos g2,g2,tI]
    refine zX fun j hj=>?_
    rw[yG hj,upd,upd,if_neg (fun z=>absurd z.2 (Jc2 c)),if_pos ⟨rfl,Nat.lt_succ_self c⟩,Ha];show(F r0 c j%m.Prime+s*ent A c j)%m.Prime=_;rw[Int.emod_add_emod]
   ·rw[if_neg g2]
    refine zX fun j hj=>?_
    rw[upd,upd]
    by_cases g3:i<c
    ·rw[if_pos ⟨rfl,g3⟩,if_pos ⟨rfl,by omega⟩]
    ·rw[if_neg (fun z=>g3 z.2),if_neg (fun z=>g3 (by omega))]
  ·rw[if_neg g]
   congr 1
   refine zBw fun i _=>zX fun j _=>?_
   rw[upd,upd,if_neg (fun z=>g z.1),if_neg (fun z=>g z.1)]
 have:=zZ (body:=L) (r:=smx m.Prime D N (upd F s r0 A D)) (fun c=>(smx m.Prime D N (upd F s r0 A c),(c:Int))) D (fun c hc=>by
  rcases hL with rfl|rfl|rfl
  ·unfold zTw
   simp only
   rw[show((A.length:Nat):Int)=(D:Int)from by rw[hAl],xK hc,zN];exact hst c hc (c+1) (by omega)
  ·unfold zTx
   simp only
   rw[show((A.length:Nat):Int)=(D:Int)from by rw[hAl],xK hc,zN];exact hst c hc (c+1) (by omega)
  ·unfold zTy
   simp only
   rw[show((A.length:Nat):Int)=(D:Int)from by rw[hAl],xK hc,zN];exact hst c hc (c+1) (by omega)) (by
  rcases hL with rfl|rfl|rfl
  ·unfold zTw
   simp only
   rw[show((A.length:Nat):Int)=(D:Int)from by rw[hAl],xX,zL]
  ·unfold zTx
   simp only
   rw[show((A.length:Nat):Int)=(D:Int)from by rw[hAl],xX,zL]
  ·unfold zTy
   simp only
   rw[show((A.length:Nat):Int)=(D:Int)from by rw[hAl],xX,zL])
 rw[show smx m.Prime D N (upd F s r0 A 0)=smx m.Prime D N F from zBw fun r _=>by
  congr 1
  refine zBw fun i _=>zX fun j _=>?_
  rw[upd,if_neg (fun z=>Um _ z.2),Ha]]at this
 exact this
end
theorem zSl:∀n:Nat,n<7→ ∀j:Nat,j<n→ ∀i:Nat,i<j→((rng ((n:Int)-1)).bind fun v10=>(rng ((i:Int)*v10)).bind fun v11=>(rng ((n:Int)+v11)).bind fun v12=>(rng ((i:Int)-1)).bind fun v13=>(rng ((i:Int)*v13)).bind fun v14=>(uZ v14 2).bind fun v15=>(rng (v12-v15)).bind fun v16=>(rng (v16+(j:Int))).bind fun v17=>(rng (v17-(i:Int))).bind fun v18=>(rng (v18-1)).bind fun v19=>some v19)=some ((base n i+(j-(i+1)):Nat):Int):=by decide+kernel
end Go.Pl

namespace Go.Pl
open Go Go.Ab Go.Wk Go.Pc
section
variable {x:SPr}{m:zG}{D:Nat}{T0:List zS} (h:Pres x) (hn:x.zA.length≤6) (hD:MOk x.zA.length m D)
 include h hn
theorem zGh{w:List Nat}(hw:∀a∈w,a<x.zA.length)(hl:w.length≤900000){t:Nat}{r:zDU}(ht:t<w.length)(hr:hdS x (w.drop t)=some r):zUP ⟨x,m,T0⟩ (enW w) (t:Int)=some (r.1:Int):=by
 have _:=h;have hmem:∀i,i<w.length→w.getD i 0<x.zA.length:=fun i hi=>hw _ (by rw[J2,J3 hi];exact Kj hi)
 have ha:=hmem t ht;have hlen:(enW w).length=w.length:=by simp
 have hd:=qK ht;have a1:((w.getD t 0:Nat):Int)+1-1=((w.getD t 0:Nat):Int):=by omega
 have pw:swp x (w.drop t)=none→(rng (((w.getD t 0:Nat):Int)+1-1)).bind (fun v3=>some v3)=some (r.1:Int):=fun hsw=>by
  unfold hdS at hr;rw[hsw]at hr;simp only at hr;rw[hd]at hr;simp only[pws]at hr;split at hr
  ·cases hr
   rw[a1,zC (by omega) (by omega),bs]
  ·cases hr
 unfold zUP;rw[hlen,zC (by omega) (by omega),bs]
 by_cases g:t+1<w.length
 ·have hd2:=qK g
  have hb:=hmem _ g;rw[decide_eq_true (by omega),zN,tQ ht,bs,bs,show(t:Int)+1=((t+1:Nat):Int)from by omega,tQ g,bs]
  by_cases g2:w.getD (t+1) 0<w.getD t 0
  ·rw[hd,hd2]at hr
   unfold hdS at hr;simp only[swp]at hr;rw[if_pos g2]at hr;cases hr;have b1:((w.getD (t+1) 0:Nat):Int)+1-1=((w.getD (t+1) 0:Nat):Int):=by omega
   rw[decide_eq_true (by omega),zN,bs,a1,zC (n:=((w.getD t 0:Nat):Int)) (by omega) (by omega),bs,bs,tQ g,bs,b1,zC (n:=((w.getD (t+1) 0:Nat):Int)) (by omega) (by omega),bs];exact zSl x.zA.length (by omega) (w.getD t 0) ha (w.getD (t+1) 0) g2
  ·rw[decide_eq_false (by omega),zL,bs]
   exact pw (by rw[hd,hd2];simp only[swp];rw[if_neg g2])
 ·rw[decide_eq_false (by omega),zL,tQ ht,bs]
  exact pw (by rw[hd,H9 (by omega)];rfl)
 include hD
theorem zFC{w:List Nat}(hw:∀a∈w,a<x.zA.length)(hl:w.length≤60000){t:Nat}{r:zDU}(ht:t<w.length)(hr:hdS x (w.drop t)=some r){s:Int}(hs:-7≤s∧s≤7){F:Nat→Nat→Nat→Int}:
  f_k ⟨x,m,smx m.Prime D (base x.zA.length x.zA.length) F⟩ (enW w) (t:Int) s=some (enW (w.take t++r.2.2),⟨x,m,smx m.Prime D (base x.zA.length x.zA.length) (upd F s r.1 (wM m.Prime D m.zQ r.2.1 (idM D)) D)⟩):=by
 have hp:=hD.p.pos;have h3:=hD.d3;have hbb:=vO x.zA.length (by omega);have hmem:∀i,i<w.length→w.getD i 0<x.zA.length:=fun i hi=>hw _ (by rw[J2,J3 hi];exact Kj hi)
 have ha:=hmem t ht;obtain⟨o1,o2,o3⟩:=qU h ha;have hlen:(enW w).length=w.length:=by simp
 have hd:=qK ht;have a1:((w.getD t 0:Nat):Int)+1-1=((w.getD t 0:Nat):Int):=by omega
 have a2:(t:Int)+((yH x (w.getD t 0):Nat):Int)=((t+yH x (w.getD t 0):Nat):Int):=by omega
 have hr0:=zVD hn (fun a ha=>hw a (Jbo ha)) hr;have hA:∀z,Mat m.Prime D (wM m.Prime D m.zQ z (idM D)):=fun z=>zH2 (by omega) _ (qM (by omega))
 have hs':∀q,q≤w.length→yB (enW w) (q:Int) (w.length:Int)=some (enW (w.drop q)):=fun q hq=>by rw[zDd hq (Jp _),Jr (by rw[K1];omega)]
 have hact:∀q,q≤w.length→f_L m (enW (w.drop q))=some (zS.mk m.Prime (D:Int) (wM m.Prime D m.zQ (w.drop q) (idM D))):=fun q hq=>
  zIg hD (by omega) (fun a ha=>hw a (Jbo ha)) (by rw[K1];omega)
 have pw:swp x (w.drop t)=none→r.2.1=w.drop (t+yH x (w.getD t 0))∧t+yH x (w.getD t 0)≤w.length:=fun hsw=>by
  unfold hdS at hr;rw[hsw]at hr;simp only at hr;rw[hd]at hr;simp only[pws]at hr;split at hr
  ·rename_i g
   have hlo:=zBu g;rw[←hd,K1]at hlo;cases hr;exact⟨by rw[←hd,Jc0],by omega⟩
  ·cases hr
 unfold f_k;rw[zGh h hn hw (by omega) ht hr,bs,zCD h hn hw (by omega) ht hr,bs,hlen,zC (by omega) (by omega),bs]
 by_cases g:t+1<w.length
 ·have hd2:=qK g
  have hb:=hmem _ g;rw[decide_eq_false (by omega),zL,tQ ht,bs,bs,show(t:Int)+1=((t+1:Nat):Int)from by omega,tQ g,bs]
  by_cases g2:w.getD (t+1) 0<w.getD t 0
  ·rw[hd,hd2]at hr
   unfold hdS at hr;simp only[swp]at hr;rw[if_pos g2]at hr;cases hr;rw[decide_eq_false (by omega),zL,zC (by omega) (by omega),bs,show(t:Int)+2=((t+2:Nat):Int)from by omega,hs' _ (by omega),bs,hact _ (by omega),bs,zFB hD.p h3 (by omega) hs hr0 (hA _) (.inr (.inr rfl)),bs]
  ·obtain⟨e1,e2⟩:=pw (by rw[hd,hd2];simp only[swp];rw[if_neg g2])
   rw[decide_eq_true (by omega),zN,bs,a1,zC (by omega) (by omega),bs,o1,bs,a2,zC (by omega) (by omega),bs,hs' _ e2,bs,hact _ e2,bs,zFB hD.p h3 (by omega) hs hr0 (hA _) (.inr (.inl rfl)),bs,e1]
 ·obtain⟨e1,e2⟩:=pw (by rw[hd,H9 (by omega)];rfl)
  rw[decide_eq_true (by omega),zN,tQ ht,bs,a1,zC (by omega) (by omega),bs,o1,bs,a2,zC (by omega) (by omega),bs,hs' _ e2,bs,hact _ e2,bs,zFB hD.p h3 (by omega) hs hr0 (hA _) (.inl rfl),bs,e1]
end
end Go.Pl

namespace Go.Pl
open Go Go.Ab Go.Wk Go.Pc
inductive Cb (x:SPr) (M:Nat):List Nat→Trc→List Nat→Prop where
 |refl (w:List Nat) (hl:w.length≤M) (hw:∀a∈w,a<x.zA.length):Cb x M w [] w
 |step {w w1 w' s:List Nat}{r:Nat}{tr:Trc} (hl:w.length≤M) (hw:∀a∈w,a<x.zA.length) (hs:stS x w=some (r,s,w1)) (h:Cb x M w1 tr w'):Cb x M w ((r,s)::tr) w'
theorem Cb.st{x:SPr}{M:Nat}{w w':List Nat}{tr:Trc}(h:Cb x M w tr w'):w.length≤M∧ ∀a∈w,a<x.zA.length:=by
 cases h with
 |refl _ hl hw=>exact⟨hl,hw⟩
 |step hl hw _ _=>exact⟨hl,hw⟩
def zDp(m:zG)(D:Nat)(s:Int):(Nat→Nat→Nat→Int)→Trc→Nat→Nat→Nat→Int
 |F,[]=>F
 |F,(r,z)::tr=>zDp m D s (upd F s r (wM m.Prime D m.zQ z (idM D)) D) tr
theorem zKe{m:zG}{D:Nat}{s:Int}{r i j:Nat}(hi:i<D):∀(tr:Trc)(F:Nat→Nat→Nat→Int),zDp m D s F tr r i j=F r i j+s*zAR m.Prime D m tr r i j
 | [],F=>by rw[zDp,zAR,Ld,Ha]
 |(q,z)::tr,F=>by
  rw[zDp,zKe hi tr,upd,zAR,Ja7,Int.add_assoc]
  congr 2
  by_cases g:q=r
  ·rw[if_pos g,if_pos ⟨g.symm,hi⟩]
  ·rw[if_neg g,if_neg fun z=>g z.1.symm,Ld]
abbrev zNq(x:SPr)(w:List Nat):Int:=match stI x w with
 |some z=>(z.1:Int)
 |none=> -1
section
variable {x:SPr}{m:zG}{D:Nat} (h:Pres x) (hn:x.zA.length≤6) (hD:MOk x.zA.length m D)
 include h hn hD
theorem zKf{s:Int}(hs:-7≤s∧s≤7){w w':List Nat}{tr:Trc}(hc:Cb x 60000 w tr w')(hw':stS x w'=none):∀F:Nat→Nat→Nat→Int,
  zI (zQm s) (x,m,smx m.Prime D (base x.zA.length x.zA.length) F,enW w,zNq x w)=some (x,m,smx m.Prime D (base x.zA.length x.zA.length) (zDp m D s F tr)):=by
 induction hc with
 |refl w hl hw=>
  intro F;have e:zNq x w= -1:=by
   rw[zKd]at hw';unfold zNq;cases g:stI x w with
   |none=>rfl
   |some z=>rw[g]at hw';cases hw'
  rw[xT,e];unfold zQm;simp only
  rw[decide_eq_false (by omega),zL];rfl
 |step hl hw hst hc ih=>
  rename_i w w1 w2 z r tr;intro F;rw[zKd]at hst;cases g:stI x w with
  |none=>rw[g]at hst;cases hst
  |some q=>
   rw[g]at hst;obtain⟨t,q⟩:=q;simp only[Hj,Lb.injEq,Jax.injEq]at hst;obtain⟨e1,e2,e3⟩:=hst;obtain⟨ht,hh⟩:=zOO g;simp only at ht hh;have hc1:=hc.st;have e:zNq x w=(t:Int):=by unfold zNq;rw[g]
   have h1:=zFC h hn hD hw hl ht hh hs (F:=F);rw[e3,e1,e2]at h1;have h2:=zBv h hc1.2 (by omega);rw[xT,e];have hb:zQm s (x,m,smx m.Prime D (base x.zA.length x.zA.length) F,enW w,(t:Int))=some (.inl (x,m,smx m.Prime D (base x.zA.length x.zA.length) (upd F s r (wM m.Prime D m.zQ z (idM D)) D),enW w1,zNq x w1)):=by
    unfold zQm;simp only
    rw[decide_eq_true (by omega),zN];refine(congrArg (fun o=>G9 o _) h1).trans ?_;rw[bs];simp only
    rw[h2,bs]
    try rfl
   rw[hb];simp only
   exact ih hw' _
theorem zEP{s:Int}(hs:-7≤s∧s≤7){w w':List Nat}{tr:Trc}(hc:Cb x 60000 w tr w')(hw':stS x w'=none)(F:Nat→Nat→Nat→Int):
  f_r ⟨x,m,smx m.Prime D (base x.zA.length x.zA.length) F⟩ (enW w) s=some ⟨x,m,smx m.Prime D (base x.zA.length x.zA.length) (zDp m D s F tr)⟩:=by
 have hc1:=hc.st;unfold f_r;rw[show f_N (xM.p ⟨x,m,smx m.Prime D (base x.zA.length x.zA.length) F⟩) (enW w)=some (zNq x w)from zBv h hc1.2 (by omega),bs];have:=zKf h hn hD hs hc hw' F;refine(congrArg (fun o=>G9 o _) this).trans ?_;rw[bs]
end
end Go.Pl

namespace Go.Pl
open Go Go.Ab Go.Wk Go.Pc
inductive Cl (x:SPr) (k M:Nat):List Nat→Trc→List Nat→Prop where
 |refl (w:List Nat) (hl:w.length≤M) (hw:∀a∈w,k≤a∧a<x.zA.length):Cl x k M w [] w
 |step {w w1 w' s:List Nat}{r:Nat}{tr:Trc} (hl:w.length≤M) (hw:∀a∈w,k≤a∧a<x.zA.length) (hs:stS x w=some (r,s,w1)) (h:Cl x k M w1 tr w'):Cl x k M w ((r,s)::tr) w'
theorem Cl.trans{x:SPr}{k M:Nat}{w w1 w2:List Nat}{t1 t2:Trc}(h:Cl x k M w t1 w1)(h2:Cl x k M w1 t2 w2):Cl x k M w (t1++t2) w2:=by
 induction h with
 |refl w=>exact h2
 |step hl hw hs _ ih=>exact .step hl hw hs (ih h2)
theorem Cl.mono{x:SPr}{k M M2:Nat}(hM:M≤M2){w w':List Nat}{tr:Trc}(h:Cl x k M w tr w'):Cl x k M2 w tr w':=by
 induction h with
 |refl w hl hw=>exact .refl _ (by omega) hw
 |step hl hw hs _ ih=>exact .step (by omega) hw hs ih
theorem Cl.cb{x:SPr}{k M:Nat}{w w':List Nat}{tr:Trc}(h:Cl x k M w tr w'):Cb x M w tr w':=by
 induction h with
 |refl w hl hw=>exact .refl _ hl fun a ha=>(hw a ha).2
 |step hl hw hs _ ih=>exact .step hl (fun a ha=>(hw a ha).2) hs ih
theorem Cl.col{x:SPr}{k M:Nat}{w w':List Nat}{tr:Trc}(h:Cl x k M w tr w'):Col x k w tr w':=by
 induction h with
 |refl w hl hw=>exact .refl _
 |step hl hw hs _ ih=>exact .step hw hs ih
section
variable {x:SPr} (h:Pres x)
 include h
theorem zOP:∀(d k:Nat),k+d=x.zA.length→ ∀y,V (suf x k) y→(nw k y).length≤6*d
 |0,k,hk,y,hy=>by
  rw[vP (x:=x) (k:=k) (by omega)]at hy;cases y with
  |nil=>simp[nw]
  |cons b y=>cases hy
 |d+1,k,hk,y,hy=>by
  have hp:=(h.os.2 k (by omega)).pos;rw[yE (x:=x) (by omega)]at hy;cases y with
  |nil=>exact hy.elim
  |cons b y=>
   obtain⟨⟨h1,h2⟩,h3⟩:=hy;have ih:=zOP d (k+1) (by omega) y h3;have h2':b<at0 x.zA k:=h2;simp only[nw,J5,Jh];omega
theorem Cl.ctx{i a M:Nat}(hi:i<x.zA.length)(ha:a<yH x i){s:List Nat}(hs:∀b∈s,i≤b∧b<x.zA.length){w w':List Nat}{tr:Trc}(hc:Cl x (i+1) M w tr w'):
  Cl x i (a+M+s.length) (J1 a i++(w++s)) (tr.map fun q=>(q.1,q.2++s)) (J1 a i++(w'++s)):=by
 have mem:∀{w:List Nat},(∀b∈w,i+1≤b∧b<x.zA.length)→ ∀b∈J1 a i++(w++s),i≤b∧b<x.zA.length:=fun hw b hb=>by
  simp only[Jj]at hb;rcases hb with hb|hb|hb
  ·have:=Js hb;omega
  ·have:=hw b hb;omega
  ·exact hs b hb
 induction hc with
 |refl w hl hw=>exact .refl _ (by simp;omega) (mem hw)
 | @step w w1 w' s1 r tr hl hw hst _ ih=>
  refine .step (by simp;omega) (mem hw) ?_ ih;rw[zDV ha a (Jp _) fun b hb=>?_,zJR (fun b hb=>zJU h (hw b hb).2) hst]
  ·rfl
  ·cases w with
   |nil=>cases hst
   |cons c w=>
    simp only[Jq,Gv,Lb.injEq]at hb;have:=hw c (by simp);omega
theorem zKg(hn:x.zA.length≤6){i j:Nat}(hi:i<j)(hj:j<x.zA.length):(nw 0 (lcj x i j)).length≤36:=(zHW h hn (vU h hi hj).1).2
theorem zOQ(hn:x.zA.length≤6){i:Nat}:∀{ur:List Nat},(∀b∈ur,i+1≤b∧b<x.zA.length)→(cwd x i ur).length≤36*ur.length
 | [],_=>by simp[cwd]
 |l::ur,hu=>by
  have h1:=hu l (by simp);have h2:=zKg h hn (show i<l by omega) h1.2;have ih:=zOQ hn (ur:=ur) fun b hb=>hu b (by simp[hb])
  simp only[cwd,J5,J6];omega
theorem Cl.move(hn6:x.zA.length≤6){i a:Nat}(hi:i<x.zA.length)(ha:a<yH x i):∀{ur:List Nat},(∀b∈ur,i+1≤b∧b<x.zA.length)→stS x ur.reverse=none→ ∀{z:List Nat},(∀b∈z,i≤b∧b<x.zA.length)→
  Cl x i (a+1+37*ur.length+z.length) (J1 a i++(ur.reverse++i::z)) (mtr x i ur z) (J1 (a+1) i++(cwd x i ur++z))
 | [],_,_,z,hz=>by
  have e:J1 a i++(([]:List Nat).reverse++i::z)=J1 (a+1) i++(cwd x i []++z):=by rw[H4];simp[cwd]
  rw[e];refine .refl _ (by simp[cwd]) fun b hb=>?_
  simp only[Jj,cwd,Ji]at hb;rcases hb with hb|hb
  ·have:=Js hb;omega
  ·exact hz b hb
 |l::ur,hu,hn,z,hz=>by
  obtain⟨l1,l2⟩:=hu l (by simp);have hu2:∀b∈ur,i+1≤b∧b<x.zA.length:=fun b hb=>hu b (by simp[hb])
  have hnc:=tP h (vU h (show i<l by omega) l2) hi;have hlc:=zKg h hn6 (show i<l by omega) l2;rw[H0]at hn ⊢
  have hn2:=zFW (fun b hb=>zJU h (hu2 b (by simpa using hb)).2) hn;have hz2:∀b∈nw 0 (lcj x i l)++z,i≤b∧b<x.zA.length:=fun b hb=>by
   simp only[Jj]at hb;rcases hb with hb|hb
   ·have:=hnc.2 b hb;omega
   ·exact hz b hb
  have ih:=(Cl.move hn6 hi ha hu2 hn2 hz2).mono (M2:=a+1+37*(l::ur).length+z.length) (by rw[J5,J6];omega);rw[show cwd x i (l::ur)++z=cwd x i ur++(nw 0 (lcj x i l)++z)from by simp[cwd]];have e1:ur.reverse++[l]++i::z=ur.reverse++l::i::z:=by simp
  rw[e1];refine .step (by simp;omega) (fun b hb=>?_) ?_ ih
  ·simp only[Jj,Jd,Qs]at hb
   rcases hb with hb|hb|hb|hb|hb
   ·have:=Js hb;omega
   ·have:=hu2 b hb;omega
   ·omega
   ·omega
   ·exact hz b hb
  ·rw[zDV ha a (Jp _) fun b hb=>?_,zRS (fun b hb=>by have:=hu2 b (by simpa using hb);omega) (by omega) hn]
   ·rfl
   ·have:b∈ur.reverse++l::i::z:=Jbg (by rw[hb];rfl)
    cases e:ur.reverse with
    |nil=>rw[e]at hb;simp only[Ji,Gv,Lb.injEq]at hb;omega
    |cons c t=>
     rw[e]at hb;simp only[Jq,Gv,Lb.injEq]at hb;have:=hu2 c (by rw[←Qs,e];simp);omega
end
end Go.Pl

namespace Go.Pl
open Go Go.Ab Go.Wk Go.Pc
section
variable {x:SPr} (h:Pres x) (hn:x.zA.length≤6)
 include h hn
theorem zKh{k M W L:Nat}(hk:k<x.zA.length)(P:∀v:List Nat,v.length≤W→(∀a∈v,k+1≤a∧a<x.zA.length)→ ∃tr y,Cl x (k+1) M v tr (nw (k+1) y)∧V (suf x (k+1)) y):∀(z:List Nat),z.length≤L→(∀a∈z,k≤a∧a<x.zA.length)→ ∀(a:Nat),a<yH x k→ ∀(v:List Nat),v.length+z.length≤W→1400+z.length≤W→(∀a∈v,k+1≤a∧a<x.zA.length)→
  ∃tr y,Cl x k (M+L+1500) (J1 a k++(v++z)) tr (nw k y)∧V (suf x k) y
 | [],_,_,a,ha,v,hvl,_,hv=>by
  obtain⟨tr,y,c1,c2⟩:=P v (by simpa using hvl) hv;have ho:=(qU h hk).2.2;have hc:=(Cl.ctx h hk ha (s:=[]) (fun b hb=>by simp at hb) c1).mono (M2:=M+L+1500) (by simp;omega);rw[show(fun q:Nat×List Nat=>(q.1,q.2++[]))=id from by funext q;simp,List.map_id,J9,J9]at hc;refine⟨tr,(a:Int)::y,?_,?_⟩
  ·simp only[nw,Je];rw[J9];exact hc
  ·rw[yE hk]
   refine⟨⟨by omega,?_⟩,c2⟩;show(a:Int)<at0 x.zA k;have:a<(at0 x.zA k).toNat:=ha;omega
 |l::z,hzl,hz,a,ha,v,hvl,hW,hv=>by
  have ho:=(qU h hk).2.2;have hzl2:z.length+1≤L:=by simpa using hzl
  have hvl2:v.length+(z.length+1)≤W:=by simpa using hvl
  have hW2:1400+(z.length+1)≤W:=by simpa using hW
  have hz2:∀b∈z,k≤b∧b<x.zA.length:=fun b hb=>hz b (by simp[hb])
  obtain⟨l1,l2⟩:=hz l (by simp);rcases Jk k l with g|g
  ·obtain⟨tr,y,c1,c2⟩:=zKh (L:=L) hk P z (by omega) hz2 a ha (v++[l]) (by simp;omega) (by omega) (fun b hb=>by
    simp only[Jj,List.mem_singleton]at hb;rcases hb with hb|rfl
    ·exact hv b hb
    ·omega)
   exact⟨tr,y,by rw[Ja]at c1;exact c1,c2⟩
  ·obtain rfl:l=k:=by omega
   obtain⟨tr1,y1,c1,c2⟩:=P v (by omega) hv;have hin:=zOE h (show l+1≤x.zA.length by omega) c2;have hinr:∀b∈(nw (l+1) y1).reverse,l+1≤b∧b<x.zA.length:=fun b hb=>hin b (by simpa using hb)
   have hy1:(nw (l+1) y1).length≤36:=by have:=zOP h (x.zA.length-(l+1)) (l+1) (by omega) y1 c2;omega
   have hcl:(cwd x l (nw (l+1) y1).reverse).length≤1296:=by have:=zOQ h hn hinr;rw[Jaz]at this;omega
   have k1:=(Cl.ctx h hk ha (s:=l::z) hz c1).mono (M2:=M+L+1500) (by simp;omega);have k2:=(Cl.move h hn hk ha hinr (by rw[Km];exact zF9 h _ _ (by omega:l+1+(x.zA.length-(l+1))=x.zA.length) y1 c2) hz2).mono (M2:=M+L+1500) (by rw[Jaz];omega);rw[Km]at k2;have hcw:=zJV h hinr;rcases Jk (a+1) (yH x l)with g2|g2
   ·obtain⟨tr2,y2,d1,d2⟩:=zKh (L:=L) hk P z (by omega) hz2 (a+1) g2 (cwd x l (nw (l+1) y1).reverse) (by omega) (by omega) hcw
    exact⟨_,y2,k1.trans (k2.trans d1),d2⟩
   ·have g4:a+1=yH x l:=by omega
    have hpe:=qO h hk;have hnp:=tP h hpe hk;have hpl:=(zHW h hn hpe.1).2;have hvv:∀b∈nw 0 (x.zU.getD l [])++cwd x l (nw (l+1) y1).reverse,l+1≤b∧b<x.zA.length:=fun b hb=>by
     simp only[Jj]at hb;rcases hb with hb|hb
     ·exact hnp.2 b hb
     ·exact hcw b hb
    obtain⟨tr2,y2,d1,d2⟩:=zKh (L:=L) hk P z (by omega) hz2 0 (by omega) _ (by rw[J5];omega) (by omega) hvv;rw[He,Ji,Ja]at d1;have k3:Cl x l (M+L+1500) (J1 (a+1) l++(cwd x l (nw (l+1) y1).reverse++z)) ((l,cwd x l (nw (l+1) y1).reverse++z)::tr2) (nw l y2):=by
     refine .step (by rw[J5,J5,Jh];omega) (fun b hb=>?_) (by rw[g4];exact zVz (zJU h hk) _) d1;simp only[Jj]at hb;rcases hb with hb|hb|hb
     ·have:=Js hb;omega
     ·have:=hcw b hb;omega
     ·exact hz2 b hb
    exact⟨_,y2,k1.trans (k2.trans k3),d2⟩
def lnB:Nat→Nat→Nat
 |0,l=>l
 |d+1,l=>lnB d (l+1400)+l+1500
theorem zVF:∀(d k:Nat),k+d=x.zA.length→ ∀(L:Nat)(z:List Nat),z.length≤L→(∀a∈z,k≤a∧a<x.zA.length)→ ∃tr y,Cl x k (lnB d L) z tr (nw k y)∧V (suf x k) y
 |0,k,hk,L,z,_,hz=>by
  have:z=[]:=by
   cases z with
   |nil=>rfl
   |cons a z=>have:=hz a (by simp);omega
  subst this;exact⟨[],[],.refl _ (by simp) (by simp),by rw[vP (x:=x) (k:=k) (by omega)];rfl⟩
 |d+1,k,hk,L,z,hl,hz=>by have ho:=zJU h (show k<x.zA.length by omega);obtain⟨tr,y,c1,c2⟩:=zKh h hn (M:=lnB d (L+1400)) (W:=L+1400) (L:=L) (show k<x.zA.length by omega) (fun v hv hvm=>zVF d (k+1) (by omega) (L+1400) v hv hvm) z hl hz 0 (by omega) [] (by simp;omega) (by omega) (fun b hb=>by simp at hb);exact⟨tr,y,by simpa[lnB]using c1,c2⟩
theorem zOR{k L:Nat}(hk:k≤x.zA.length){z:List Nat}(hl:z.length≤L){tr:Trc}{y:Vec}(hc:qD x k z tr y)(hz:∀a∈z,k≤a∧a<x.zA.length):Cb x (lnB (x.zA.length-k) L) z tr (nw k y)∧stS x (nw k y)=none:=by obtain⟨tr2,y2,c1,c2⟩:=zVF h hn (x.zA.length-k) k (by omega) L z hl hz;have n1:=zF9 h (x.zA.length-k) k (by omega) y hc.v;have n2:=zF9 h (x.zA.length-k) k (by omega) y2 c2;obtain⟨e1,e2⟩:=Col.det hc.col c1.col n1 n2;rw[e1,e2];exact⟨c1.cb,n2⟩
end
theorem zXh:∀d:Nat,d<7→lnB d 100≤60000:=by decide
end Go.Pl

namespace Go.Pl
open Go Go.Ab Go.Wk Go.Pc
structure PD.Ok (x:SPr) (d:PD):Prop where
 h1:hdS x (d.wd.drop 0)=some (d.r1,d.s1,d.w1)
 ht:d.t<d.wd.length
 h2:∃q,hdS x (d.wd.drop d.t)=some (d.r2,d.s2,q)∧d.w2=d.wd.take d.t++q
 l:d.wd.length≤9
 l1:d.w1.length≤100
 l2:d.w2.length≤100
 m1:∀a∈d.w1,d.k≤a∧a<x.zA.length
 m2:∀a∈d.w2,d.k≤a∧a<x.zA.length
section
variable {x:SPr} (h:Pres x) (hn:x.zA.length≤6)
 include h hn
theorem zOS{a b:Nat}{s:List Nat}(hab:b<a):hdS x (a::b::s)=some (base x.zA.length b+(a-(b+1)),s,b::(nw 0 (lcj x b a)++s)):=by have _:=h;have _:=hn;unfold hdS;simp only[swp];rw[if_pos hab]
theorem zOT{a:Nat}{s:List Nat}(ha:a<x.zA.length):hdS x (J1 (yH x a) a++s)=some (a,s,nw 0 (x.zU.getD a [])++s):=by
 have _:=hn;obtain⟨q,hq⟩:∃q,yH x a=q+2:=⟨yH x a-2,by have:=(qU h ha).2.1;omega⟩;have e:swp x (J1 (yH x a) a++s)=none:=by rw[hq,Jo,Jo];simp only[Jq,swp];rw[if_neg (Jc2 a)]
 unfold hdS;rw[e];have e2:J1 (yH x a) a++s=a::(J1 (q+1) a++s):=by rw[hq,Jo];rfl
 have e3:(J1 (yH x a) a++s).take (yH x a)=J1 (yH x a) a:=Jn (Jh);have e4:(J1 (yH x a) a++s).drop (yH x a)=s:=K3 (Jh);rw[e2]at e3 e4;rw[e2];simp only[pws];rw[if_pos e3,e4]
theorem zKi:∀d∈cps x,d.Ok x:=by
 have hcon:∀i j,i<j→j<x.zA.length→ ∀a∈nw 0 (lcj x i j),i+1≤a∧a<x.zA.length:=fun i j hi hj=>(tP h (vU h hi hj) (by omega)).2
 have hpow:∀i,i<x.zA.length→ ∀a∈nw 0 (x.zU.getD i []),i+1≤a∧a<x.zA.length:=fun i hi=>(tP h (qO h hi) hi).2
 have lcon:∀i j,i<j→j<x.zA.length→(nw 0 (lcj x i j)).length≤36:=fun i j hi hj=>zKg h hn hi hj
 have lpow:∀i,i<x.zA.length→(nw 0 (x.zU.getD i [])).length≤36:=fun i hi=>(zHW h hn (qO h hi).1).2
 have od:∀i,i<x.zA.length→2≤yH x i∧yH x i≤7:=fun i hi=>(qU h hi).2
 refine zAG.2 ⟨fun i j k h1 h2 h3=>?_,fun i j h1 h2=>?_,fun i j h1 h2=>?_,fun i h1=>?_⟩
 ·have c1:=lcon j k h2 h3
  have c2:=lcon i j h1 (by omega);refine⟨zOS h hn h2,by simp[pd2],⟨i::(nw 0 (lcj x i j)++[]),zOS h hn h1,by simp[pd2]⟩,by simp[pd2],by simp only[pd2,J6,J5,Jw];omega,by simp only[pd2,J6];omega,fun a ha=>?_,fun a ha=>?_⟩
  ·simp only[pd2,Jd,Jj,Jb2,or_false]at ha ⊢
   rcases ha with rfl|ha|rfl
   ·omega
   ·have:=hcon j k (by omega) h3 a ha;omega
   ·omega
  ·simp only[pd2,Jd]at ha ⊢
   rcases ha with rfl|rfl|ha
   ·omega
   ·omega
   ·have:=hcon i j (by omega) (by omega) a ha;omega
 ·have c1:=lpow j h2
  have c2:=lcon i j h1 h2;have o:=od j h2;have e:J1 (yH x j) j++[i]=J1 (yH x j-1) j++[j,i]:=by obtain⟨q,hq⟩:∃q,yH x j=q+1:=⟨yH x j-1,by omega⟩;rw[hq,H4,Jbe,Ja];rfl
  refine⟨zOT h hn h2,by simp only[pd1,J5,Jh,J6,Jw];omega,⟨i::(nw 0 (lcj x i j)++[]),?_,?_⟩,by simp only[pd1,J5,Jh,J6,Jw];omega,by simp only[pd1,J6,J5,Jw];omega,by simp only[pd1,J5,Jh,J6];omega,fun a ha=>?_,fun a ha=>?_⟩
  ·show hdS x ((J1 (yH x j) j++[i]).drop (yH x j-1))=_
   rw[e,K3 (Jh)];exact zOS h hn h1
  ·show _=(J1 (yH x j) j++[i]).take (yH x j-1)++_
   rw[e,Jn (Jh),J9];rfl
  ·simp only[pd1,Jj,List.mem_singleton]at ha ⊢
   rcases ha with ha|rfl
   ·have:=hpow j h2 a ha;omega
   ·omega
  ·simp only[pd1,Jj,Jd]at ha ⊢
   rcases ha with ha|rfl|ha
   ·have:=Js ha;omega
   ·omega
   ·have:=hcon i j h1 h2 a ha;omega
 ·have c1:=lpow i (by omega)
  have c2:=lcon i j h1 h2;have o:=od i (by omega);have e:J1 (yH x i) i=i::J1 (yH x i-1) i:=by obtain⟨q,hq⟩:∃q,yH x i=q+1:=⟨yH x i-1,by omega⟩;rw[hq,Jo,Jbe]
  refine⟨?_,by simp only[pd4,Jh,J6];omega,⟨nw 0 (x.zU.getD i [])++[],?_,by simp[pd4]⟩,by simp only[pd4,Jh,J6];omega,by simp only[pd4,J6,J5,Jh];omega,by simp only[pd4,J6];omega,fun a ha=>?_,fun a ha=>?_⟩
  ·show hdS x (j::J1 (yH x i) i)=_
   rw[e];exact zOS h hn h1
  ·show hdS x (J1 (yH x i) i)=_
   have:=zOT h hn (s:=[]) (show i<x.zA.length by omega);rw[J9]at this;exact this
  ·simp only[pd4,Jd,Jj]at ha ⊢
   rcases ha with rfl|ha|ha
   ·omega
   ·have:=hcon i j h1 h2 a ha;omega
   ·have:=Js ha;omega
  ·simp only[pd4,Jd]at ha ⊢
   rcases ha with rfl|ha
   ·omega
   ·have:=hpow i (by omega) a ha;omega
 ·have c1:=lpow i h1
  have o:=od i h1;refine⟨?_,by simp only[pd3,Jh];omega,⟨nw 0 (x.zU.getD i [])++[],?_,?_⟩,by simp only[pd3,Jh];omega,by simp only[pd3,J6,J5,Jw];omega,by simp only[pd3,J6];omega,fun a ha=>?_,fun a ha=>?_⟩
  ·show hdS x (J1 (yH x i+1) i)=_
   rw[H4];exact zOT h hn h1
  ·show hdS x ((J1 (yH x i+1) i).drop 1)=_
   rw[Jo,List.drop_succ_cons,G4];have:=zOT h hn (s:=[]) h1;rw[J9]at this;exact this
  ·show i::nw 0 (x.zU.getD i [])=(J1 (yH x i+1) i).take 1++_
   rw[Jo,J9];rfl
  ·simp only[pd3,Jj,List.mem_singleton]at ha ⊢
   rcases ha with ha|rfl
   ·have:=hpow i h1 a ha;omega
   ·omega
  ·simp only[pd3,Jd]at ha ⊢
   rcases ha with rfl|ha
   ·omega
   ·have:=hpow i h1 a ha;omega
end
end Go.Pl

namespace Go.Pl
open Go Go.Ab Go.Wk Go.Pc
section
variable {x:SPr}{m:zG}{D:Nat} (h:Pres x) (hn:x.zA.length≤6) (hD:MOk x.zA.length m D)
 include h hn hD
theorem zPD{d:PD}(hd:d∈cps x){t1 t2:Trc}(hb:d.B x t1 t2)(F:Nat→Nat→Nat→Int):
  ((f_k ⟨x,m,smx m.Prime D (base x.zA.length x.zA.length) F⟩ (enW d.wd) ((0:Nat):Int) 1).bind fun r=>(f_r r.2 r.1 1).bind fun k2=>(f_k k2 (enW d.wd) (d.t:Int) (-1)).bind fun r3=>f_r r3.2 r3.1 (-1))=
   some ⟨x,m,smx m.Prime D (base x.zA.length x.zA.length) (zDp m D (-1) (zDp m D 1 F t1) t2)⟩:=by
 have ok:=zKi h hn d hd;obtain⟨hk,hwd,_⟩:=zGy h hn d hd;obtain⟨⟨u1,y1,rfl,k1⟩,⟨u2,y2,rfl,k2⟩⟩:=hb;obtain⟨q,q1,q2⟩:=ok.h2;have hl:=ok.l;have ht:=ok.ht;obtain⟨c1,n1⟩:=zOR h hn (by omega) ok.l1 k1 ok.m1;obtain⟨c2,n2⟩:=zOR h hn (by omega) ok.l2 k2 ok.m2;have up:∀{w w':List Nat}{tr:Trc},Cb x (lnB (x.zA.length-d.k) 100) w tr w'→Cb x 60000 w tr w':=fun{w w' tr} hc=>by
  have hM:=zXh (x.zA.length-d.k) (by omega)
  generalize lnB (x.zA.length-d.k) 100=M at hc hM
  induction hc with
  |refl w hl hw=>exact .refl _ (by omega) hw
  |step hl hw hs _ ih=>exact .step (by omega) hw hs ih
 rw[zFC h hn hD hwd (by omega) (by omega) ok.h1 (s:=1) (by omega) (F:=F),bs];simp only[K6,Ji];rw[zEP h hn hD (by omega) (up c1) n1,bs,zFC h hn hD hwd (by omega) ht q1 (s:=-1) (by omega),bs];simp only
 rw[←q2,zEP h hn hD (by omega) (up c2) n2];rfl
end
theorem zSm{p:Int}{m:zG}{D r i:Nat}(hi:i<D){t1 t2:Trc}(hp:m.Prime=p):(mkv D fun j=>zDp m D (-1) (zDp m D 1 (fun _ _ _=>0) t1) t2 r i j%m.Prime)=prR p D m t1 t2 (r*D+i):=by
 subst hp;have e:=sH (q:=r) hi;rw[prR,e.1,e.2];refine zX fun j _=>?_
 rw[zKe hi,zKe hi]
 congr 1
 omega
end Go.Pl

namespace Go.Pl
open Go Go.Ab Go.Wk Go.Pc
theorem uU{α β:Type}{f:α→List β}{c:Nat}(hf:∀a,(f a).length≤c):∀l:List α,(l.flatMap f).length≤l.length*c
 | []=>by simp
 |a::l=>by have:=uU hf l;have:=hf a;rw[Ln,J5,J6,Jy];omega
theorem zGz{x:SPr}(hn:x.zA.length≤6):(cps x).length≤300:=by
 have hu:∀i,(ups x.zA.length i).length≤6:=fun i=>by rw[ups,Q3];omega
 have h1:=uU (c:=36) (f:=fun i=>(ups x.zA.length i).flatMap fun j=>(ups x.zA.length j).map fun k=>pd2 x i j k) (fun i=>by have:=uU (c:=6) (f:=fun j=>(ups x.zA.length j).map fun k=>pd2 x i j k) (fun j=>by rw[Jc];exact hu j) (ups x.zA.length i);have:=hu i;omega) (Jl x.zA.length)
 have h2:=uU (c:=6) (f:=fun i=>(ups x.zA.length i).map fun j=>pd1 x i j) (fun i=>by rw[Jc];exact hu i) (Jl x.zA.length);have h3:=uU (c:=6) (f:=fun i=>(ups x.zA.length i).map fun j=>pd4 x i j) (fun i=>by rw[Jc];exact hu i) (Jl x.zA.length);rw[Kt]at h1 h2 h3;rw[cps,J5,J5,J5,Jc,Kt];omega
section
variable {x:SPr}{m:zG}{D:Nat} (hx:zCy x) (hD:MOk x.zA.length m D)
 include hx hD
theorem zLQ(h0:0<x.zA.length)(hc:wQ (suf x 0))(hr:zF0 x m D){prs:List (Trc×Trc)}(hq:tU x (cps x) prs):∃K,f_m x m=some K∧
  f_D m.Prime (gl (base x.zA.length x.zA.length*D) fun k=>kQ m.Prime D m prs k) ((prs.length*D:Nat):Int)=some K:=by
 have h6:=hx.n6;have hp:=hD.p.pos;have hb:=vO x.zA.length (by omega);have h3:=hD.d3;have hB:base x.zA.length x.zA.length*D≤21*3:=K4 hb.2.1 h3;have hql:prs.length≤300:=by rw[←hq.len];exact zGz h6
 have hqD:prs.length*D≤300*3:=K4 hql h3;obtain⟨K,pk,k1,k2,k3⟩:=zFY hx hD h0 hc hr;obtain⟨K2,pk2,_,j2,j3,j4⟩:=zF2 hD.p (c:=prs.length*D) (N:=base x.zA.length x.zA.length*D) (A:=gl (base x.zA.length x.zA.length*D) fun k=>kQ m.Prime D m prs k) (by omega) (fun k hk=>by rw[xV hk];refine⟨zHT prs,fun j hj=>?_⟩;have hD0:0<D:=hD.d1;have hi:j/D<prs.length:=(Hn hD0).2 hj;have hm:j%D<D:=Gd _ hD0;have e:=zEO (F:=fun q:Trc×Trc=>prR m.Prime D m q.1 q.2 k) (fun _=>yC _ _) prs (j/D) (j%D) hi hm;rw[show j/D*D+j%D=j from by rw[H2];exact H8 j D]at e;rw[kQ,e,prR,yG hm];exact⟨Le _ (show m.Prime≠0 by omega),by have:=Kv (zAR m.Prime D m (prs[j/D]).1 (k/D) (k%D) (j%D)-zAR m.Prime D m (prs[j/D]).2 (k/D) (k%D) (j%D)) (show 0<m.Prime by omega);omega⟩) wD
 have key:∀y,Row m.Prime (base x.zA.length x.zA.length*D) y→(Sp m.Prime (base x.zA.length x.zA.length*D) K y↔Sp m.Prime (base x.zA.length x.zA.length*D) K2 y):=fun y hy=>by rw[k3 y hy,j4 y,zSi hx hD hq hc hr hy]
 have e:K=K2:=Red.unique (by omega) k2 j3 ⟨fun i hi=>(key _ (k2.row i hi)).1 (qC hi),fun i hi=>(key _ (j3.row i hi)).2 (qC hi)⟩;exact⟨K,k1,by rw[e];exact j2⟩
end
end Go.Pl

namespace Go.Pl
open Go Go.Ab Go.Wk Go.Pc
section
variable {x:SPr}{m:zG}{D:Nat} (h0:x.zA.length=0) (hD:MOk x.zA.length m D)
 include h0 hD
theorem zPE{T:Mx}:f_J ⟨x,m,T⟩=some []:=by
 have _:=hD;unfold f_J;rw[xT];unfold zPY;simp only
 rw[h0,show decide ((0:Int)<((0:Nat):Int))=false from rfl,zL];rfl
theorem zNr:∃K pk,f_m x m=some K∧f_D m.Prime [] 0=some K∧Red m.Prime 0 K pk:=by obtain⟨K,pk,k1,k2,k3,_⟩:=zF2 hD.p (c:=0) (N:=0) (A:=[]) (by omega) (fun i hi=>absurd hi (Um i)) rfl;refine⟨K,pk,?_,k2,k3⟩;unfold f_m;have e1:=zHU hD (N:=0) (by omega);have e2:=zIX hD (B:=0) (L:=[]) (by omega) (by simp) (fun r hr=>by cases hr);rw[Hp]at e1;rw[zH6 h0 (by omega),bs,hD.d,show base 0 0=0 from rfl,show((0:Nat):Int)*(D:Int)=((0:Nat):Int)from by simp,zC (by omega) (by omega),bs,e1,bs,zPE h0 hD,bs,e2,bs,show((([]:Mx).length:Nat):Int)*(D:Int)=((0:Nat):Int)from by simp,zC (by omega) (by omega),bs];rw[show gl 0 (fun k=>zDo D k [])=([]:Mx)from rfl,k1,bs]
end
end Go.Pl

namespace Go.Pl
open Go Go.Ab Go.Wk Go.Pc
theorem zZU{v:Int}:f_i [v] 4=some [v,v,v,v]:=by
 unfold f_i;have h:=zZ (body:=tJ) (r:=[v,v,v,v]) (fun i=>match i with|0=>([v,0,0,0],1)|1=>([v,v,0,0],2)|_=>([v,v,v,v],4)) 2 (fun i hi=>by
  match i,hi with
  |0,_=>simp[tJ,yB,xQ,rng,inR]
  |1,_=>simp[tJ,yB,xQ,rng,inR]) (by simp[tJ])
 rw[show decide ((4:Int)<0)=false from rfl,zL,zMU (by decide+kernel),bs];have hl:xF (IntKind.wrap .i64 4)=some 4:=by decide+kernel
 simp only[hl,bs];rw[show decide ((0:Int)> 0)=false from rfl,zL,show decide ((4:Int)> 9223372036854775807)=false from by decide,zL];have e2:xQ (J1 4 (0:Int)) 0 (([v]:List Int).take ((J1 4 (0:Int)).length-0))=[v,0,0,0]:=by simp[xQ,J1]
 have e3:((min ([v]:List Int).length ((J1 4 (0:Int)).length-0):Nat):Int)=1:=by simp
 rw[e2,e3];have h':zI tJ ([v,0,0,0],1)=_:=h;rw[h',bs]
theorem zZV{v:Int}:f_i [v] 6=some [v,v,v,v,v,v]:=by
 unfold f_i;have h:=zZ (body:=tJ) (r:=[v,v,v,v,v,v]) (fun i=>match i with|0=>([v,0,0,0,0,0],1)|1=>([v,v,0,0,0,0],2)|2=>([v,v,v,v,0,0],4)|_=>([v,v,v,v,v,v],6)) 3 (fun i hi=>by
  match i,hi with
  |0,_=>simp[tJ,yB,xQ,rng,inR]
  |1,_=>simp[tJ,yB,xQ,rng,inR]
  |2,_=>simp[tJ,yB,xQ,rng,inR]) (by simp[tJ])
 rw[show decide ((6:Int)<0)=false from rfl,zL,zMU (by decide+kernel),bs];have hl:xF (IntKind.wrap .i64 6)=some 6:=by decide+kernel
 simp only[hl,bs];rw[show decide ((0:Int)> 0)=false from rfl,zL,show decide ((6:Int)> 9223372036854775807)=false from by decide,zL];have e2:xQ (J1 6 (0:Int)) 0 (([v]:List Int).take ((J1 6 (0:Int)).length-0))=[v,0,0,0,0,0]:=by simp[xQ,J1]
 have e3:((min ([v]:List Int).length ((J1 6 (0:Int)).length-0):Nat):Int)=1:=by simp
 rw[e2,e3];have h':zI tJ ([v,0,0,0,0,0],1)=_:=h;rw[h',bs]
theorem zZW{v:Int}:f_i [v] 8=some [v,v,v,v,v,v,v,v]:=by
 unfold f_i;have h:=zZ (body:=tJ) (r:=[v,v,v,v,v,v,v,v]) (fun i=>match i with|0=>([v,0,0,0,0,0,0,0],1)|1=>([v,v,0,0,0,0,0,0],2)|2=>([v,v,v,v,0,0,0,0],4)|_=>([v,v,v,v,v,v,v,v],8)) 3 (fun i hi=>by
  match i,hi with
  |0,_=>simp[tJ,yB,xQ,rng,inR]
  |1,_=>simp[tJ,yB,xQ,rng,inR]
  |2,_=>simp[tJ,yB,xQ,rng,inR]) (by simp[tJ])
 rw[show decide ((8:Int)<0)=false from rfl,zL,zMU (by decide+kernel),bs];have hl:xF (IntKind.wrap .i64 8)=some 8:=by decide+kernel
 simp only[hl,bs];rw[show decide ((0:Int)> 0)=false from rfl,zL,show decide ((8:Int)> 9223372036854775807)=false from by decide,zL];have e2:xQ (J1 8 (0:Int)) 0 (([v]:List Int).take ((J1 8 (0:Int)).length-0))=[v,0,0,0,0,0,0,0]:=by simp[xQ,J1]
 have e3:((min ([v]:List Int).length ((J1 8 (0:Int)).length-0):Nat):Int)=1:=by simp
 rw[e2,e3];have h':zI tJ ([v,0,0,0,0,0,0,0],1)=_:=h;rw[h',bs]
theorem zAH{β:Type}{body:List β×Int→Option ((List β×Int)⊕List β)}(s n B:Nat)(F:Nat→List β)(a0:List β)(hB:a0.length+((L9 s n).flatMap F).length≤B)
  (h:∀i acc,s≤i→i<s+n→acc.length+(F i).length≤B→body (acc,((i+1:Nat):Int))=some (.inl (acc++F i,((i+1+1:Nat):Int))))(he:∀acc,body (acc,((s+n+1:Nat):Int))=some (.inr acc)):
  zI body (a0,((s+1:Nat):Int))=some (a0++(L9 s n).flatMap F):=by
 have:=zZ (body:=body) (r:=a0++(L9 s n).flatMap F) (fun i=>(a0++(L9 s i).flatMap F,((s+i+1:Nat):Int))) n (fun i hi=>by
  have e:(L9 s (i+1)).flatMap F=(L9 s i).flatMap F++F (s+i):=by rw[List.range'_1_concat,Lx,Ln,Jaf,J9]
  have hle:((L9 s (i+1)).flatMap F).length≤((L9 s n).flatMap F).length:=by obtain⟨k,rfl⟩:∃k,n=i+1+k:=⟨n-(i+1),by omega⟩;have e3:L9 s (i+1+k)=L9 s (i+1)++L9 (s+(i+1)) k:=List.range'_append_1.symm;rw[e3,Lx,J5];omega
  rw[e,J5]at hle;rw[h (s+i) _ (by omega) (by omega) (by rw[J5];omega),e,Ja];rfl) (he _)
 simpa using this
def CPd(d:PD):zJ:=⟨enW d.wd,enW d.w1,enW d.w2⟩
section
variable {x:SPr} (h:Pres x) (hn:x.zA.length≤6)
 include h
theorem zLR{v:Int}{a:Nat}(ha:a<x.zA.length):zMp v ((yH x a:Nat):Int)=some (J1 (yH x a) v):=by
 have hp:=h.os.2 a ha;have e:=(qU h ha).1;have e2:at0 x.zA a=((yH x a:Nat):Int):=by rw[yT ha]at e;exact Lb.inj e
 rw[e2]at hp;unfold zMp;rw[zC8 hp,bs,Je]
theorem zPF{v:Int}{a:Nat}(ha:a<x.zA.length):zMp v (((yH x a+1:Nat)):Int)=some (J1 (yH x a+1) v):=by
 have hp:=h.os.2 a ha;have e:=(qU h ha).1;have e2:at0 x.zA a=((yH x a:Nat):Int):=by rw[yT ha]at e;exact Lb.inj e
 rw[e2]at hp;have:yH x a=2∨yH x a=3∨yH x a=5∨yH x a=7:=by rcases hp with g|g|g|g<;>omega
 unfold zMp;rcases this with g|g|g|g<;>rw[g]
 ·exact(congrArg (fun o=>G9 o _) (zC8 (v:=v) (o:=3) (.inr (.inl rfl)))).trans rfl
 ·exact(congrArg (fun o=>G9 o _) (zZU (v:=v))).trans rfl
 ·exact(congrArg (fun o=>G9 o _) (zZV (v:=v))).trans rfl
 ·exact(congrArg (fun o=>G9 o _) (zZW (v:=v))).trans rfl
 include hn
theorem zEQ{d:PD}(hd:d∈cps x){out:List zJ}(ho:out.length≤100000):f_O (enW d.wd) (d.t:Int) out x=some (out++[CPd d]):=by have ok:=zKi h hn d hd;obtain⟨_,hwd,_⟩:=zGy h hn d hd;obtain⟨q,q1,q2⟩:=ok.h2;have hl:=ok.l;have ht:=ok.ht;unfold f_O;rw[show(0:Int)=((0:Nat):Int)from rfl,zCD h hn hwd (by omega) (by omega) ok.h1,bs,zCD h hn hwd (by omega) ht q1,bs,yO (by simp only[J6,Jw];omega),bs];simp only[K6,Ji];rw[←q2];rfl
end
end Go.Pl

namespace Go.Pl
open Go Go.Ab Go.Wk Go.Pc
theorem zBM{α β:Type}{f:α→β}:∀l:List α,(l.flatMap fun a=>[f a])=l.map f
 | []=>rfl
 |a::l=>by rw[Ln,zBM l];rfl
theorem zAh{N i:Nat}(hN:N≤6):(ups N i).length≤6:=by rw[ups,Q3];omega
section
variable {x:SPr} (h:Pres x) (hn:x.zA.length≤6)
 include h hn
theorem zYY{i j:Nat}(hij:i<j)(hj:j<x.zA.length){o1 o2 out:List zJ}(ho:out.length≤3000):
  zI (zQe x (o1,((i+1:Nat):Int)) (o2,((j+1:Nat):Int))) (out,((j+1+1:Nat):Int))=some (out++(ups x.zA.length j).map fun k=>CPd (pd2 x i j k)):=by
 have hm:=((zAG (x:=x) (φ:=fun d=>d∈cps x)).1 fun d hd=>hd).1;have hu:=zAh (i:=j) hn;have:=zAH (body:=zQe x (o1,((i+1:Nat):Int)) (o2,((j+1:Nat):Int))) (j+1) (x.zA.length-(j+1)) 4000 (fun k=>[CPd (pd2 x i j k)]) out (by rw[zBM,Jc];rw[ups]at hu;omega) (fun k acc hk1 hk2 hb=>by
  unfold zQe;simp only
  have e:([((k+1:Nat):Int),((j+1:Nat):Int),((i+1:Nat):Int)])=enW (pd2 x i j k).wd:=by
   show _=enW [k,j,i];simp only[enW,Ju,Lw]
   congr 1
  rw[decide_eq_true (by omega),zN,e,show(1:Int)=((pd2 x i j k).t:Int)from rfl,zEQ h hn (hm i j k hij (by omega) (by omega)) (by simp only[J6,Jw]at hb;omega),bs,show((k+1:Nat):Int)+((pd2 x i j k).t:Int)=((k+1+1:Nat):Int)from rfl,zC (by omega) (by omega),bs]) (fun acc=>by
  unfold zQe;simp only
  rw[decide_eq_false (by omega),zL])
 rw[zBM]at this;exact this
theorem zYZ{i:Nat}(hi:i<x.zA.length){o1 out:List zJ}(ho:out.length≤2000):
  zI (zQf x (o1,((i+1:Nat):Int))) (out,((i+1+1:Nat):Int))=some (out++(ups x.zA.length i).flatMap fun j=>(ups x.zA.length j).map fun k=>CPd (pd2 x i j k)):=by
 have hu:=zAh (i:=i) hn;have hf:=uU (c:=6) (f:=fun j=>(ups x.zA.length j).map fun k=>CPd (pd2 x i j k)) (fun j=>by rw[Jc];exact zAh hn) (ups x.zA.length i);have:=zAH (body:=zQf x (o1,((i+1:Nat):Int))) (i+1) (x.zA.length-(i+1)) 3000 (fun j=>(ups x.zA.length j).map fun k=>CPd (pd2 x i j k)) out (by rw[ups]at hu hf;omega) (fun j acc hj1 hj2 hb=>by
  unfold zQf;simp only
  rw[decide_eq_true (by omega),zN,show((j+1:Nat):Int)+1=((j+1+1:Nat):Int)from by omega,zC (by omega) (by omega),bs,zYY h hn (by omega) (by omega) (by omega),bs,bs]) (fun acc=>by
  unfold zQf;simp only
  rw[decide_eq_false (by omega),zL])
 exact this
theorem zZa:zI (zQg x) ([],1)=some ((Jl x.zA.length).flatMap fun i=>(ups x.zA.length i).flatMap fun j=>(ups x.zA.length j).map fun k=>CPd (pd2 x i j k)):=by
 have hf:=uU (c:=36) (f:=fun i=>(ups x.zA.length i).flatMap fun j=>(ups x.zA.length j).map fun k=>CPd (pd2 x i j k)) (fun i=>by have:=uU (c:=6) (f:=fun j=>(ups x.zA.length j).map fun k=>CPd (pd2 x i j k)) (fun j=>by rw[Jc];exact zAh hn) (ups x.zA.length i);have:=zAh (i:=i) hn;omega) (Jl x.zA.length)
 rw[Kt]at hf;have:=zAH (body:=zQg x) 0 x.zA.length 2000 (fun i=>(ups x.zA.length i).flatMap fun j=>(ups x.zA.length j).map fun k=>CPd (pd2 x i j k)) [] (by rw[←Lr];simp only[Jw];omega) (fun i acc hi1 hi2 hb=>by
  unfold zQg;simp only
  rw[decide_eq_true (by omega),zN,show((i+1:Nat):Int)+1=((i+1+1:Nat):Int)from by omega,zC (by omega) (by omega),bs,zYZ h hn (by omega) (by omega),bs,bs]) (fun acc=>by
  unfold zQg;simp only
  rw[decide_eq_false (by omega),zL])
 rw[←Lr,Ji]at this;exact this
theorem zZb{i:Nat}(hi:i<x.zA.length){o1 out:List zJ}(ho:out.length≤3000):
  zI (zQh x (o1,((i+1:Nat):Int))) (out,((i+1+1:Nat):Int))=some (out++(ups x.zA.length i).map fun j=>CPd (pd1 x i j)):=by
 have hm:=((zAG (x:=x) (φ:=fun d=>d∈cps x)).1 fun d hd=>hd).2.1;have hu:=zAh (i:=i) hn;have:=zAH (body:=zQh x (o1,((i+1:Nat):Int))) (i+1) (x.zA.length-(i+1)) 4000 (fun j=>[CPd (pd1 x i j)]) out (by rw[zBM,Jc];rw[ups]at hu;omega) (fun j acc hj1 hj2 hb=>by
  have ho:=qU h (show j<x.zA.length by omega);unfold zQh;simp only
  have e:J1 (yH x j) ((j+1:Nat):Int)++[((i+1:Nat):Int)]=enW (pd1 x i j).wd:=by show _=enW (J1 (yH x j) j++[i]);simp only[enW,Ks,Q2,Ju,Lw];rfl
  have et:((yH x j:Nat):Int)-1=((pd1 x i j).t:Int):=by show _=((yH x j-1:Nat):Int);omega
  rw[decide_eq_true (by omega),zN,show((j+1:Nat):Int)-1=(j:Int)from by omega,zC (n:=(j:Int)) (by omega) (by omega),bs,ho.1,bs,zLR h (by omega),bs,yO (by simp only[Jh,J6,Jw];omega),bs,bs,ho.1,bs,zC (n:=((yH x j:Nat):Int)-1) (by omega) (by omega),bs,e,et,zEQ h hn (hm i j (by omega) (by omega)) (by simp only[J6,Jw]at hb;omega),bs,show((j+1:Nat):Int)+1=((j+1+1:Nat):Int)from by omega,zC (by omega) (by omega),bs]) (fun acc=>by
  unfold zQh;simp only
  rw[decide_eq_false (by omega),zL])
 rw[zBM]at this;exact this
theorem zZc{out:List zJ}(ho:out.length≤1000):zI (zQi x) (out,1)=some (out++(Jl x.zA.length).flatMap fun i=>(ups x.zA.length i).map fun j=>CPd (pd1 x i j)):=by
 have hf:=uU (c:=6) (f:=fun i=>(ups x.zA.length i).map fun j=>CPd (pd1 x i j)) (fun i=>by rw[Jc];exact zAh hn) (Jl x.zA.length);rw[Kt]at hf;have:=zAH (body:=zQi x) 0 x.zA.length 2000 (fun i=>(ups x.zA.length i).map fun j=>CPd (pd1 x i j)) out (by rw[←Lr];omega) (fun i acc hi1 hi2 hb=>by
  unfold zQi;simp only
  rw[decide_eq_true (by omega),zN,show((i+1:Nat):Int)+1=((i+1+1:Nat):Int)from by omega,zC (by omega) (by omega),bs,zZb h hn (by omega) (by omega),bs,bs]) (fun acc=>by
  unfold zQi;simp only
  rw[decide_eq_false (by omega),zL])
 rw[←Lr]at this;exact this
theorem zZd{i:Nat}(hi:i<x.zA.length){o1 out:List zJ}(ho:out.length≤3000):
  zI (zQj x (o1,((i+1:Nat):Int))) (out,((i+1+1:Nat):Int))=some (out++(ups x.zA.length i).map fun j=>CPd (pd4 x i j)):=by
 have hm:=((zAG (x:=x) (φ:=fun d=>d∈cps x)).1 fun d hd=>hd).2.2.1;have hu:=zAh (i:=i) hn;have ho:=qU h hi;have:=zAH (body:=zQj x (o1,((i+1:Nat):Int))) (i+1) (x.zA.length-(i+1)) 4000 (fun j=>[CPd (pd4 x i j)]) out (by rw[zBM,Jc];rw[ups]at hu;omega) (fun j acc hj1 hj2 hb=>by
  unfold zQj;simp only
  have e:[((j+1:Nat):Int)]++J1 (yH x i) ((i+1:Nat):Int)=enW (pd4 x i j).wd:=by show _=enW (j::J1 (yH x i) i);simp only[enW,Q2,Ju];rfl
  rw[decide_eq_true (by omega),zN,show((i+1:Nat):Int)-1=(i:Int)from by omega,zC (n:=(i:Int)) (by omega) (by omega),bs,ho.1,bs,zLR h hi,bs,yO (by simp only[Jh,J6,Jw];omega),bs,e,show(1:Int)=((pd4 x i j).t:Int)from rfl,zEQ h hn (hm i j (by omega) (by omega)) (by simp only[J6,Jw]at hb;omega),bs,show((j+1:Nat):Int)+((pd4 x i j).t:Int)=((j+1+1:Nat):Int)from rfl,zC (by omega) (by omega),bs]) (fun acc=>by
  unfold zQj;simp only
  rw[decide_eq_false (by omega),zL])
 rw[zBM]at this;exact this
theorem zZe{out:List zJ}(ho:out.length≤1000):zI (zQk x) (out,1)=some (out++(Jl x.zA.length).flatMap fun i=>(ups x.zA.length i).map fun j=>CPd (pd4 x i j)):=by
 have hf:=uU (c:=6) (f:=fun i=>(ups x.zA.length i).map fun j=>CPd (pd4 x i j)) (fun i=>by rw[Jc];exact zAh hn) (Jl x.zA.length);rw[Kt]at hf;have:=zAH (body:=zQk x) 0 x.zA.length 2000 (fun i=>(ups x.zA.length i).map fun j=>CPd (pd4 x i j)) out (by rw[←Lr];omega) (fun i acc hi1 hi2 hb=>by
  unfold zQk;simp only
  rw[decide_eq_true (by omega),zN,show((i+1:Nat):Int)+1=((i+1+1:Nat):Int)from by omega,zC (by omega) (by omega),bs,zZd h hn (by omega) (by omega),bs,bs]) (fun acc=>by
  unfold zQk;simp only
  rw[decide_eq_false (by omega),zL])
 rw[←Lr]at this;exact this
theorem zZf{out:List zJ}(ho:out.length≤1000):zI (zQl x) (out,1)=some (out++(Jl x.zA.length).map fun i=>CPd (pd3 x i)):=by
 have hm:=((zAG (x:=x) (φ:=fun d=>d∈cps x)).1 fun d hd=>hd).2.2.2;have:=zAH (body:=zQl x) 0 x.zA.length 2000 (fun i=>[CPd (pd3 x i)]) out (by rw[zBM,Jc,Q3];omega) (fun i acc hi1 hi2 hb=>by
  have ho:=qU h (show i<x.zA.length by omega);unfold zQl;simp only
  have e:J1 (yH x i+1) ((i+1:Nat):Int)=enW (pd3 x i).wd:=by show _=enW (J1 (yH x i+1) i);simp only[enW,Q2];rfl
  rw[decide_eq_true (by omega),zN,show((i+1:Nat):Int)-1=(i:Int)from by omega,zC (n:=(i:Int)) (by omega) (by omega),bs,ho.1,bs,show((yH x i:Nat):Int)+1=((yH x i+1:Nat):Int)from by omega,zC (n:=((yH x i+1:Nat):Int)) (by omega) (by omega),bs,zPF h (by omega),bs,e,show(1:Int)=((pd3 x i).t:Int)from rfl,zEQ h hn (hm i (by omega)) (by simp only[J6,Jw]at hb;omega),bs,show((i+1:Nat):Int)+((pd3 x i).t:Int)=((i+1+1:Nat):Int)from rfl,zC (by omega) (by omega),bs]) (fun acc=>by
  unfold zQl;simp only
  rw[decide_eq_false (by omega),zL])
 rw[zBM,←Lr]at this;exact this
theorem zDX:f_e x=some ((cps x).map CPd):=by
 have hl:=zGz (x:=x) hn;have em:(cps x).map CPd=((Jl x.zA.length).flatMap fun i=>(ups x.zA.length i).flatMap fun j=>(ups x.zA.length j).map fun k=>CPd (pd2 x i j k))++(((Jl x.zA.length).flatMap fun i=>(ups x.zA.length i).map fun j=>CPd (pd1 x i j))++(((Jl x.zA.length).flatMap fun i=>(ups x.zA.length i).map fun j=>CPd (pd4 x i j))++(Jl x.zA.length).map fun i=>CPd (pd3 x i))):=by simp only[cps,Ks,List.map_flatMap,Jbp];rfl
 have hl2:((cps x).map CPd).length≤300:=by rw[Jc];exact hl
 rw[em]at hl2;simp only[J5]at hl2;unfold f_e;rw[zZa h hn,bs,zZc h hn (by omega),bs,zZe h hn (by simp only[J5];omega),bs,zZf h hn (by simp only[J5];omega),bs,em];simp only[Ja]
end
end Go.Pl

namespace Go.Pl
open Go Go.Ab Go.Wk Go.Pc
theorem zZX:zXy=zMq:=rfl
theorem zZY:zXz=zMq:=rfl
theorem tU.get{x:SPr}:{ds:List PD}→{qs:List (Trc×Trc)}→tU x ds qs→ ∀k(h1:k<ds.length)(h2:k<qs.length),(ds[k]).B x (qs[k]).1 (qs[k]).2
 | [],[],_,k,h1,_=>by simp at h1
 |d::ds,q::qs,h,0,_,_=>h.1
 |d::ds,q::qs,h,k+1,h1,h2=>by simpa using tU.get h.2 k (by simpa using h1) (by simpa using h2)
 | [],_::_,h,_,_,_=>by simp[tU]at h
 |_::_,[],h,_,_,_=>by simp[tU]at h
theorem zPG{p:Int}{D:Nat}{m:zG}{prs:List (Trc×Trc)}{k q:Nat}(hk:k<prs.length):kQ p D m (prs.take (k+1)) q=kQ p D m (prs.take k) q++prR p D m (prs[k]).1 (prs[k]).2 q:=by simp only[kQ];rw[K8 hk,Ks,Qo];simp
section
variable {x:SPr}{m:zG}{D:Nat} (hD:MOk x.zA.length m D)
 include hD
theorem zZg:zI (zQn ⟨m.Prime,(D:Int),idM D⟩) (idM D,0)=some (gl D fun _=>mkv D fun _=>0):=by
 have h3:=hD.d3;have:=zZ (body:=zQn ⟨m.Prime,(D:Int),idM D⟩) (r:=gl D fun _=>mkv D fun _=>0) (fun i=>(gl D fun a=>mkv D fun j=>if j=a then(if a<i then 0 else 1)else 0,(i:Int))) D (fun i hi=>by
  unfold zQn;simp only
  rw[uC,xK hi,zN,zEA hi,bs,yT (by rw[yC];exact hi),bs,zC (by omega) (by omega),bs];simp only[Je];rw[zJJ,jB]
  congr 3
  refine zBq fun a _=>?_
  by_cases e:a=i
  ·subst e
   rw[if_pos rfl];refine zX fun j _=>?_
   by_cases e2:j=a
   ·rw[if_pos e2,if_pos e2,if_pos (by omega)]
   ·rw[if_neg e2,if_neg e2,if_neg e2]
  ·rw[if_neg e]
   refine zX fun j _=>?_
   by_cases e2:j=a
   ·rw[if_pos e2,if_pos e2]
    by_cases e3:a<i
    ·rw[if_pos e3,if_pos (by omega)]
    ·rw[if_neg e3,if_neg (by omega)]
   ·rw[if_neg e2,if_neg e2]) (by
  unfold zQn;simp only
  rw[uC,xX,zL]
  congr 2
  refine zBq fun a ha=>zX fun j _=>?_
  rw[if_pos ha];split<;>rfl)
 have e:(gl D fun a=>mkv D fun j=>if j=a then(if a<0 then(0:Int)else 1)else 0)=idM D:=zBq fun a _=>zX fun j _=>by
  by_cases e2:j=a
  ·rw[if_pos e2,if_pos e2,if_neg (by omega)]
  ·rw[if_neg e2,if_neg e2]
 rw[e]at this;exact this
theorem zZh{N:Nat}(hN:N≤100):zI (zQo m (N:Int)) ([],0)=some (smx m.Prime D N fun _ _ _=>0):=by
 refine(uQ (body:=zQo m (N:Int)) N (fun _=>zS.mk m.Prime (D:Int) (gl D fun _=>mkv D fun _=>0)) (fun i acc hi ha=>?_) (fun acc=>?_)).trans ?_
 ·unfold zQo
  simp only
  rw[xK hi,zN,hD.d,zAO hD.p (by have:=hD.d3;omega),bs];simp only
  rw[zZg hD,bs,yO (by simp only[J6,Jw];omega),bs,zC (by omega) (by omega),bs];rfl
 ·unfold zQo
  simp only
  rw[xX,zL]
 ·rfl
section
variable {N:Nat}{G:Nat→Nat→Nat→Int}{R:Nat→List Int}
abbrev zD1(p:Int)(D:Nat)(G:Nat→Nat→Nat→Int)(R:Nat→List Int)(k:Nat):List Int:=R k++mkv D fun j=>G (k/D) (k%D) j%p
theorem zZi(hN:N≤100)(hR:∀k,(R k).length≤100000){r:Nat}(hr:r<N){z:Mx}:
  zI (zQp m (z,(r:Int)) ⟨m.Prime,(D:Int),gl D fun i=>mkv D fun j=>G r i j%m.Prime⟩) (gl (N*D) fun k=>if k<r*D then zD1 m.Prime D G R k else R k,0)=some (gl (N*D) fun k=>if k<(r+1)*D then zD1 m.Prime D G R k else R k):=by
 have h3:=hD.d3;have h1:=hD.d1;have hb:(r+1)*D≤N*D:=Kg D (by omega);have hb2:N*D≤100*3:=K4 hN h3;rw[Jy]at hb;have:=zZ (body:=zQp m (z,(r:Int)) ⟨m.Prime,(D:Int),gl D fun i=>mkv D fun j=>G r i j%m.Prime⟩) (r:=gl (N*D) fun k=>if k<(r+1)*D then zD1 m.Prime D G R k else R k) (fun i=>(gl (N*D) fun k=>if k<r*D+i then zD1 m.Prime D G R k else R k,(i:Int))) D (fun i hi=>by
  obtain⟨e1,e2⟩:=sH (q:=r) hi;unfold zQp;simp only
  rw[wD,xK hi,zN,zEA hi,bs,hD.d,←L5,zC (by omega) (by omega),bs,←U0,zC (by omega) (by omega),bs,zEA (show r*D+i<N*D by omega),bs,if_neg (by omega),yO (by rw[yC];have:=hR (r*D+i);omega),bs,zC (by omega) (by omega),bs];simp only[Je];rw[zJJ]
  congr 3
  refine zBq fun k _=>?_
  by_cases e:k=r*D+i
  ·subst e
   rw[if_pos rfl,if_pos (by omega),zD1,e1,e2]
  ·rw[if_neg e]
   by_cases e3:k<r*D+i
   ·rw[if_pos e3,if_pos (by omega)]
   ·rw[if_neg e3,if_neg (by omega)]) (by
  unfold zQp;simp only
  rw[wD,xX,zL,Jy])
 exact this
theorem zZj(hN:N≤100)(hR:∀k,(R k).length≤100000):zI (zMq m ⟨x,m,smx m.Prime D N G⟩) (gl (N*D) R,0)=some (gl (N*D) (zD1 m.Prime D G R)):=by
 have hlen:(smx m.Prime D N G).length=N:=wD;have:=zZ (body:=zMq m ⟨x,m,smx m.Prime D N G⟩) (r:=gl (N*D) (zD1 m.Prime D G R)) (fun i=>(gl (N*D) fun k=>if k<i*D then zD1 m.Prime D G R k else R k,(i:Int))) N (fun i hi=>by
  unfold zMq;simp only
  rw[hlen,xK hi,zN,smx,zEA hi,bs,zZi hD hN hR hi,bs,zC (by omega) (by omega),bs];rfl) (by
  unfold zMq;simp only
  rw[hlen,xX,zL]
  congr 2
  exact zBq fun k hk=>by rw[if_pos hk])
 simp only[Hp,Um,if_false]at this;exact this
end
end
theorem zZk{x:SPr}(h:Pres x):∀d∈cps x,2≤d.wd.length∧((d.wd.getD 0 0=d.wd.getD 1 0∧d.wd.getD (d.wd.length-1) 0≠d.wd.getD 0 0∧d.t=d.wd.length-2)∨(d.wd.getD 0 0=d.wd.getD 1 0∧d.wd.getD (d.wd.length-1) 0=d.wd.getD 0 0∧d.t=1)∨(d.wd.getD 0 0≠d.wd.getD 1 0∧d.t=1)):=by
 refine zAG.2 ⟨fun i j k h1 h2 h3=>?_,fun i j h1 h2=>?_,fun i j h1 h2=>?_,fun i h1=>?_⟩
 ·refine⟨by simp[pd2],.inr (.inr ⟨?_,rfl⟩)⟩
  show k≠j;omega
 ·have o:=(qU h h2).2
  obtain⟨q,hq⟩:∃q,yH x j=q+2:=⟨yH x j-2,by omega⟩;simp only[pd1,hq,J5,Jh,J6,Jw];refine⟨by omega,.inl ⟨rfl,?_,by omega⟩⟩;have:(J1 (q+2) j++[i]).getD (q+2+(0+1)-1) 0=i:=by rw[J2,J8 (by simp)];simp
  rw[this];show i≠j;omega
 ·have o:=(qU h (show i<x.zA.length by omega)).2
  obtain⟨q,hq⟩:∃q,yH x i=q+2:=⟨yH x i-2,by omega⟩;simp only[pd4,hq,Jh,J6];refine⟨by omega,.inr (.inr ⟨?_,trivial⟩)⟩;show j≠i;omega
 ·have o:=(qU h h1).2
  obtain⟨q,hq⟩:∃q,yH x i=q+2:=⟨yH x i-2,by omega⟩;simp only[pd3,hq,Jh];refine⟨by omega,.inr (.inl ⟨rfl,?_,trivial⟩)⟩;have:(J1 (q+2+1) i).getD (q+2+1-1) 0=i:=by rw[J2];simp
  rw[this];rfl
section
variable {x:SPr}{m:zG}{D:Nat} (h:Pres x) (hn:x.zA.length≤6) (hD:MOk x.zA.length m D)
 include h hn hD
theorem zUu{prs:List (Trc×Trc)}(hq:tU x (cps x) prs){k:Nat}(hk:k<(cps x).length){N:Nat}(hN:N=base x.zA.length x.zA.length):
  zQq x m (N:Int) ((cps x).map CPd) (gl (N*D) (fun q=>kQ m.Prime D m (prs.take k) q),(k:Int))=some (.inl (gl (N*D) (fun q=>kQ m.Prime D m (prs.take (k+1)) q),((k+1:Nat):Int))):=by
 subst hN;have hl:=hq.len;have hd:=Kj hk;have hk2:k<prs.length:=by omega
 have hbb:=vO x.zA.length (by omega);have h3:=hD.d3;have h1:=hD.d1;have hcl:=zGz (x:=x) hn;have hpr:=zPD h hn hD hd (hq.get k hk hk2) (fun _ _ _=>0);obtain⟨w2,ht⟩:=zZk h _ hd;have hlw:=(zKi h hn _ hd).l;have htl:=(zKi h hn _ hd).ht;have hR:∀q,(kQ m.Prime D m (prs.take k) q).length≤100000:=fun q=>by rw[zHT,Ka];have:min k prs.length*D≤300*3:=K4 (by omega) h3;omega
 have hrows:=zZj (x:=x) (G:=zDp m D (-1) (zDp m D 1 (fun _ _ _=>0) (prs[k]).1) (prs[k]).2) hD (show base x.zA.length x.zA.length≤100 by omega) hR;have erow:gl (base x.zA.length x.zA.length*D) (zD1 m.Prime D (zDp m D (-1) (zDp m D 1 (fun _ _ _=>0) (prs[k]).1) (prs[k]).2) (fun q=>kQ m.Prime D m (prs.take k) q))=gl (base x.zA.length x.zA.length*D) fun q=>kQ m.Prime D m (prs.take (k+1)) q:=zBq fun q _=>by have hm:q%D<D:=Gd _ (by omega);rw[zPG hk2,zD1,zSm hm rfl,show q/D*D+q%D=q from by rw[H2];exact H8 q D]
 rw[erow]at hrows;have hix:ixO ((cps x).map CPd) (k:Int)=some (CPd (cps x)[k]):=by rw[zAB (by rw[Jc];exact hk)];simp
 generalize (cps x)[k]=d at*
 have key:∀K:xM→Option ((Mx×Int)⊕Mx),((f_k ⟨x,m,smx m.Prime D (base x.zA.length x.zA.length) fun _ _ _=>0⟩ (enW d.wd) 0 1).bind fun r=>(f_r r.2 r.1 1).bind fun k2=>(f_k k2 (enW d.wd) (d.t:Int) (-1)).bind fun r3=>(f_r r3.2 r3.1 (-1)).bind K)=K ⟨x,m,smx m.Prime D (base x.zA.length x.zA.length) (zDp m D (-1) (zDp m D 1 (fun _ _ _=>0) (prs[k]).1) (prs[k]).2)⟩:=fun K=>by have e:=congrArg (fun o=>G9 o K) hpr;simp only[Option.bind_assoc,bs]at e;exact e
 unfold zQq;simp only
 rw[Jc,xK hk,zN,hix,bs,zZh hD (by omega),bs];simp only[CPd];have i0:=tQ (w:=d.wd) (t:=0) (by omega);have i1:=tQ (w:=d.wd) (t:=1) (by omega);have il:=tQ (w:=d.wd) (t:=d.wd.length-1) (by omega);rw[show((0:Nat):Int)=0 from rfl]at i0;rw[show((1:Nat):Int)=1 from rfl]at i1;rw[i0,bs,i1,bs,Jc];rcases ht with⟨t1,t2,t3⟩|⟨t1,t2,t3⟩|⟨t1,t3⟩
 ·rw[show((((d.wd.getD 0 0:Nat):Int)+1)==(((d.wd.getD 1 0:Nat):Int)+1))=true from by rw[t1];exact beq_self_eq_true _,zN,zC (by omega) (by omega),bs,show(d.wd.length:Int)-1=((d.wd.length-1:Nat):Int)from by omega,il,bs,show((((d.wd.getD (d.wd.length-1) 0:Nat):Int)+1) != (((d.wd.getD 0 0:Nat):Int)+1))=true from by rw[bne_iff_ne];omega,zN,zC (by omega) (by omega),bs,show(d.wd.length:Int)-2=(d.t:Int)from by omega,key,hrows,bs,zC (by omega) (by omega),bs]
  rfl
 ·rw[show((((d.wd.getD 0 0:Nat):Int)+1)==(((d.wd.getD 1 0:Nat):Int)+1))=true from by rw[t1];exact beq_self_eq_true _,zN,zC (by omega) (by omega),bs,show(d.wd.length:Int)-1=((d.wd.length-1:Nat):Int)from by omega,il,bs,show((((d.wd.getD (d.wd.length-1) 0:Nat):Int)+1) != (((d.wd.getD 0 0:Nat):Int)+1))=false from by rw[t2];exact bne_self_eq_false _,zL]
  rw[t3]at key;rw[show(1:Int)=((1:Nat):Int)from rfl]at*
  rw[key,zZX,hrows,bs,zC (by omega) (by omega),bs];rfl
 ·rw[show((((d.wd.getD 0 0:Nat):Int)+1)==(((d.wd.getD 1 0:Nat):Int)+1))=false from by rw[beq_eq_false_iff_ne];omega,zL]
  rw[t3]at key;rw[show(1:Int)=((1:Nat):Int)from rfl]at*
  rw[key,zZY,hrows,bs,zC (by omega) (by omega),bs];rfl
end
end Go.Pl

namespace Go.Pl
open Go Go.Ab Go.Wk Go.Pc
section
variable {x:SPr}{m:zG}{D:Nat} (hx:zCy x) (hD:MOk x.zA.length m D)
 include hx hD
theorem zIj(hc:wQ (suf x 0))(hr:zF0 x m D):∃K pk,f_m x m=some K∧f_f x m=some K∧Red m.Prime (base x.zA.length x.zA.length*D) K pk:=by
 have h6:=hx.n6;have h3:=hD.d3;have h1:=hD.d1;have hbb:=vO x.zA.length (by omega);have hbD:base x.zA.length x.zA.length*D≤21*3:=K4 hbb.2.1 h3;obtain⟨prs,hq⟩:=zXg hx hD;have hl:=hq.len;have hcl:=zGz (x:=x) h6;have hloop:=zZ (body:=zQq x m ((base x.zA.length x.zA.length:Nat):Int) ((cps x).map CPd)) (r:=gl (base x.zA.length x.zA.length*D) (fun q=>kQ m.Prime D m prs q)) (fun k=>(gl (base x.zA.length x.zA.length*D) (fun q=>kQ m.Prime D m (prs.take k) q),(k:Int))) (cps x).length (fun k hk=>zUu hx.toPres h6 hD hq hk rfl) (by
  unfold zQq;simp only
  rw[Jc,xX,zL,hl,Hg])
 have e0:gl (base x.zA.length x.zA.length*D) (fun q=>kQ m.Prime D m (prs.take 0) q)=J1 (base x.zA.length x.zA.length*D) ([]:List Int):=by simp only[K6,kQ,Lw,Hw];rw[List.eq_replicate_iff];exact⟨wD,fun b hb=>by obtain⟨i,_,rfl⟩:=Jt.1 hb;rfl⟩
 rw[e0]at hloop;have hpre:f_f x m=cond (decide (((gl (base x.zA.length x.zA.length*D) (fun q=>kQ m.Prime D m prs q)).length:Int)> 0)) (
   (ixO (gl (base x.zA.length x.zA.length*D) (fun q=>kQ m.Prime D m prs q)) 0).bind fun v32=>(f_D m.Prime (gl (base x.zA.length x.zA.length*D) (fun q=>kQ m.Prime D m prs q)) (v32.length:Int)).bind fun r33=>some r33) (
   (f_D m.Prime (gl (base x.zA.length x.zA.length*D) (fun q=>kQ m.Prime D m prs q)) 0).bind fun r34=>some r34):=by
  unfold f_f;rw[zNd rfl h6,bs,hD.d,←L5,zC (by omega) (by omega),bs,xR (by omega),bs,zDX hx.toPres h6,bs];rw[show((0:Nat):Int)=0 from rfl]at hloop;rw[hloop,bs]
 rcases Uc x.zA.length with h0|h0
 ·obtain⟨K,pk,k1,k2,k3⟩:=zNr h0 hD
  refine⟨K,pk,k1,?_,?_⟩
  ·rw[hpre,h0,show base 0 0=0 from rfl,Hp]
   simp only[gl,Q5,Lw,Jw];rw[show decide (((0:Nat):Int)> 0)=false from rfl,zL,k2,bs]
  ·rw[h0,show base 0 0=0 from rfl,Hp];exact k3
 ·obtain⟨K,pk,k1,k2,_⟩:=zFY hx hD h0 hc hr
  obtain⟨K2,j1,j2⟩:=zLQ hx hD h0 hc hr hq;rw[k1]at j1;cases j1;refine⟨K,pk,k1,?_,k2⟩;have hpos:0<base x.zA.length x.zA.length*D:=Jbz (by omega) h1;rw[hpre,wD,decide_eq_true (by omega),zN,show(0:Int)=((0:Nat):Int)from rfl,zEA hpos,bs,zHT,j2,bs]
end
end Go.Pl

namespace Go.Pl
open Go Go.Ab Go.Wk Go.Pc
end Go.Pl

namespace Go.Pl
open Go Go.Ab Go.Wk Go.Pc
theorem zSn{n D:Nat}{v:List Int}(hD:1≤D)(hl:v.length=n*D):(zEE n D v).flatten=v:=by
 have hF:∀i:Nat,(mkv D fun j=>at0 v (i*D+j)).length=D:=fun i=>yC _ _
 have h1:(zEE n D v).flatten.length=n*D:=by have:=zFA (F:=fun i=>mkv D fun j=>at0 v (i*D+j)) hF (Jl n);rw[Kt]at this;exact this
 refine(vR h1).trans (((zX fun k hk=>?_)).trans (vR hl).symm);have hi:k/D<n:=(Hn (by omega)).2 hk;have hm:k%D<D:=Gd _ (by omega);have e:=zEO (F:=fun i=>mkv D fun j=>at0 v (i*D+j)) hF (Jl n) (k/D) (k%D) (by rw[Kt];exact hi) hm;rw[show k/D*D+k%D=k from by rw[H2];exact H8 k D]at e;rw[Q4,yG hm,show k/D*D+k%D=k from by rw[H2];exact H8 k D]at e;exact e
section
variable {x:SPr}{m:zG}{D:Nat} (hx:zCy x) (hD:MOk x.zA.length m D)
 include hx hD
theorem zPH:∃R pv,zTr x m=some R∧Red m.Prime (base x.zA.length x.zA.length*D) R pv∧base x.zA.length x.zA.length*D≤63∧ ∀v,Row m.Prime (base x.zA.length x.zA.length*D) v→
  Row m.Prime (base x.zA.length x.zA.length*D) (cl m.Prime (base x.zA.length x.zA.length*D) R pv v R.length)∧f_T m.Prime R v=some (cl m.Prime (base x.zA.length x.zA.length*D) R pv v R.length)∧
  zTt x m v=some (zEE (base x.zA.length x.zA.length) D (cl m.Prime (base x.zA.length x.zA.length*D) R pv v R.length)):=by
 have h3:=hD.d3;obtain⟨R,pv,r1,r2,r3,r4,r5,r6⟩:=zNj hx hD;refine⟨R,pv,r1,r4,r6,fun v hv=>?_⟩;have hcl:=zJI hD.p (by omega) r4 hv R.length;refine⟨hcl,zH4 hD.p (by omega) r4 hv (by omega),?_⟩;unfold zTt zXx;rw[r2,bs,r3,bs,bs,zH7 hD.p (by omega) r4 hv (by omega),bs,hD.d,zHA hD.d1 hcl.1 (by omega),bs]
theorem zNs{v:List Int}(hv:Row m.Prime (base x.zA.length x.zA.length*D) v):f_u (zEE (base x.zA.length x.zA.length) D v)=some v:=by have h6:=hx.n6;have h3:=hD.d3;have hb:=vO x.zA.length (by omega);have hrD:base x.zA.length x.zA.length*D≤21*3:=K4 hb.2.1 h3;have e:=zSn hD.d1 hv.1;rw[zAD (by have:(zEE (base x.zA.length x.zA.length) D v).length=base x.zA.length x.zA.length:=wD;omega) (by rw[e,hv.1];omega),e]
theorem zKj(hc:wQ (suf x 0))(hr:zF0 x m D):∃C pc K rows,zUS x m=some C∧f_f x m=some K∧zI (zJb x m K) ([],0)=some rows∧f_j m.Prime rows=some C∧Red m.Prime (base x.zA.length x.zA.length*D) C pc∧base x.zA.length x.zA.length*D≤63:=by
 obtain⟨R,pv,r1,r2,r3,r4⟩:=zPH hx hD;obtain⟨K,pk,k1,k2,k3⟩:=zIj hx hD hc hr;have hK:=k3.len_le;have hl:(gl K.length fun i=>cl m.Prime (base x.zA.length x.zA.length*D) R pv (K.getD i []) R.length).length=K.length:=wD;obtain⟨C,pc,c1,c2,c3,_⟩:=kL hD.p (n:=base x.zA.length x.zA.length*D) (rows:=gl K.length fun i=>cl m.Prime (base x.zA.length x.zA.length*D) R pv (K.getD i []) R.length) (by omega) (by omega) (fun i hi=>by rw[hl]at hi;rw[xV hi];exact(r4 _ (k3.row i hi)).1)
 refine⟨C,pc,K,_,?_,k2,?_,c2,c3,r3⟩
 ·unfold zUS
  rw[r1,bs,k1,bs,uQ (body:=zMr m R K) K.length (fun i=>cl m.Prime (base x.zA.length x.zA.length*D) R pv (K.getD i []) R.length) (fun i acc hi ha=>by
   unfold zMr;simp only
   rw[xK hi,zN,xD [] hi,bs,(r4 _ (k3.row i hi)).2.1,bs,yO (by simp only[J6,Jw];omega),bs,zC (by omega) (by omega),bs];rfl) (fun acc=>by
   unfold zMr;simp only
   rw[xX,zL]),bs]
  show(f_p m.Prime (gl K.length _)).bind _=_;rw[c1,bs]
 ·exact uQ (body:=zJb x m K) K.length (fun i=>cl m.Prime (base x.zA.length x.zA.length*D) R pv (K.getD i []) R.length) (fun i acc hi ha=>by
   unfold zJb;simp only
   rw[xK hi,zN,xD [] hi,bs,(r4 _ (k3.row i hi)).2.2,bs,zNs hx hD (r4 _ (k3.row i hi)).1,bs,yO (by simp only[J6,Jw];omega),bs,zC (by omega) (by omega),bs];rfl) (fun acc=>by
   unfold zJb;simp only
   rw[xX,zL])
end
end Go.Pl

namespace Go.Pl
open Go Go.Ab Go.Wk Go.Pc
end Go.Pl

namespace Go.Pl
open Go Go.Ab Go.Wk Go.Pc
def zSo(x:SPr):Prop:=0<x.zA.length∧ ∀i,i<x.zA.length→at0 x.zA i=at0 x.zA 0
theorem zLS{x:SPr}(h0:0<x.zA.length)(hl:x.zA.length≤1048576){f:Option Bool}{body:Int→Option (Int⊕(Unit⊕Bool))}(hf:f=(zI body 0).bind fun r=>match r with|.inl _=>some true|.inr r=>some r)
  (hb:∀s,body s=cond (decide (s<(x.zA.length:Int))) ((ixO x.zA s).bind fun v2=>(ixO x.zA 0).bind fun v3=>cond (v2 != v3) (some (.inr (.inr false))) ((rng (s+1)).bind fun v4=>some (.inl v4))) (some (.inr (.inl ())))):IsB f (zSo x):=by
 refine(zDL (body:=body) x.zA.length (fun i=>at0 x.zA i=at0 x.zA 0) hf (fun i hi _=>?_) ?_).iff ⟨fun g=>⟨h0,g⟩,fun g=>g.2⟩
 ·rw[hb,xK hi,zN,yT hi,bs,show(0:Int)=((0:Nat):Int)from rfl,yT h0,bs]
  by_cases g:at0 x.zA i=at0 x.zA 0
  ·rw[zCx g,zL,zC (by omega) (by omega),bs]
   exact .inl ⟨rfl,g⟩
  ·rw[zBU g,zN]
   exact .inr ⟨rfl,g⟩
 ·rw[hb,xX,zL]
theorem zIk{x:SPr}(hl:x.zA.length≤1048576):IsB (zUQ x) (jT x∧zSo x):=by
 unfold zUQ;rcases zHw hl with⟨h1,h2⟩|⟨h1,h2⟩
 ·rw[h1,bs,Ky,zL]
  by_cases h0:0<x.zA.length
  ·rw[show(((x.zA.length:Nat):Int)==0)=false from by rw[beq_eq_false_iff_ne];omega,zL]
   exact(zLS h0 hl rfl (fun _=>rfl)).iff ⟨fun g=>⟨h2,g⟩,fun g=>g.2⟩
  ·rw[show(((x.zA.length:Nat):Int)==0)=true from by rw[beq_iff_eq];omega,zN]
   exact .inr ⟨rfl,fun g=>h0 g.2.1⟩
 ·rw[h1,bs,Kw,zN]
  exact .inr ⟨rfl,fun g=>h2 g.1⟩
theorem zIl{x:SPr}(hl:x.zA.length≤1048576):IsB (zUU x) (jT x∧zSo x):=by
 unfold zUU;rcases zAC hl with⟨h1,h2⟩|⟨h1,h2⟩
 ·rw[h1,bs,Ky,zL]
  by_cases h0:0<x.zA.length
  ·rw[show(((x.zA.length:Nat):Int)==0)=false from by rw[beq_eq_false_iff_ne];omega,zL]
   exact(zLS h0 hl rfl (fun _=>rfl)).iff ⟨fun g=>⟨h2,g⟩,fun g=>g.2⟩
  ·rw[show(((x.zA.length:Nat):Int)==0)=true from by rw[beq_iff_eq];omega,zN]
   exact .inr ⟨rfl,fun g=>h0 g.2.1⟩
 ·rw[h1,bs,Kw,zN]
  exact .inr ⟨rfl,fun g=>h2 g.1⟩
theorem zHX{x:SPr}(hx:zCy x){body:Int×Int→Option ((Int×Int)⊕Int)}
  (hb:∀s:Int×Int,body s=cond (decide (s.2<(x.zA.length:Int))) ((ixO x.zA s.2).bind fun v1=>(rng (s.1*v1)).bind fun v2=>(rng (s.2+1)).bind fun v3=>some (.inl (v2,v3))) (some (.inr s.1))):zI body (1,0)=some (pr x.zA x.zA.length):=by
 have h6:=hx.n6;have hP:∀j,j<x.zA.length→Prime (at0 x.zA j):=fun j hj=>hx.os.2 j hj
 exact zZ (body:=body) (r:=pr x.zA x.zA.length) (fun i=>(pr x.zA i,(i:Int))) x.zA.length (fun i hi=>by
  have e1:=zJ8 hP (x.zA.length-(i+1)) (by omega);rw[show x.zA.length-(x.zA.length-(i+1))=i+1 from by omega]at e1;have e2:=zFt (os:=x.zA) (i:=i+1) fun j hj=>hP j (by omega)
  have e3:=hx.pr;simp only[pr]at e1 e2;rw[hb];simp only
  rw[xK hi,zN,yT hi,bs,zC (n:=pr x.zA i*at0 x.zA i) (by omega) (by omega),bs,zC (by omega) (by omega),bs];rfl) (by
  rw[hb];simp only
  rw[xX,zL])
theorem zNt{x:SPr}(hl:x.zA.length≤1048576):∃c,zUR x=some c∧zUV x=some c∧(c=0→jT x∧zSo x):=by
 unfold zUR zUV;rcases(zHw hl).both (zAC hl)with⟨s1,i1,hc⟩|⟨s1,i1,_⟩
 ·rw[s1,i1,bs,bs,Ky,zL,zL]
  rcases(zIk hl).both (zIl hl)with⟨s2,i2,hp⟩|⟨s2,i2,_⟩
  ·rw[s2,i2,bs,bs,Ky,zL,zL]
   unfold zX0 zX2;rw[zHX hc.2.2 (body:=zT0 x) (fun _=>rfl),zHX hc.2.2 (body:=zT3 x) (fun _=>rfl)];simp only[bs]
   by_cases g:pr x.zA x.zA.length> 81
   ·rw[decide_eq_true g,zN]
    exact⟨_,rfl,rfl,fun h=>by cases h⟩
   ·rw[decide_eq_false g,zL]
    exact⟨_,rfl,rfl,fun _=>hp⟩
  ·rw[s2,i2,bs,bs,Kw,zN,zN]
   exact⟨_,rfl,rfl,fun h=>by cases h⟩
 ·rw[s1,i1,bs,bs,Kw,zN,zN]
  exact⟨_,rfl,rfl,fun h=>by cases h⟩
def zCE(q:Int)(D n:Nat):zG:=⟨q,(D:Int),gl n fun _=>idM D⟩
theorem zDe{q:Int}{D n i:Nat}(h:i<n):(zCE q D n).zQ.getD i []=idM D:=by rw[zCE,J2,J3 (by rw[wD];exact h)];simp[gl]
theorem zPI{x:SPr}{q:Int}{D:Nat}(hq:Prime q)(h6:x.zA.length≤6)(hD:D≤8):f_R x q (D:Int)=some (zCE q D x.zA.length):=by
 unfold f_R;rw[uQ (body:=zT1 x (D:Int)) x.zA.length (fun _=>idM D) (fun i acc hi ha=>by
  unfold zT1;simp only
  rw[xK hi,zN,zMS hq hD,bs,yO (by simp only[J6,Jw];omega),bs,zC (by omega) (by omega),bs];rfl) (fun acc=>by
  unfold zT1;simp only
  rw[xX,zL]),bs]
 rfl
theorem zNu{x:SPr}{q:Int}{D:Nat}(hq:Prime q)(h6:x.zA.length≤6)(hD:D≤8):zUW x q (D:Int)=some (zCE q D x.zA.length):=by
 unfold zUW;rw[uQ (body:=zMs x q (D:Int)) x.zA.length (fun _=>idM D) (fun i acc hi ha=>by
  unfold zMs;simp only
  rw[xK hi,zN,zAO hq hD,bs,yO (by simp only[J6,Jw];omega),bs,zC (by omega) (by omega),bs];rfl) (fun acc=>by
  unfold zMs;simp only
  rw[xX,zL]),bs]
 rfl
theorem zUv{q:Int}{D n:Nat}(hq:Prime q)(h1:1≤D)(h3:D≤3):MOk n (zCE q D n) D:=
 ⟨hq,rfl,h1,h3,wD,fun i hi=>by rw[zDe hi];exact qM hq.pos.1⟩
theorem zDf{q:Int}{D n:Nat}:∀(w:List Nat){B:Mx},Mat q D B→(∀a∈w,a<n)→wM q D (zCE q D n).zQ w B=B
 | [],_,_,_=>rfl
 |a::w,B,hB,hw=>by show wM q D (zCE q D n).zQ w (PM q D B ((zCE q D n).zQ.getD a []))=B;rw[zDe (hw a (by simp)),zC7 hB];exact zDf w hB fun b hb=>hw b (H5 _ hb)
theorem zSp{x:SPr}(h:Pres x){q:Int}{D:Nat}(hq:Prime q):zF0 x (zCE q D x.zA.length) D:=by
 have hI:Mat q D (idM D):=qM hq.pos.1;intro i hi;refine⟨?_,fun j hj1 hj2=>?_⟩
 ·show wM q D _ _ _=wM q D _ _ _
  rw[zDf _ hI fun a ha=>by rw[Js ha];exact hi,zDf _ hI fun a ha=>((tP h (qO h hi) hi).2 a ha).2]
 ·show PM q D _ _=PM q D _ (wM q D _ _ _)
  have:=tP h (vU h (show i<j by omega) hj2) hi;rw[zDe hi,zDe hj2,zDf _ hI fun a ha=>(this.2 a (by simpa[lcj]using ha)).2]
theorem zIm{x:SPr}(hc:jT x)(hp:zSo x):∃C pc,zUT x=some C∧zUX x=some C∧Red (at0 x.zA 0) (base x.zA.length x.zA.length) C pc∧base x.zA.length x.zA.length≤21:=by
 have h6:=hc.2.2.n6;have hq:=hc.1.os.2 0 hp.1;have hb:=vO x.zA.length (by omega);obtain⟨C,pc,K,rows,c1,c2,c3,c4,c5,_⟩:=zKj (m:=zCE (at0 x.zA 0) 1 x.zA.length) hc.2.2 (zUv hq (by omega) (by omega)) hc.2.1 (zSp hc.1 hq);rw[Qp]at c5;refine⟨C,pc,?_,?_,c5,hb.2.1⟩
 ·unfold zUT zX1
  rw[show(0:Int)=((0:Nat):Int)from rfl,yT hp.1,bs,show(1:Int)=((1:Nat):Int)from rfl,zPI hq h6 (by omega),bs,bs,c1,bs]
 ·unfold zUX
  rw[show(0:Int)=((0:Nat):Int)from rfl,yT hp.1,bs,show(1:Int)=((1:Nat):Int)from rfl,zNu hq h6 (by omega),bs,c2,bs];have e:zT4=zJb:=rfl;rw[e,show((0:Nat):Int)=0 from rfl,c3,bs];show(f_j (zCE (at0 x.zA 0) 1 x.zA.length).Prime rows).bind _=_;rw[c4,bs]
theorem zBx{x:SPr}(hx:zFQ x):∃g k,zT2 x=some (g,k)∧zT5 x=some (g,k):=by
 obtain⟨c,e1,e2,e3⟩:=zNt (x:=x) hx.1;unfold zT2 zT5;rw[e1,e2,bs,bs]
 by_cases g:c=0
 ·obtain⟨hc,hp⟩:=e3 g
  obtain⟨C,pc,c1,c2,_⟩:=zIm hc hp;subst g;rw[show((0:Int) != 0)=false from rfl,zL,zL,c1,bs,c2,bs];exact⟨_,_,rfl,rfl⟩
 ·rw[show(c != 0)=true from by simpa using g,zN,zN]
  exact⟨_,_,rfl,rfl⟩
theorem zBX(x0:SPr)(v0:zOr x0)
  (h:zFQ x0→ ∃g k,zT2 x0=some (g,k)∧zT5 x0=some (g,k)):zUY x0=some true:=by
 unfold zUY;rw[zHn v0 (by decide) (by decide),bs];rcases zTW (c:=zLe x0) (b:=1048576) (by decide) (by decide)with e|⟨e,a0,b0,w0⟩<;>rw[e]
 ·rfl
 have s0:zFQ x0:=zFQ.of w0;obtain⟨g,k,hs,hi⟩:=h s0;rw[zL,zHo s0,bs];simp only[bs];rw[hs,bs,hi,bs];simp only
 rw[bne_self_eq_false,zL,bne_self_eq_false,zL,zHp s0,bs,Ky,zL]
theorem zBy(x0:SPr)(v0:zOr x0):zUY x0=some true:=
 zBX x0 v0 zBx
end Go.Pl
