/- The program's CocycleClasses returns what the reference's returns,for all arguments;no conditions. -/
import Derived.Test.YtijcbaigdbgofaaGreatPlB
open List renaming replicate→J1,getD_eq_getElem?_getD→J2,getElem?_eq_getElem→J4,length_append→J5,length_cons→J7,mem_cons→J8,getElem?_append_right→J9,append_assoc→Jb,append_nil→Jd,mem_append→Je,range→Jf,length_replicate→Jh,length_map→Ji,mem_map→Jm,map_cons→Jo,length_nil→Jp,replicate_succ→Jq,take_succ_eq_append_getElem→Jr,take_of_length_le→Js,take_left'→Ju,getElem?_append_left→Jv,length_take→Jw,nil_append→Jx,length_drop→Jz,getElem_mem→K3,cons_append→K4,getElem?_map→K5,drop_left'→K7,take_zero→Ka,eq_of_mem_replicate→Kc,all_eq_true→Kg,reverse_reverse→Kj,mem_range→Kr,range'→Ku,mem_iff_getElem→L7,map_append→L8,flatMap_cons→Lb,length_range→Le,flatten_cons→Li,range_eq_range'→Ll,mem_flatMap→Lo,replicate_succ'→Lw,getElem?_drop→Lz,drop_eq_nil_of_le→H0,drop_eq_getElem_cons→H1,take_length→H5,replicate_zero→Hm,mem_append_right→Hq,flatMap_append→Ht,flatten_nil→G6,drop_zero→Gf,mem_cons_of_mem→Gi,getD_cons_zero→Gw,map_nil→U6,mem_append_left→Uj,mem_of_mem_drop→Ut,getElem_range→Uu,map_congr_left→Qe,ext_getElem→Qk,getElem?_replicate_of_lt→Qm,head?_cons→Qn,map_map→Jak,length_reverse→Jaq,not_mem_nil→Jau,length_range'→Jaw,mem_of_mem_head?→Jb4,reverse_cons→Jbd,map_take→Jbe,flatMap_nil→Jbh,findSome?_cons→Jbm,drop_drop→Jbp,mem_reverse→Jc3,getElem_map→Jc4,getD_cons_succ→Jco,getElem?_take→Jcp,map_drop→Jcv,range'_succ→Jd3
open Int renaming toNat_natCast→Ja,mul_emod→Jt,emod_emod→K6,emod_eq_of_lt→Kb,add_emod→Kd,emod_lt_of_pos→Kh,natCast_mul→Km,emod_nonneg→Kx,mul_zero→Ld,mul_le_mul→Ls,add_zero→H2,mul_one→Hb,natCast_add→Ho,mul_assoc→Hv,mul_nonneg→U0,mul_comm→U9,mul_le_mul_of_nonneg_left→Qr,mul_add→Qs,toNat_of_nonneg→Jd5
open Nat renaming zero_add→Jc,le_refl→Jg,lt_or_ge→Jk,mul_le_mul→Jy,succ_mul→K1,mul_le_mul_right→K9,zero_le→Kn,div_add_mod→Ly,add_sub_cancel_left→H3,div_lt_iff_lt_mul→Ha,zero_mul→Hn,mul_comm→Hy,min_eq_left→Hz,mod_lt→G4,eq_zero_or_pos→Gy,le_mul_of_pos_right→Uv,not_lt_zero→Qg,add_sub_cancel→Jb2,sub_zero→Jb9,mul_pos→Jbo,lt_irrefl→Jbs,mul_zero→Jcm
open Bool renaming not_true→K0,not_false→Kk,false_eq_true→Hu
open Option renaming some→Ln,map_some→H4,bind→Hs,isSome_none→Us,getD_some→Qd
open Prod renaming mk→Jao
open Option renaming some→ik,none→im
open Bool renaming true→io,false→iq
namespace Go.Pl
open Go Go.Ab Go.Wk Go.Pc
theorem zKA{D:Nat}{f:Nat→Int}:∀B:Nat,S (B*D) f=S B fun q=>S D fun l=>f (q*D+l)
 |0=>by rw[Hn];rfl
 |B+1=>by rw[K1,zGD,zKA B];rfl
def blk(D:Nat)(w:Vec)(q:Nat):Vec:=mkv D fun j=>at0 w (q*D+j)
theorem kF{D B q l:Nat}(hq:q<B)(hl:l<D):q*D+l<B*D:=by have:=K9 D (show q+1≤B by omega);rw[K1]at this;omega
theorem zPA{p:Int}{D B:Nat}{w:Vec}(hw:Row p (B*D) w){q:Nat}(hq:q<B):Row p D (blk D w q):=
 ⟨zZ _ _,fun j hj=>by rw[blk,yG hj];exact hw.2 _ (kF hq hj)⟩
theorem sN{D q l:Nat}(hl:l<D):(q*D+l)/D=q∧(q*D+l)%D=l:=by
 have hD:0<D:=by omega
 constructor
 ·rw[Hy,Nat.mul_add_div hD,Nat.div_eq_of_lt hl];rfl
 ·rw[Hy,Nat.mul_add_mod,Nat.mod_eq_of_lt hl]
def ABk(B D:Nat)(A:Mx):Mx:=gl (B*D) fun i=>mkv (B*D) fun j=>if i/D=j/D then ent A (i%D) (j%D)else 0
theorem zPB{B D:Nat}{A:Mx}{i j:Nat}(hi:i<B*D)(hj:j<B*D):ent (ABk B D A) i j=if i/D=j/D then ent A (i%D) (j%D)else 0:=by show at0 ((gl (B*D) _).getD i []) j=_;rw[xY hi,yG hj]
theorem zVG{p:Int}{B D:Nat}{A:Mx}(hp:2≤p)(hD:0<D)(hA:Mat p D A):Mat p (B*D) (ABk B D A):=by
 refine⟨wT,fun i hi=>?_⟩;rw[ABk,xY hi];refine⟨zZ _ _,fun j hj=>?_⟩;rw[yG hj];split
 ·exact(hA.2 (i%D) (G4 _ hD)).2 _ (G4 _ hD)
 ·omega
theorem zMz{p:Int}{B D:Nat}{u:Vec}{A:Mx}{q l:Nat}(hq:q<B)(hl:l<D):at0 (wC p (B*D) u (ABk B D A)) (q*D+l)=S D (fun i=>at0 u (q*D+i)*ent A i l)%p:=by
 rw[wC,yG (kF hq hl),zKA]
 congr 1
 rw[zAm (k:=q) hq fun i hi gj=>?_]
 ·refine xR fun i hi=>?_
  rw[zPB (kF hq hi) (kF hq hl),(sN hi).1,(sN hi).2,(sN hl).1,(sN hl).2,if_pos rfl]
 ·rw[xR (g:=fun _=>0) fun j hj=>?_,qM]
  rw[zPB (kF hi hj) (kF hq hl),(sN hj).1,(sN hl).1,if_neg gj,Ld]
theorem zVH{p:Int}{B D:Nat}{u:Vec}{A:Mx}{q:Nat}(hq:q<B):blk D (wC p (B*D) u (ABk B D A)) q=wC p D (blk D u q) A:=by
 refine yC fun l hl=>?_
 rw[zMz hq hl]
 congr 1
 exact xR fun i hi=>by rw[blk,yG hi]
theorem zM0{D B:Nat}{w:Vec}(hw:w.length=B*D){q:Nat}(hq:q<B):(w.drop (q*D)).take D=blk D w q:=by
 have h1:=K9 D (show q+1≤B by omega);rw[K1]at h1;apply Qk
 ·rw[Jw,Jz,blk,zZ];omega
 ·intro i a b
  rw[Jw,Jz]at a;rw[List.getElem_take,List.getElem_drop];simp only[blk,mkv,Jc4,Uu,at0];rw[J2,J4 (by omega)];rfl
theorem zTm{D B:Nat}{w:Vec}(hw:w.length=B*D){q:Nat}(hq:q<B):w.take (q*D)++blk D w q=w.take ((q+1)*D):=by rw[←zM0 hw hq,K1,List.take_add]
def mBk(B D n:Nat)(m:zB):zB:=⟨m.Prime,((B*D:Nat):Int),(Jf n).map fun k=>ABk B D (m.zG.getD k [])⟩
theorem zKB{B D n:Nat}{m:zB}{k:Nat}(hk:k<n):(mBk B D n m).zG.getD k []=ABk B D (m.zG.getD k []):=by simp[mBk,J2,hk]
theorem zYC{B D n:Nat}{m:zB}(hm:MOk n m D)(hB:1≤B)(h2:B*D≤200):zS8 n (mBk B D n m) (B*D):=by have h1:=hm.d1;have hp:=hm.p.pos;refine⟨hm.p,Jbo (by omega) (by omega),h2,by simp[mBk],fun i hi=>?_⟩;rw[zKB hi];exact zVG (by show 2≤m.Prime;omega) (by omega) (hm.mat i hi)
theorem zYD{B D n:Nat}{m:zB}(hm:MOk n m D)(h2:B*D≤200):Mv (B*D) n m (mBk B D n m):=by
 refine⟨rfl,fun k hk u hu=>?_⟩;have h1:=hm.d1;have h3:=hm.d3;have eZ:=hu.1;have ar:=hm.len;have hA:=hm.mat k hk;rw[zKB hk];have hR:(wC m.Prime (B*D) u (ABk B D (m.zG.getD k []))).length=B*D:=by rw[wC,zZ]
 unfold zWw;have:=zX (body:=zMR m u (k:Int)) (r:=wC m.Prime (B*D) u (ABk B D (m.zG.getD k []))) (fun i=>((wC m.Prime (B*D) u (ABk B D (m.zG.getD k []))).take (i*D),((i*D:Nat):Int))) B (fun i hi=>by
  have gT:=K9 D (show i+1≤B by omega);rw[K1]at gT;unfold zMR;simp only
  rw[iu (by omega),zM,hm.d,zE (by omega) (by omega),bs];have pL:yB u ((i*D:Nat):Int) (((i*D:Nat):Int)+(D:Int))=ik (blk D u i):=by
   unfold yB;rw[if_pos ⟨by omega,by omega,by omega⟩]
   congr 1
   rw[show(((i*D:Nat):Int)+(D:Int)).toNat=i*D+D from by omega,Ja,H3];exact zM0 eZ hi
  rw[pL,bs,yQ [] (by omega),bs,zEm hm.p (by omega) (zPA hu hi) hA,bs,←zVH (B:=B) hi,yO (by rw[Jw,blk,zZ];omega),bs,zTm hR hi,bs,K1];rfl) (by
  unfold zMR;simp only
  rw[ir (by omega),zR,Js (by omega)])
 rw[Hn,Ka]at this;rw[show((0:Nat):Int)=0 from rfl]at this;rw[this,bs];rfl
def phi(p:Int)(B D:Nat)(c w:Vec):Vec:=mkv D fun j=>S B (fun q=>at0 c q*at0 w (q*D+j))%p
theorem zVI{p:Int}{B D:Nat}{c w:Vec}(hp:2≤p):Row p D (phi p B D c w):=⟨zZ _ _,fun j hj=>by rw[phi,yG hj];exact⟨Kx _ (show p≠0 by omega),by have:=Kh (S B fun q=>at0 c q*at0 w (q*D+j)) (show 0<p by omega);omega⟩⟩
def Tc(N D:Nat)(c:Vec):Mx:=gl N fun i=>blk D c i
theorem zYE{n B D N:Nat}{m:zB}{TB:Mx}{c:Vec}(hm:MOk n m D)(hN:B=N*D)(hb:base n n=N)(hc:Row m.Prime B c)(ht:∀i,i<N→TB.getD i []=mkv (B*D) fun j=>if j/D=i*D+j%D then 1 else 0):Fh n (B*D) D (mBk B D n m) m TB (Tc N D c) (phi m.Prime B D c):=by
 have hp:=hm.p.pos;have h1:=hm.d1;refine⟨rfl,fun u _=>zVI (by show 2≤m.Prime;omega),?_,fun u v hu hv=>?_,fun k hk u hu=>?_,fun r hr=>?_⟩
 ·rw[show zeros D=mkv D fun _=>0 from tM D]
  refine yC fun j hj=>?_
  rw[xR (g:=fun _=>0) fun q hq=>by rw[sE,Ld],qM];simp
 ·refine yC fun j hj=>?_
  rw[phi,phi,yG hj,yG hj];show _%m.Prime=(_%m.Prime+_%m.Prime)%m.Prime;rw[←Kd,←zCO];refine kT fun q hq=>?_
  rw[yG (kF hq hj),←Qs];show(at0 c q*((at0 u (q*D+j)+at0 v (q*D+j))%m.Prime))%m.Prime=_;rw[Jt,K6,←Jt]
 ·rw[zKB hk]
  refine yC fun j hj=>?_
  show S B (fun q=>at0 c q*at0 (wC m.Prime (B*D) u (ABk B D (m.zG.getD k []))) (q*D+j))%m.Prime=S D (fun l=>at0 (phi m.Prime B D c u) l*ent (m.zG.getD k []) l j)%m.Prime;rw[kT (g:=fun q=>at0 c q*S D (fun i=>at0 u (q*D+i)*ent (m.zG.getD k []) i j)) fun q hq=>by rw[zMz hq hj,Jt,K6,←Jt]];rw[kT (f:=fun l=>at0 (phi m.Prime B D c u) l*ent (m.zG.getD k []) l j) (g:=fun l=>S B (fun q=>at0 c q*at0 u (q*D+l))*ent (m.zG.getD k []) l j) fun l hl=>by rw[phi,yG hl,Jt,K6,←Jt]]
  congr 1
  rw[xR (g:=fun q=>S D (fun i=>at0 c q*(at0 u (q*D+i)*ent (m.zG.getD k []) i j))) fun q _=>(zCP _ D).symm,zHM];refine xR fun l hl=>?_
  rw[←zLO];exact xR fun q _=>(Hv _ _ _).symm
 ·rw[hb]at hr
  rw[ht r hr,Tc,xY hr];refine yC fun j hj=>?_
  have gT:r*D+j<B:=by rw[hN];exact kF hr hj
  rw[zAm (k:=r*D+j) gT fun q hq gj=>?_]
  ·rw[yG (kF gT hj),(sN hj).1,(sN hj).2,if_pos rfl,Hb]
   have:=hc.2 _ gT;exact Kb this.1 (by omega)
  ·rw[yG (kF hq hj),(sN hj).1,(sN hj).2,if_neg gj,Ld]
end Go.Pl

namespace Go.Pl
open Go Go.Ab Go.Wk Go.Pc
def uT(N D:Nat):Mx:=gl N fun i=>mkv (N*D*D) fun j=>if j/D=i*D+j%D then 1 else 0
section
variable {x:SPr}{m:zB}{D:Nat} (hx:zDK x) (hD:MOk x.zA.length m D)
 include hx hD
theorem zTn{D2:Nat}{m2:zB}{T:Mx}(hm:zS8 x.zA.length m2 D2)(ht:T.length=base x.zA.length x.zA.length):ExB x.zA.length D2 x m2 T:=by have _:=hD;refine⟨hx.n6,rfl,hx.pl,hx.cl,fun i hi=>?_,ht,hm⟩;have:=(hx.tl i hi).2.1;omega
theorem zXm{y:Vec}(hy:Row m.Prime (base x.zA.length x.zA.length*D) y):ExB x.zA.length D x m (Tc (base x.zA.length x.zA.length) D y)∧ ∀i,i<(Tc (base x.zA.length x.zA.length) D y).length→Row m.Prime D ((Tc (base x.zA.length x.zA.length) D y).getD i []):=by refine⟨zTn hx hD hD.b wT,fun i hi=>?_⟩;rw[Tc,wT]at hi;rw[Tc,xY hi];exact zPA hy hi
theorem zTo(h0:0<x.zA.length)(hc:wR (suf x 0))(hr:zD6 x m D):∃L,f_Q ⟨x,m,uT (base x.zA.length x.zA.length) D⟩=ik L∧L.length≤1000∧(∀r∈L,Row m.Prime (base x.zA.length x.zA.length*D*D) r)∧
  ∀y,Row m.Prime (base x.zA.length x.zA.length*D) y→((∀r∈L,phi m.Prime (base x.zA.length x.zA.length*D) D y r=zeros D)↔wR (suf (exx D x m (Tc (base x.zA.length x.zA.length) D y)) 0)):=by
 have h6:=hx.n6;have hb:=vT x.zA.length (by omega);have h1:=hD.d1;have h3:=hD.d3;have hp:=hD.p.pos;have hB:base x.zA.length x.zA.length*D≤21*3:=Jy hb.2.1 h3;have hB1:1≤base x.zA.length x.zA.length*D:=Jbo (by omega) (by omega);have hBD:base x.zA.length x.zA.length*D*D≤63*3:=Jy (by omega) h3;have hE:=zTn hx hD (T:=uT (base x.zA.length x.zA.length) D) (zYC hD hB1 (by omega)) wT;have hT:∀i,i<(uT (base x.zA.length x.zA.length) D).length→Row (mBk (base x.zA.length x.zA.length*D) D x.zA.length m).Prime (base x.zA.length x.zA.length*D*D) ((uT (base x.zA.length x.zA.length) D).getD i []):=fun i hi=>by rw[uT,wT]at hi;rw[uT,xY hi];refine⟨zZ _ _,fun j hj=>?_⟩;rw[yG hj];show _∧_≤m.Prime-1;split<;>omega
 have hM:=zYD (B:=base x.zA.length x.zA.length*D) hD (by omega);have key:∀y,Row m.Prime (base x.zA.length x.zA.length*D) y→ ∃L,f_Q ⟨x,m,uT (base x.zA.length x.zA.length) D⟩=ik L∧L.length≤1000∧(∀r∈L,Row m.Prime (base x.zA.length x.zA.length*D*D) r)∧((∀r∈L,phi m.Prime (base x.zA.length x.zA.length*D) D y r=zeros D)↔wR (suf (exx D x m (Tc (base x.zA.length x.zA.length) D y)) 0)):=fun y hy=>by obtain⟨e1,e2⟩:=zXm hx hD hy;exact zTl hx.toPres hE hT e1 e2 (zYE hD rfl rfl hy fun i hi=>by rw[uT,xY hi]) hM hc hr
 obtain⟨L,l1,l2,l3,_⟩:=key (zeros (base x.zA.length x.zA.length*D)) (xP (by omega));refine⟨L,l1,l2,l3,fun y hy=>?_⟩;obtain⟨L2,k1,_,_,k4⟩:=key y hy;rw[l1]at k1;cases k1;exact k4
end
def zD9(D k:Nat)(L:Mx):List Int:=(L.map fun r=>blk D r k).flatten
theorem zM1{D k:Nat}:∀L:Mx,(zD9 D k L).length=L.length*D
 | []=>by rw[zD9];simp
 |r::L=>by have ih:=zM1 (D:=D) (k:=k) L;simp only[zD9]at ih;simp only[zD9,Jo,Li,J5,J7];rw[ih,blk,zZ,K1];omega
theorem zKC{D k:Nat}:∀(L:Mx)(i j:Nat),i<L.length→j<D→at0 (zD9 D k L) (i*D+j)=at0 (L.getD i []) (k*D+j)
 | [],i,j,hi,_=>by simp at hi
 |r::L,i,j,hi,hj=>by
  have hl:(blk D r k).length=D:=zZ _ _;simp only[zD9,Jo,Li];cases i with
  |zero=>
   rw[Hn,Jc,Gw,at0,J2,Jv (by omega),←J2];show at0 (blk D r k) j=_;rw[blk,yG hj]
  |succ i=>
   have ih:=zKC (D:=D) (k:=k) L i j (by simpa using hi) hj;simp only[zD9]at ih;rw[Jco,←ih,at0,J2,J9 (by rw[hl,K1];omega),hl,K1,show i*D+D+j-D=i*D+j from by omega,←J2]
theorem zTp{p:Int}{B D:Nat}{L:Mx}{y:Vec}:(∀c,c<L.length*D→(S B fun k=>at0 y k*ent (gl B fun k=>zD9 D k L) k c)%p=0)↔ ∀r∈L,phi p B D y r=zeros D:=by
 have e:∀i j,i<L.length→j<D→(S B fun k=>at0 y k*ent (gl B fun k=>zD9 D k L) k (i*D+j))%p=at0 (phi p B D y (L.getD i [])) j:=fun i j hi hj=>by
  rw[phi,yG hj]
  congr 1
  refine xR fun k hk=>?_
  show at0 y k*at0 ((gl B fun k=>zD9 D k L).getD k []) (i*D+j)=_;rw[xY hk,zKC L i j hi hj]
 constructor
 ·intro g r hr
  obtain⟨i,hi,rfl⟩:=L7.1 hr;rw[show zeros D=mkv D fun _=>0 from tM D,uA (D:=D) (v:=phi p B D y L[i]) (zZ _ _)];refine yC fun j hj=>?_
  have:=e i j hi hj;rw[J2,J4 hi]at this;rw[←g _ (kF hi hj),this];rfl
 ·intro g c hc
  have hD:0<D:=by
   rcases Gy D with h|h
   ·rw[h,Jcm]at hc;omega
   ·exact h
  have hi:c/D<L.length:=(Ha hD).2 hc;have hj:c%D<D:=G4 _ hD;rw[show c=c/D*D+c%D from by rw[Hy];exact(Ly c D).symm,e _ _ hi hj,g _ (by rw[J2,J4 hi];exact K3 hi),sE]
end Go.Pl

namespace Go.Pl
open Go Go.Ab Go.Wk Go.Pc
def zBh(p:Int)(D:Nat)(m:zB):List (Nat×List Nat)→Nat→Nat→Nat→Int
 | [],_,_,_=>0
 |(q,s)::t,r,i,j=>(if q=r then ent (wM p D m.zG s (idM D)) i j else 0)+zBh p D m t r i j
section
variable {p:Int}{D N:Nat}{m:zB}{y:Vec}
theorem zTq{j:Nat}(hj:j<D):∀t:List (Nat×List Nat),(∀q∈t,q.1<N)→at0 (tv p D m (Tc N D y) t) j=(S N fun r=>S D fun i=>at0 y (r*D+i)*zBh p D m t r i j)%p
 | [],_=>by
  show at0 (zeros D) j=_;rw[sE,xR (g:=fun _=>0) fun r _=>by rw[xR (g:=fun _=>0) fun i _=>by rw[zBh,Ld],qM],qM]
  rfl
 |(q,s)::t,h=>by
  have hq:q<N:=h (q,s) (by simp);have ih:=zTq hj t fun q hq=>h q (by simp[hq])
  show at0 (adv p D (wC p D ((Tc N D y).getD q []) (wM p D m.zG s (idM D))) (tv p D m (Tc N D y) t)) j=_;rw[show adv p D=fun u v=>mkv D fun j=>(at0 u j+at0 v j)%p from rfl];show at0 (mkv D _) j=_;rw[yG hj,ih,wC,yG hj,←Kd]
  congr 1
  have e:(S N fun r=>S D fun i=>at0 y (r*D+i)*zBh p D m ((q,s)::t) r i j)=
    (S N fun r=>S D fun i=>at0 y (r*D+i)*(if q=r then ent (wM p D m.zG s (idM D)) i j else 0))+S N fun r=>S D fun i=>at0 y (r*D+i)*zBh p D m t r i j:=by
   rw[←zCO];refine xR fun r _=>?_
   rw[←zCO];refine xR fun i _=>?_
   rw[zBh,Qs]
  rw[e]
  congr 1
  rw[zAm (k:=q) hq fun r _ hr=>by rw[xR (g:=fun _=>0) fun i _=>by rw[if_neg (Ne.symm hr),Ld],qM]]
  refine xR fun l hl=>?_
  rw[if_pos rfl,Tc,xY hq,blk,yG hl]
end
def prR(p:Int)(D:Nat)(m:zB)(t1 t2:List (Nat×List Nat))(k:Nat):List Int:=mkv D fun j=>(zBh p D m t1 (k/D) (k%D) j-zBh p D m t2 (k/D) (k%D) j)%p
section
variable {p:Int}{D N:Nat}{m:zB}{y:Vec}
theorem zPC(hp:2≤p){t1 t2:List (Nat×List Nat)}(h1:∀q∈t1,q.1<N)(h2:∀q∈t2,q.1<N):
  (∀j,j<D→(S (N*D) fun k=>at0 y k*at0 (prR p D m t1 t2 k) j)%p=0)↔tv p D m (Tc N D y) t1=tv p D m (Tc N D y) t2:=by
 have e:∀j,j<D→(S (N*D) fun k=>at0 y k*at0 (prR p D m t1 t2 k) j)%p=(at0 (tv p D m (Tc N D y) t1) j-at0 (tv p D m (Tc N D y) t2) j)%p:=fun j hj=>by
  rw[zTq hj t1 h1,zTq hj t2 h2,←Int.sub_emod,zKA];have e1:((S N fun r=>S D fun i=>at0 y (r*D+i)*zBh p D m t1 r i j)-S N fun r=>S D fun i=>at0 y (r*D+i)*zBh p D m t2 r i j)=S N fun r=>S D fun i=>at0 y (r*D+i)*(zBh p D m t1 r i j-zBh p D m t2 r i j):=by
   have:(S N fun r=>S D fun i=>at0 y (r*D+i)*zBh p D m t1 r i j)=(S N fun r=>S D fun i=>at0 y (r*D+i)*(zBh p D m t1 r i j-zBh p D m t2 r i j))+S N fun r=>S D fun i=>at0 y (r*D+i)*zBh p D m t2 r i j:=by
    rw[←zCO];refine xR fun r _=>?_
    rw[←zCO];refine xR fun i _=>?_
    rw[←Qs];congr 1;omega
   omega
  rw[e1];refine kT fun r _=>kT fun i hi=>?_
  have hd:=sN (q:=r) hi;rw[prR,yG hj,hd.1,hd.2,Jt,K6,←Jt]
 constructor
 ·intro g
  have r1:=zK3 (D:=D) (m:=m) (T:=Tc N D y) hp t1;have r2:=zK3 (D:=D) (m:=m) (T:=Tc N D y) hp t2;rw[uA r1.1,uA r2.1];refine yC fun j hj=>?_
  have k:=e j hj;rw[g j hj]at k;have b1:=r1.2 j hj;have b2:=r2.2 j hj;have:=Int.emod_emod_of_dvd (at0 (tv p D m (Tc N D y) t1) j-at0 (tv p D m (Tc N D y) t2) j) (Int.dvd_refl p);have i4:p∣at0 (tv p D m (Tc N D y) t1) j-at0 (tv p D m (Tc N D y) t2) j:=Int.dvd_of_emod_eq_zero k.symm;obtain⟨c,hc⟩:=i4;have:c=0:=by
   rcases Int.lt_trichotomy c 0 with gF|h0|hgt
   ·have:p*c≤p*(-1):=Qr (by omega) (by omega)
    omega
   ·exact h0
   ·have:p*1≤p*c:=Qr (by omega) (by omega)
    omega
  rw[this,Ld]at hc;omega
 ·intro g j hj
  rw[e j hj,g,Int.sub_self];rfl
end
end Go.Pl

namespace Go.Pl
open Go Go.Ab Go.Wk Go.Pc
abbrev Trc:=List (Nat×List Nat)
structure PD where
 k:Nat
 wd:List Nat
 t:Nat
 r1:Nat
 s1:List Nat
 w1:List Nat
 r2:Nat
 s2:List Nat
 w2:List Nat
section
variable (x:SPr)
abbrev PD.B(d:PD)(t1 t2:Trc):Prop:=zK8 x d.k d.r1 d.s1 d.w1 d.r2 d.s2 d.w2 t1 t2
def ups(n i:Nat):List Nat:=Ku (i+1) (n-(i+1))
def pd2(i j k:Nat):PD:=⟨i,[k,j,i],1,base x.zA.length j+(k-(j+1)),[i],j::(nw 0 (lcj x j k)++[i]),base x.zA.length i+(j-(i+1)),[],k::i::nw 0 (lcj x i j)⟩
def pd1(i j:Nat):PD:=⟨i,J1 (yI x j) j++[i],yI x j-1,j,[i],nw 0 (x.zU.getD j [])++[i],base x.zA.length i+(j-(i+1)),[],J1 (yI x j-1) j++i::nw 0 (lcj x i j)⟩
def pd4(i j:Nat):PD:=⟨i,j::J1 (yI x i) i,1,base x.zA.length i+(j-(i+1)),J1 (yI x i-1) i,i::(nw 0 (lcj x i j)++J1 (yI x i-1) i),i,[],j::nw 0 (x.zU.getD i [])⟩
def pd3(i:Nat):PD:=⟨i,J1 (yI x i+1) i,1,i,[i],nw 0 (x.zU.getD i [])++[i],i,[],i::nw 0 (x.zU.getD i [])⟩
def cps:List PD:=
 ((Jf x.zA.length).flatMap fun i=>(ups x.zA.length i).flatMap fun j=>(ups x.zA.length j).map fun k=>pd2 x i j k)++
 (((Jf x.zA.length).flatMap fun i=>(ups x.zA.length i).map fun j=>pd1 x i j)++
 (((Jf x.zA.length).flatMap fun i=>(ups x.zA.length i).map fun j=>pd4 x i j)++
 (Jf x.zA.length).map fun i=>pd3 x i))
end
theorem zFm{n i j:Nat}:j∈ups n i↔i<j∧j<n:=by grind[ups]
section
variable {x:SPr}
theorem zAW{φ:PD→Prop}:(∀d∈cps x,φ d)↔(∀i j k,i<j→j<k→k<x.zA.length→φ (pd2 x i j k))∧(∀i j,i<j→j<x.zA.length→φ (pd1 x i j))∧(∀i j,i<j→j<x.zA.length→φ (pd4 x i j))∧ ∀i,i<x.zA.length→φ (pd3 x i):=by
 constructor
 ·intro g
  refine⟨fun i j k h1 h2 h3=>g _ ?_,fun i j h1 h2=>g _ ?_,fun i j h1 h2=>g _ ?_,fun i h1=>g _ ?_⟩
  ·exact Uj _ (Lo.2 ⟨i,by grind,Lo.2 ⟨j,by grind[zFm],Jm.2 ⟨k,zFm.2 ⟨h2,h3⟩,rfl⟩⟩⟩)
  ·exact Hq _ (Uj _ (Lo.2 ⟨i,by grind,Jm.2 ⟨j,zFm.2 ⟨h1,h2⟩,rfl⟩⟩))
  ·exact Hq _ (Hq _ (Uj _ (Lo.2 ⟨i,by grind,Jm.2 ⟨j,zFm.2 ⟨h1,h2⟩,rfl⟩⟩)))
  ·exact Hq _ (by grind)
 ·rintro⟨g2,g1,g4,g3⟩ d hd
  simp only[cps,Je,Lo,Jm,Kr,zFm]at hd
  grind
theorem zQ6{D:Nat}{m:zB}{T:Mx}:zXk x D m T↔ ∀d∈cps x,∀t1 t2,d.B x t1 t2→tv m.Prime D m T t1=tv m.Prime D m T t2:=by
 rw[zAW (φ:=fun d=> ∀t1 t2,d.B x t1 t2→tv m.Prime D m T t1=tv m.Prime D m T t2)];constructor
 ·intro g
  exact⟨fun i j k h1 h2 h3=>g.p2 i j k h1 h2 h3,fun i j h1 h2=>g.p1 i j h1 h2,fun i j h1 h2=>g.p4 i j h1 h2,fun i h1=>g.p3 i h1⟩
 ·rintro⟨g2,g1,g4,g3⟩
  exact⟨fun k j h1 h2=>g1 k j h1 h2,fun k i j h1 h2 h3=>g2 k i j h1 h2 h3,fun k hk=>g3 k hk,fun k j h1 h2=>g4 k j h1 h2⟩
theorem zXn(h6:x.zA.length≤6){w:List Nat}{r:zEu}(hw:∀a∈w,a<x.zA.length)(h:hdS x w=ik r):r.1<base x.zA.length x.zA.length:=by
 unfold hdS at h;have hb:=vT x.zA.length (by omega)
 match w,h with
 | [],h=>cases h
 | [a],h=>
  grind[swp,pws]
 |a::b::w,h=>
  have ha:=hw a (by simp);simp only[swp]at h
  by_cases g:b<a
  ·rw[if_pos g]at h
   cases h;have:=zCc x.zA.length (by omega) b (by omega);omega
  ·rw[if_neg g]at h
   grind[pws]
theorem zXo(h6:x.zA.length≤6):∀{w:List Nat}{r:zEu},(∀a∈w,a<x.zA.length)→stS x w=ik r→r.1<base x.zA.length x.zA.length
 | [],_,_,h=>by cases h
 |a::w,r,hw,h=>by
  simp only[stS]at h;cases e:hdS x (a::w)with
  |some q=>
   rw[e]at h;cases h;exact zXn h6 hw e
  |none=>
   rw[e]at h;cases e2:stS x w with
   |none=>grind
   |some q=>
    rw[e2]at h;cases h;have:=zXo (w:=w) (r:=q) h6 (by grind) e2;exact this
theorem Col.lt(h6:x.zA.length≤6){k:Nat}{w w':List Nat}{tr:Trc}(hc:Col x k w tr w'):∀q∈tr,q.1<base x.zA.length x.zA.length:=by
 induction hc with
 |refl w=>simp
 |step hw hs _ ih=>
  intro q hq;rcases J8.1 hq with rfl|hq
  ·exact zXo h6 (by grind) hs
  grind
end
section
variable {x:SPr} (h:Pres x) (h6:x.zA.length≤6)
 include h
theorem zM2{d:PD}{t1 t2 u1 u2:Trc}(hk:d.k≤x.zA.length)(a:d.B x t1 t2)(b:d.B x u1 u2):t1=u1∧t2=u2:=by
 obtain⟨⟨v1,y1,rfl,k1⟩,⟨v2,y2,rfl,k2⟩⟩:=a;obtain⟨⟨v3,y3,rfl,k3⟩,⟨v4,y4,rfl,k4⟩⟩:=b;have nn:=fun(y:Vec)(hy:V (suf x d.k) y)=>zFW h (x.zA.length-d.k) d.k (by omega) y hy
 exact⟨by rw[(Col.det k1.col k3.col (nn _ k1.v) (nn _ k3.v)).1],by rw[(Col.det k2.col k4.col (nn _ k2.v) (nn _ k4.v)).1]⟩
 include h6
theorem zGK:∀d∈cps x,d.k<x.zA.length∧(∀a∈d.wd,a<x.zA.length)∧ ∃t1 t2,d.B x t1 t2∧(∀q∈t1,q.1<base x.zA.length x.zA.length)∧ ∀q∈t2,q.1<base x.zA.length x.zA.length:=by
 have eG:∀i j,i<j→j<x.zA.length→ ∀a∈nw 0 (lcj x i j),i+1≤a∧a<x.zA.length:=fun i j hi hj=>(sX h (uL h hi hj) (by omega)).2
 have eK:∀i,i<x.zA.length→ ∀a∈nw 0 (x.zU.getD i []),i+1≤a∧a<x.zA.length:=fun i hi=>(sX h (jO h hi) hi).2
 have pd:=vT x.zA.length (by omega);have cK:=fun i(hi:i<x.zA.length)=>zCc x.zA.length (by omega) i hi
 have key:∀(d:PD),d.k<x.zA.length→(∀a∈d.wd,a<x.zA.length)→d.r1<base x.zA.length x.zA.length→d.r2<base x.zA.length x.zA.length→(∀a∈d.w1,d.k≤a∧a<x.zA.length)→(∀a∈d.w2,d.k≤a∧a<x.zA.length)→d.k<x.zA.length∧(∀a∈d.wd,a<x.zA.length)∧ ∃t1 t2,d.B x t1 t2∧(∀q∈t1,q.1<base x.zA.length x.zA.length)∧ ∀q∈t2,q.1<base x.zA.length x.zA.length:=by
  intro d hk mD b1 b2 c1 c2;obtain⟨u1,y1,k1⟩:=zVE h (x.zA.length-d.k) d.k (by omega) d.w1 c1;obtain⟨u2,y2,k2⟩:=zVE h (x.zA.length-d.k) d.k (by omega) d.w2 c2;refine⟨hk,mD,_,_,⟨⟨u1,y1,rfl,k1⟩,⟨u2,y2,rfl,k2⟩⟩,fun q hq=>?_,fun q hq=>?_⟩
  ·rcases J8.1 hq with rfl|hq
   ·exact b1
   ·exact k1.col.lt h6 q hq
  ·rcases J8.1 hq with rfl|hq
   ·exact b2
   ·exact k2.col.lt h6 q hq
 refine zAW.2 ⟨fun i j k h1 h2 h3=>key _ ?_ ?_ ?_ ?_ ?_ ?_,fun i j h1 h2=>key _ ?_ ?_ ?_ ?_ ?_ ?_,fun i j h1 h2=>key _ ?_ ?_ ?_ ?_ ?_ ?_,fun i h1=>key _ ?_ ?_ ?_ ?_ ?_ ?_⟩
 ·show i<_;omega
 ·intro a ha
  simp only[pd2,J8,Jau,or_false]at ha;omega
 ·have:=cK j (by omega);show base _ j+(k-(j+1))<_;omega
 ·have:=cK i (by omega);show base _ i+(j-(i+1))<_;omega
 ·intro a ha
  simp only[pd2,J8,Je,Jau,or_false]at ha ⊢
  rcases ha with rfl|ha|rfl
  ·omega
  ·grind
  ·omega
 ·intro a ha
  simp only[pd2,J8]at ha ⊢
  rcases ha with rfl|rfl|ha
  ·omega
  ·omega
  grind
 ·show i<_;omega
 ·intro a ha
  simp only[pd1,Je,List.mem_singleton]at ha;rcases ha with ha|rfl
  ·grind
  ·omega
 ·show j<_;omega
 ·have:=cK i (by omega);show base _ i+(j-(i+1))<_;omega
 ·intro a ha
  simp only[pd1,Je,List.mem_singleton]at ha ⊢
  rcases ha with ha|rfl
  ·grind
  ·omega
 ·intro a ha
  simp only[pd1,Je,J8]at ha ⊢
  rcases ha with ha|rfl|ha
  ·grind
  ·omega
  grind
 ·show i<_;omega
 ·intro a ha
  simp only[pd4,J8]at ha;rcases ha with rfl|ha
  ·omega
  grind
 ·have:=cK i (by omega);show base _ i+(j-(i+1))<_;omega
 ·show i<_;omega
 ·intro a ha
  simp only[pd4,J8,Je]at ha ⊢
  rcases ha with rfl|ha|ha
  ·omega
  ·grind
  grind
 ·intro a ha
  simp only[pd4,J8]at ha ⊢
  rcases ha with rfl|ha
  ·omega
  grind
 ·exact h1
 ·intro a ha
  have:=Kc (show a∈J1 _ i from ha);omega
 ·show i<_;omega
 ·show i<_;omega
 ·intro a ha
  simp only[pd3,Je,List.mem_singleton]at ha ⊢
  rcases ha with ha|rfl
  ·grind
  ·omega
 ·intro a ha
  simp only[pd3,J8]at ha ⊢
  rcases ha with rfl|ha
  ·omega
  grind
end
end Go.Pl

namespace Go.Pl
open Go Go.Ab Go.Wk Go.Pc
theorem zFX{α:Type}{F:α→Vec}{D:Nat}(hF:∀a,(F a).length=D):∀L:List α,((L.map F).flatten).length=L.length*D
 | []=>by simp
 |a::L=>by rw[Jo,Li,J5,hF,zFX hF L,J7,K1];omega
theorem zFn{α:Type}{F:α→Vec}{D:Nat}(hF:∀a,(F a).length=D):∀(L:List α)(i j:Nat)(hi:i<L.length),j<D→at0 ((L.map F).flatten) (i*D+j)=at0 (F L[i]) j
 | [],i,j,hi,_=>by simp at hi
 |a::L,i,j,hi,hj=>by
  have hl:=hF a;rw[Jo,Li];cases i with
  |zero=>
   rw[Hn,Jc,List.getElem_cons_zero,at0,J2,Jv (by omega),←J2]
  |succ i=>
   have ih:=zFn hF L i j (by simpa using hi) hj;rw[List.getElem_cons_succ,←ih,at0,J2,J9 (by rw[hl,K1];omega),hl,K1,show i*D+D+j-D=i*D+j from by omega,←J2]
def zAg(p:Int)(D:Nat)(m:zB)(prs:List (Trc×Trc))(k:Nat):List Int:=(prs.map fun q=>prR p D m q.1 q.2 k).flatten
theorem zIs{p:Int}{D k:Nat}{m:zB}(prs:List (Trc×Trc)):(zAg p D m prs k).length=prs.length*D:=zFX (F:=fun q:Trc×Trc=>prR p D m q.1 q.2 k) (fun _=>zZ _ _) prs
theorem zTr{p:Int}{D N:Nat}{m:zB}{y:Vec}(hp:2≤p){prs:List (Trc×Trc)}(hl:∀q∈prs,(∀r∈q.1,r.1<N)∧ ∀r∈q.2,r.1<N):
  (∀c,c<prs.length*D→(S (N*D) fun k=>at0 y k*ent (gl (N*D) fun k=>zAg p D m prs k) k c)%p=0)↔ ∀q∈prs,tv p D m (Tc N D y) q.1=tv p D m (Tc N D y) q.2:=by
 have e:∀i j(hi:i<prs.length),j<D→(S (N*D) fun k=>at0 y k*ent (gl (N*D) fun k=>zAg p D m prs k) k (i*D+j))=S (N*D) fun k=>at0 y k*at0 (prR p D m prs[i].1 prs[i].2 k) j:=fun i j hi hj=>by
  refine xR fun k hk=>?_
  show at0 y k*at0 ((gl (N*D) fun k=>zAg p D m prs k).getD k []) (i*D+j)=_;rw[xY hk,zAg,zFn (F:=fun q:Trc×Trc=>prR p D m q.1 q.2 k) (fun _=>zZ _ _) prs i j hi hj]
 constructor
 ·intro g q hq
  obtain⟨i,hi,rfl⟩:=L7.1 hq;refine(zPC hp (hl _ hq).1 (hl _ hq).2).1 fun j hj=>?_
  rw[←e i j hi hj];exact g _ (kF hi hj)
 ·intro g c hc
  have hD:0<D:=by
   rcases Gy D with h|h
   ·rw[h,Jcm]at hc;omega
   ·exact h
  have hi:c/D<prs.length:=(Ha hD).2 hc;have hj:c%D<D:=G4 _ hD;have hm:=K3 hi;rw[show c=c/D*D+c%D from by rw[Hy];exact(Ly c D).symm,e _ _ hi hj];exact(zPC hp (hl _ hm).1 (hl _ hm).2).2 (g _ hm) _ hj
def sY(x:SPr):List PD→List (Trc×Trc)→Prop
 | [],[]=>True
 |d::ds,q::qs=>d.B x q.1 q.2∧sY x ds qs
 |_,_=>False
theorem sY.len{x:SPr}:{ds:List PD}→{qs:List (Trc×Trc)}→sY x ds qs→ds.length=qs.length
 | [],[],_=>rfl
 |d::ds,q::qs,h=>by rw[J7,J7,sY.len h.2]
 | [],_::_,h=>by simp[sY]at h
 |_::_,[],h=>by simp[sY]at h
theorem sY.all{x:SPr}{φ:Trc×Trc→Prop}:{ds:List PD}→{qs:List (Trc×Trc)}→sY x ds qs→(∀d∈ds,∀t1 t2,d.B x t1 t2→φ (t1,t2))→ ∀q∈qs,φ q
 | [],[],_,_,q,hq=>by cases hq
 |d::ds,q::qs,h,g,r,hr=>by
  rcases J8.1 hr with rfl|hr
  ·exact g d (by simp) _ _ h.1
  ·exact sY.all h.2 (fun d hd=>g d (Gi _ hd)) r hr
 | [],_::_,h,_,_,_=>by simp[sY]at h
 |_::_,[],h,_,_,_=>by simp[sY]at h
theorem sY.of{x:SPr}{φ:Trc×Trc→Prop}:{ds:List PD}→{qs:List (Trc×Trc)}→sY x ds qs→(∀q∈qs,φ q)→ ∀d∈ds,∃t1 t2,d.B x t1 t2∧φ (t1,t2)
 | [],[],_,_,d,hd=>by cases hd
 |d::ds,q::qs,h,g,r,hr=>by
  rcases J8.1 hr with rfl|hr
  ·exact⟨q.1,q.2,h.1,g q (by simp)⟩
  ·exact sY.of h.2 (fun q hq=>g q (Gi _ hq)) r hr
 | [],_::_,h,_,_,_=>by simp[sY]at h
 |_::_,[],h,_,_,_=>by simp[sY]at h
section
variable {x:SPr}{m:zB}{D:Nat} (hx:zDK x) (hD:MOk x.zA.length m D)
 include hx hD
theorem zTs{prs:List (Trc×Trc)}(hq:sY x (cps x) prs)(hc:wR (suf x 0))(hr:zD6 x m D){y:Vec}(hy:Row m.Prime (base x.zA.length x.zA.length*D) y):
  (∀c,c<prs.length*D→(S (base x.zA.length x.zA.length*D) fun k=>at0 y k*ent (gl (base x.zA.length x.zA.length*D) fun k=>zAg m.Prime D m prs k) k c)%m.Prime=0)↔wR (suf (exx D x m (Tc (base x.zA.length x.zA.length) D y)) 0):=by
 have hp:=hD.p.pos;have cI:=zGK hx.toPres hx.n6;have gF:∀q∈prs,(∀r∈q.1,r.1<base x.zA.length x.zA.length)∧ ∀r∈q.2,r.1<base x.zA.length x.zA.length:=hq.all fun d hd t1 t2 hb=>by obtain⟨hk,_,u1,u2,pO,l1,l2⟩:=cI d hd;obtain⟨rfl,rfl⟩:=zM2 hx.toPres (by omega) hb pO;exact⟨l1,l2⟩
 obtain⟨e1,e2⟩:=zXm hx hD hy;rw[zTr (by omega) gF,←zQ5 hx.toPres e1 e2 hc hr,zQ6];constructor
 ·intro g d hd t1 t2 hb
  obtain⟨u1,u2,pO,e⟩:=hq.of (φ:=fun q=>tv m.Prime D m (Tc (base x.zA.length x.zA.length) D y) q.1=tv m.Prime D m (Tc (base x.zA.length x.zA.length) D y) q.2) g d hd;obtain⟨rfl,rfl⟩:=zM2 hx.toPres (by have:=(cI d hd).1;omega) hb pO;exact e
 ·intro g
  exact hq.all fun d hd t1 t2 hb=>g d hd t1 t2 hb
theorem zYF:∃prs,sY x (cps x) prs:=by
 have _:=hD;have cI:=zGK hx.toPres hx.n6
 revert cI
 generalize cps x=ds
 intro cI
 induction ds with
 |nil=>exact⟨[],trivial⟩
 |cons d ds ih=>
  obtain⟨qs,hq⟩:=ih fun d hd=>cI d (Gi _ hd)
  obtain⟨_,_,t1,t2,hb,_⟩:=cI d (by simp);exact⟨(t1,t2)::qs,hb,hq⟩
end
end Go.Pl

namespace Go.Pl
open Go Go.Ab Go.Wk Go.Pc
section
variable {x:SPr}{m:zB}{D:Nat} (hD:MOk x.zA.length m D)
 include hD
theorem zQ7{N i:Nat}(hi:i<N)(hN:N≤21){T:Mx}:zI (zQX m (T,(i:Int))) (J1 (N*D*D) (0:Int),0)=ik (mkv (N*D*D) fun j=>if j/D=i*D+j%D then 1 else 0):=by
 have h1:=hD.d1;have h3:=hD.d3;have ig:N*D≤21*3:=Jy hN h3;have hB:N*D*D≤63*3:=Jy ig h3;have:=zX (body:=zQX m (T,(i:Int))) (r:=mkv (N*D*D) fun j=>if j/D=i*D+j%D then(1:Int)else 0)
  (fun c=>(mkv (N*D*D) fun j=>if j/D=i*D+j%D∧j%D<c then(1:Int)else 0,(c:Int))) D (fun c hc=>by
  unfold zQX;simp only
  have a1:i*D+D≤N*D:=by rw[←K1];exact K9 _ hi
  have a2:(i*D+c)*D+D≤N*D*D:=by rw[←K1];exact K9 _ (by omega)
  have b1:(i:Int)*(D:Int)=((i*D:Nat):Int):=by rw[Km]
  have b2:((i*D+c:Nat):Int)*(D:Int)=(((i*D+c)*D:Nat):Int):=by rw[Km]
  have b3:((i*D:Nat):Int)+(c:Int)=((i*D+c:Nat):Int):=by omega
  have b4:(((i*D+c)*D:Nat):Int)+(c:Int)=(((i*D+c)*D+c:Nat):Int):=by omega
  rw[hD.d,yZ hc,zM,b1,zE (by omega) (by omega),bs,b3,zE (by omega) (by omega),bs,b2,zE (by omega) (by omega),bs,b4,zE (by omega) (by omega),bs,yQ 0 (by rw[zZ];omega),bs,zE (by omega) (by omega),bs,Ja,jL,cs]
  congr 3
  refine yC fun j hj=>?_
  have m8:=Ly j D
  by_cases g:j=(i*D+c)*D+c
  ·have e:=sN (q:=i*D+c) hc
   rw[if_pos g,g,e.1,e.2,if_pos ⟨rfl,by omega⟩]
  ·rw[if_neg g]
   by_cases g2:j/D=i*D+j%D
   ·by_cases g3:j%D<c
    ·rw[if_pos ⟨g2,g3⟩,if_pos ⟨g2,by omega⟩]
    ·rw[if_neg fun z=>g3 z.2]
     refine(if_neg fun z=>g ?_).symm;have:j%D=c:=by omega
     rw[g2,this,Hy]at m8;exact m8.symm
   ·rw[if_neg fun z=>g2 z.1,if_neg fun z=>g2 z.1]) (by
  unfold zQX;simp only
  rw[hD.d,vU,zR]
  congr 2
  refine yC fun j _=>?_
  have:=G4 j (show 0<D by omega)
  by_cases g2:j/D=i*D+j%D
  ·rw[if_pos ⟨g2,this⟩,if_pos g2]
  ·rw[if_neg fun z=>g2 z.1,if_neg g2])
 rw[show(mkv (N*D*D) fun j=>if j/D=i*D+j%D∧j%D<0 then(1:Int)else 0)=J1 (N*D*D) 0 from by rw[show J1 (N*D*D) (0:Int)=mkv (N*D*D) fun _=>0 from tM _];exact yC fun j _=>if_neg fun z=>Qg _ z.2]at this
 exact this
theorem zIt{N:Nat}(hN:N≤21):zI (zUI m (N:Int) ((N*D:Nat):Int)) ([],0)=ik (uT N D):=by
 have h1:=hD.d1;have h3:=hD.d3;have ig:N*D≤21*3:=Jy hN h3;have hB:N*D*D≤63*3:=Jy ig h3;refine tA N (fun i=>mkv (N*D*D) fun j=>if j/D=i*D+j%D then(1:Int)else 0) (fun i acc hi ha=>?_) (fun acc=>?_)
 ·unfold zUI
  simp only
  have b1:((N*D:Nat):Int)*(D:Int)=((N*D*D:Nat):Int):=by rw[Km (N*D)]
  rw[hD.d,yZ hi,zM,b1,zE (by omega) (by omega),bs,xL (by omega),bs,zQ7 hD hi hN,bs,yO (by simp;omega),bs,zE (by omega) (by omega),bs,cs]
 ·unfold zUI
  simp only
  rw[vU,zR]
theorem zJ4{B:Nat}(hB:B≤63){L:Mx}(hL:L.length≤1000)(hr:∀r∈L,r.length=B*D):zI (zUJ m ((B:Nat):Int) L) ([],0)=ik (gl B fun k=>zD9 D k L):=by
 have h1:=hD.d1;have h3:=hD.d3;have hLD:L.length*D≤1000*3:=Jy hL h3;have hBD:B*D≤63*3:=Jy hB h3;refine tA B (fun k=>zD9 D k L) (fun k acc hk ha=>?_) (fun acc=>?_)
 ·unfold zUJ
  simp only
  have a1:k*D+D≤B*D:=by rw[←K1];exact K9 _ hk
  have inner:zI (zQY m L (acc,(k:Int))) ([],0)=ik (zD9 D k L):=by
   have:=zSI (body:=zQY m L (acc,(k:Int))) L.length D (fun i=>blk D (L.getD i []) k) [] (fun i hi=>zZ _ _) (fun i acc2 hi ha2=>by
    unfold zQY;simp only
    have b0:i*D+D≤L.length*D:=by rw[←K1];exact K9 _ hi
    have b1:(k:Int)*(D:Int)=((k*D:Nat):Int):=by rw[Km]
    have b2:((k+1:Nat):Int)*(D:Int)=((k*D+D:Nat):Int):=by rw[←Km,K1]
    have gf:(L.getD i []).length=B*D:=by rw[J2,J4 hi];exact hr _ (K3 hi)
    simp only[Jp,Jc]at ha2;rw[hD.d,yZ hi,zM,yQ [] hi,bs,b1,zE (by omega) (by omega),bs,show(k:Int)+1=((k+1:Nat):Int)from by omega,zE (by omega) (by omega),bs,b2,zE (by omega) (by omega),bs,zFR (by omega),bs,yO (by rw[zZ];omega),bs,zE (by omega) (by omega),bs,cs];rfl) (fun acc2=>by
    unfold zQY;simp only
    rw[vU,zR])
   rw[this,Jx,zD9]
   congr 2
   rw[gl];refine Qk (by simp) fun j h1 h2=>?_
   simp only[Ji,Le]at h1;simp only[Jc4,Uu];rw[J2,J4 h1];rfl
  rw[yZ hk,zM,inner,bs,yO (by simp;omega),bs,zE (by omega) (by omega),bs,cs]
 ·unfold zUJ
  simp only
  rw[vU,zR]
end
section
variable {x:SPr}{m:zB}{D:Nat} (hx:zDK x) (hD:MOk x.zA.length m D)
 include hx hD
theorem zGw(h0:0<x.zA.length)(hc:wR (suf x 0))(hr:zD6 x m D):∃K pk,f_m x m=ik K∧Red m.Prime (base x.zA.length x.zA.length*D) K pk∧
  ∀y,Row m.Prime (base x.zA.length x.zA.length*D) y→(Sp m.Prime (base x.zA.length x.zA.length*D) K y↔wR (suf (exx D x m (Tc (base x.zA.length x.zA.length) D y)) 0)):=by
 have h6:=hx.n6;have hb:=vT x.zA.length (by omega);have h1:=hD.d1;have h3:=hD.d3;have hB:base x.zA.length x.zA.length*D≤21*3:=Jy hb.2.1 h3;obtain⟨L,l1,l2,l3,l4⟩:=zTo hx hD h0 hc hr;have hLD:L.length*D≤1000*3:=Jy l2 h3;obtain⟨K,pk,k1,_,k3,k4⟩:=zFP hD.p (c:=L.length*D) (N:=base x.zA.length x.zA.length*D) (A:=gl (base x.zA.length x.zA.length*D) fun k=>zD9 D k L) (by omega) (fun k hk=>by rw[xY hk];refine⟨zM1 L,fun j hj=>?_⟩;have hi:j/D<L.length:=(Ha (by omega)).2 hj;have hm:j%D<D:=G4 _ (by omega);have e:=zKC (D:=D) (k:=k) L (j/D) (j%D) hi hm;rw[show j/D*D+j%D=j from by rw[Hy];exact Ly j D]at e;rw[e];have fO:=l3 (L.getD (j/D) []) (by rw[J2,J4 hi];exact K3 hi);exact fO.2 _ (kF hk hm)) wT
 refine⟨K,pk,?_,k3,fun y hy=>?_⟩
 ·unfold f_m
  have b1:((base x.zA.length x.zA.length:Nat):Int)*(D:Int)=((base x.zA.length x.zA.length*D:Nat):Int):=by rw[Km]
  rw[zEp rfl h6,bs,hD.d,b1,zE (by omega) (by omega),bs,zIt hD hb.2.1,bs,l1,bs,zJ4 hD (by omega) l2 (fun r hr=>(l3 r hr).1),bs,show((L.length:Nat):Int)*(D:Int)=((L.length*D:Nat):Int)from by rw[Km],zE (by omega) (by omega),bs,k1,bs]
 ·rw[k4 y,←l4 y hy,←zTp (L:=L)]
end
end Go.Pl

namespace Go.Pl
open Go Go.Ab Go.Wk Go.Pc
theorem tY{w:List Nat}{t:Nat}(h:t<w.length):ixO (enW w) (t:Int)=ik (((w.getD t 0:Nat):Int)+1):=by rw[yQ 0 (by simpa using h)];simp only[J2,K5,J4 h];rfl
theorem qT{w:List Nat}{t:Nat}(h:t<w.length):w.drop t=w.getD t 0::w.drop (t+1):=by rw[H1 h,J2,J4 h];rfl
theorem zDy{w:List Nat}{a b:Nat}(h1:a≤b)(h2:b≤w.length):yB (enW w) (a:Int) (b:Int)=ik (enW ((w.drop a).take (b-a))):=by unfold yB;rw[if_pos ⟨by omega,by omega,by simp;omega⟩];simp only[Ja,enW,Jbe,Jcv]
theorem zTt{w:List Nat}{t o:Nat}{L:Int→Option (Int⊕(Unit⊕Bool))}(hL:L=zOp (enW w) (t:Int) (enW ((w.drop t).take o))∨L=zOq (enW w) (t:Int) (enW ((w.drop t).take o)))(ht:t<w.length)(ho:t+o≤w.length)(hl:w.length≤1000000):
  zI L 0=ik (if decide ((w.drop t).take o=J1 o (w.getD t 0))then .inl ()else .inr iq):=by
 have gf:((w.drop t).take o).length=o:=by rw[Jw,Jz];omega
 have pF:(enW ((w.drop t).take o)).length=o:=by rw[enW,Ji,gf]
 have fA:∀i,i<o→((w.drop t).take o).getD i 0=w.getD (t+i) 0:=fun i hi=>by simp only[J2,Jcp,Lz];rw[if_pos hi]
 have hb:∀i,i<o→L (i:Int)=ik (if(w.getD (t+i) 0==w.getD t 0)then .inl ((i+1:Nat):Int)else .inr (.inr iq)):=fun i hi=>by
  have e1:ixO (enW ((w.drop t).take o)) (i:Int)=ik (((w.getD (t+i) 0:Nat):Int)+1):=by rw[tY (by omega),fA i hi]
  have e2:(((w.getD (t+i) 0:Nat):Int)+1 != ((w.getD t 0:Nat):Int)+1)= !(w.getD (t+i) 0==w.getD t 0):=by
   by_cases g:w.getD (t+i) 0=w.getD t 0
   ·rw[g];simp
   ·have:(w.getD (t+i) 0==w.getD t 0)=iq:=by simpa using g
    rw[this];have g2:((w.getD (t+i) 0:Nat):Int)+1≠((w.getD t 0:Nat):Int)+1:=by omega
    simpa using g2
  rcases hL with rfl|rfl<;>
  ·first|unfold zOp|unfold zOq
   rw[pF,yZ hi,zM,e1,bs,tY ht,bs,e2]
   by_cases g:(w.getD (t+i) 0==w.getD t 0)=io
   ·rw[g,K0,zR,zE (by omega) (by omega),bs,cs];rfl
   ·have g':(w.getD (t+i) 0==w.getD t 0)=iq:=by simpa using g
    rw[g',Kk,zM];rfl
 have he:L (o:Int)=ik (.inr (.inl ())):=by
  rcases hL with rfl|rfl
  ·unfold zOp
   rw[pF,vU,zR]
  ·unfold zOq
   rw[pF,vU,zR]
 rw[zJj o (fun i=>w.getD (t+i) 0==w.getD t 0) (fun i hi _=>hb i hi) (fun _=>he)]
 congr 1
 have pY:(Jf o).all (fun i=>w.getD (t+i) 0==w.getD t 0)=decide ((w.drop t).take o=J1 o (w.getD t 0)):=by
  rw[Bool.eq_iff_iff,Kg,decide_eq_true_iff];constructor
  ·intro g
   refine Qk (by rw[gf,Jh]) fun i h1 h2=>?_
   have:=g i (Kr.2 (by omega));have e:=fA i (by omega);rw[J2,J4 h1]at e;rw[List.getElem_replicate];simp only[Qd]at e;rw[e];simpa using this
  ·intro g i hi
   have e:=fA i (Kr.1 hi);rw[g,J2,Qm (Kr.1 hi)]at e;simp only[Qd]at e;rw[←e];simp
 rw[pY]
section
variable {x:SPr} (h:Pres x)
 include h
theorem jC{a:Nat}(ha:a<x.zA.length):ixO x.zA (a:Int)=ik ((yI x a:Nat):Int)∧2≤yI x a∧yI x a≤7:=by
 have hp:=(h.os.2 a ha).pos;rw[yQ 0 ha];refine⟨?_,zK4 h ha,?_⟩
 ·show ik (at0 x.zA a)=ik (((at0 x.zA a).toNat:Nat):Int)
  rw[Jd5 (by omega)]
 ·show(at0 x.zA a).toNat≤7
  omega
theorem zTu{w:List Nat}{t:Nat}(ht:t<w.length):(pws x (w.drop t)).isSome=decide (t+yI x (w.getD t 0)≤w.length∧(w.drop t).take (yI x (w.getD t 0))=J1 (yI x (w.getD t 0)) (w.getD t 0)):=by
 have _:=h;have hd:=qT ht
 by_cases g:(w.drop t).take (yI x (w.getD t 0))=J1 (yI x (w.getD t 0)) (w.getD t 0)
 ·have hl:=zBA g
  rw[Jz]at hl;rw[iu ⟨by omega,g⟩];rw[hd]at g ⊢
  simp only[pws];rw[if_pos g];rfl
 ·rw[ir fun z=>g z.2]
  rw[hd]at g ⊢
  simp only[pws];rw[if_neg g];rfl
theorem zIu{w:List Nat}(hw:∀a∈w,a<x.zA.length)(hl:w.length≤1000000){t:Nat}(ht:t<w.length):f_G x (enW w) (t:Int)=ik (hdS x (w.drop t)).isSome:=by
 have ha:w.getD t 0<x.zA.length:=hw _ (by rw[J2,J4 ht];exact K3 ht);obtain⟨o1,o2,o3⟩:=jC h ha;have gf:(enW w).length=w.length:=by simp
 have hd:=qT ht;have a1:((w.getD t 0:Nat):Int)+1-1=((w.getD t 0:Nat):Int):=by omega
 have a2:(t:Int)+((yI x (w.getD t 0):Nat):Int)=((t+yI x (w.getD t 0):Nat):Int):=by omega
 have h9:=h.os.1;have fin:∀L:List Int→Int→Option (Int⊕(Unit⊕Bool)),(∀o,L (enW ((w.drop t).take o))=zOp (enW w) (t:Int) (enW ((w.drop t).take o))∨L (enW ((w.drop t).take o))=zOq (enW w) (t:Int) (enW ((w.drop t).take o)))→
   (cond (decide (((t+yI x (w.getD t 0):Nat):Int)> ((w.length:Nat):Int))) (ik iq) ((ik ((t+yI x (w.getD t 0):Nat):Int)).bind fun v9=>(yB (enW w) (t:Int) v9).bind fun v10=>(zI (L v10) 0).bind fun r14=>match r14 with|(.inl _)=>ik io|(.inr r14)=>ik r14))=ik (pws x (w.drop t)).isSome:=by
  intro L hL;rw[zTu h ht]
  by_cases g:t+yI x (w.getD t 0)≤w.length
  ·rw[ir (by omega),zR,bs,zDy (by omega) g,bs,H3,zTt (hL _) ht g hl,bs]
   by_cases g2:(w.drop t).take (yI x (w.getD t 0))=J1 (yI x (w.getD t 0)) (w.getD t 0)
   ·rw[iu g2,iu ⟨g,g2⟩];rfl
   ·rw[ir g2,ir fun z=>g2 z.2];rfl
  ·rw[iu (by omega),zM,ir fun z=>g z.1]
 unfold f_G;rw[gf,zE (by omega) (by omega),bs]
 by_cases g:t+1<w.length
 ·have pG:=qT g
  rw[iu (by omega),zM,tY ht,bs,bs,show(t:Int)+1=((t+1:Nat):Int)from by omega,tY g,bs]
  by_cases g2:w.getD (t+1) 0<w.getD t 0
  ·rw[iu (by omega),zM,hd,pG]
   unfold hdS;simp only[swp];rw[if_pos g2];rfl
  ·rw[ir (by omega),zR,bs,a1,zE (by omega) (by omega),bs,o1,bs,a2,zE (by omega) (by omega),bs]
   refine(fin (fun v=>zOp (enW w) (t:Int) v) fun o=>.inl rfl).trans ?_;have:swp x (w.drop t)=im:=by rw[hd,pG];simp only[swp];rw[if_neg g2]
   unfold hdS;rw[this]
 ·rw[ir (by omega),zR,tY ht,bs,a1,zE (by omega) (by omega),bs,o1,bs,a2,zE (by omega) (by omega),bs]
  refine(fin (fun v=>zOq (enW w) (t:Int) v) fun o=>.inr rfl).trans ?_;have:swp x (w.drop t)=im:=by rw[hd,H0 (by omega)];rfl
  unfold hdS;rw[this]
end
end Go.Pl

namespace Go.Pl
open Go Go.Ab Go.Wk Go.Pc
def stI(x:SPr):List Nat→Option (Nat×zEu)
 | []=>im
 |a::w=>match hdS x (a::w)with
  |some r=>ik (0,r)
  |none=>(stI x w).map fun z=>(z.1+1,z.2)
section
variable {x:SPr}
theorem zKD:∀w:List Nat,stS x w=(stI x w).map fun z=>(z.2.1,z.2.2.1,w.take z.1++z.2.2.2)
 | []=>rfl
 |a::w=>by
  simp only[stS,stI];cases hdS x (a::w)with
  |some r=>rfl
  |none=>
   rw[zKD w];cases stI x w with
   |none=>rfl
   |some z=>rfl
theorem zPD:∀{w:List Nat}{z:Nat×zEu},stI x w=ik z→z.1<w.length∧hdS x (w.drop z.1)=ik z.2
 | [],_,h=>by cases h
 |a::w,z,h=>by
  simp only[stI]at h;cases e:hdS x (a::w)with
  |some r=>
   rw[e]at h;cases h;exact⟨by simp,e⟩
  |none=>
   rw[e]at h;cases e2:stI x w with
   |none=>rw[e2]at h;cases h
   |some q=>
    rw[e2]at h;cases h;obtain⟨h1,h2⟩:=zPD e2;exact⟨by simpa using h1,by simpa using h2⟩
theorem zM3:∀(k i:Nat)(w:List Nat),i+k=w.length→(Ku i k).findSome? (fun j=>if(hdS x (w.drop j)).isSome then ik (j:Int)else im)=(stI x (w.drop i)).map fun z=>((i+z.1:Nat):Int)
 |0,i,w,h=>by rw[H0 (by omega)];rfl
 |k+1,i,w,h=>by
  rw[Jd3,Jbm,qT (show i<w.length by omega)];simp only[stI];cases e:hdS x (w.getD i 0::w.drop (i+1))with
  |some r=>rfl
  |none=>
   simp only[Us,Hu,if_false];rw[zM3 k (i+1) w (by omega)];cases stI x (w.drop (i+1))with
   |none=>rfl
   |some z=>
    simp only[H4]
    congr 2;omega
section
variable (h:Pres x)
 include h
theorem zBB{w:List Nat}(hw:∀a∈w,a<x.zA.length)(hl:w.length≤1000000):f_T x (enW w)=ik (match stI x w with|some z=>(z.1:Int)|none=> -1):=by
 have gf:(enW w).length=w.length:=by simp
 unfold f_T;have:=zJi (body:=zUN x (enW w)) w.length (fun j=>if(hdS x (w.drop j)).isSome then ik (j:Int)else im) 0 (Kn _) (fun i _ hi _=>by
  unfold zUN;rw[gf,yZ hi,zM,zIu h hw hl hi,bs];cases hdS x (w.drop i)with
  |some r=>rfl
  |none=>
   simp only[Us];rw[zR,zE (by omega) (by omega),bs,cs];rfl) (fun _=>by
  unfold zUN;rw[gf,vU,zR])
 rw[show((0:Nat):Int)=0 from rfl,Jb9,zM3 w.length 0 w (by omega),Gf]at this;rw[this,bs];cases stI x w with
 |none=>rfl
 |some z=>simp only[H4,zL8,Jc]
theorem zIv{v:List Int}(hn:x.zA.length≤6)(hv:zYf x.zA v):f_x v=ik (enW (nw 0 v))∧(nw 0 v).length≤36:=by
 have hb:∀i,i<v.length→0≤at0 v i∧at0 v i≤6:=fun i hi=>by have h1:=hv.2 i hi;have h2:=(h.os.2 i (by have:=hv.1;omega)).pos;omega
 have:=zFN 0 v fun i hi=>(hb i hi).2
 have hl:=hv.1;exact⟨zAf (by omega) hb,by omega⟩
theorem zCX(hn:x.zA.length≤6){w:List Nat}(hw:∀a∈w,a<x.zA.length)(hl:w.length≤900000){t:Nat}{r:zEu}(ht:t<w.length)(hr:hdS x (w.drop t)=ik r):zOo x (enW w) (t:Int)=ik (enW (w.take t++r.2.2)):=by
 have gr:∀i,i<w.length→w.getD i 0<x.zA.length:=fun i hi=>hw _ (by rw[J2,J4 hi];exact K3 hi)
 have ha:=gr t ht;obtain⟨o1,o2,o3⟩:=jC h ha;have gf:(enW w).length=w.length:=by simp
 have hd:=qT ht;have a1:((w.getD t 0:Nat):Int)+1-1=((w.getD t 0:Nat):Int):=by omega
 have a2:(t:Int)+((yI x (w.getD t 0):Nat):Int)=((t+yI x (w.getD t 0):Nat):Int):=by omega
 obtain⟨p1,p2⟩:=zIv h hn (h.tl _ ha).1.1;have h0:yB (enW w) 0 (t:Int)=ik (enW (w.take t)):=by have:=zDy (w:=w) (Kn t) (by omega);rw[show((0:Nat):Int)=0 from rfl,Gf,Jb9]at this;exact this
 have hs:∀q,q≤w.length→yB (enW w) (q:Int) (w.length:Int)=ik (enW (w.drop q)):=fun q hq=>by rw[zDy hq (Jg _),Js (by rw[Jz];omega)]
 have pw:swp x (w.drop t)=im→(rng (((w.getD t 0:Nat):Int)+1-1)).bind (fun v3=>(yB (enW w) 0 (t:Int)).bind fun v4=>(ixO x.zU v3).bind fun v5=>(f_x v5).bind fun r6=>(ixO x.zA v3).bind fun v7=>(rng ((t:Int)+v7)).bind fun v8=>(yB (enW w) v8 (w.length:Int)).bind fun v9=>(f_y [v4,r6,v9]).bind fun r10=>ik r10)=ik (enW (w.take t++r.2.2)):=fun mg=>by
  unfold hdS at hr;rw[mg]at hr;simp only at hr;rw[hd]at hr;simp only[pws]at hr;split at hr
  ·rename_i g
   have eA:=zBA g;rw[←hd,Jz]at eA;cases hr;rw[a1,zE (by omega) (by omega),bs,h0,bs,yQ [] (by rw[h.pl];exact ha),bs,p1,bs,o1,bs,a2,zE (by omega) (by omega),bs,hs _ (by omega),bs,zAT (by simp) (by simp only[Li,G6,J5,Ji,Jw,Jz,Jp,J7,enW];omega),bs];simp only[Li,G6,Jd,enW,L8];rw[←hd,Jbp]
  ·cases hr
 unfold zOo;rw[gf,zE (by omega) (by omega),bs]
 by_cases g:t+1<w.length
 ·have pG:=qT g
  have hb:=gr _ g;rw[iu (by omega),zM,tY ht,bs,bs,show(t:Int)+1=((t+1:Nat):Int)from by omega,tY g,bs]
  by_cases g2:w.getD (t+1) 0<w.getD t 0
  ·rw[hd,pG]at hr
   unfold hdS at hr;simp only[swp]at hr;rw[if_pos g2]at hr;cases hr;have cC:=h.tl _ hb;have de:=cC.2.2 (w.getD t 0-(w.getD (t+1) 0+1)) (by have:=cC.2.1;omega);obtain⟨q1,q2⟩:=zIv h hn de.1;have b1:((w.getD (t+1) 0:Nat):Int)+1-1=((w.getD (t+1) 0:Nat):Int):=by omega
   have b2:((w.getD t 0:Nat):Int)-((w.getD (t+1) 0:Nat):Int)-1=((w.getD t 0-(w.getD (t+1) 0+1):Nat):Int):=by omega
   rw[iu (by omega),zM,bs,a1,zE (by omega) (by omega),bs,bs,tY g,bs,b1,zE (by omega) (by omega),bs,h0,bs,zE (by omega) (by omega),bs,yQ [] (by rw[h.cl];exact hb),bs,zE (by omega) (by omega),bs,b2,zE (by omega) (by omega),bs,yQ [] (by have:=cC.2.1;omega),bs,q1,bs,zE (by omega) (by omega),bs,show(t:Int)+2=((t+2:Nat):Int)from by omega,hs _ (by omega),bs,zAT (by simp) (by simp only[Li,G6,J5,Ji,Jw,Jz,Jp,J7,enW];omega),bs];simp only[Li,G6,Jd,enW,L8,Jo,K4,Jx]
  ·rw[ir (by omega),zR,bs]
   exact pw (by rw[hd,pG];simp only[swp];rw[if_neg g2])
 ·rw[ir (by omega),zR,tY ht,bs]
  exact pw (by rw[hd,H0 (by omega)];rfl)
end
end
end Go.Pl

namespace Go.Pl
open Go Go.Ab Go.Wk Go.Pc
def smx(p:Int)(D N:Nat)(F:Nat→Nat→Nat→Int):List zT:=gl N fun r=>zT.mk p (D:Int) (gl D fun i=>mkv D fun j=>F r i j%p)
def upd(F:Nat→Nat→Nat→Int)(s:Int)(r0:Nat)(A:Mx)(c:Nat):Nat→Nat→Nat→Int:=fun r i j=>F r i j+if r=r0∧i<c then s*ent A i j else 0
theorem zBC{β:Type}{n:Nat}{f g:Nat→β}(h:∀i,i<n→f i=g i):gl n f=gl n g:=by simp only[gl];exact Qe fun i hi=>h i (Kr.1 hi)
section
variable {x:SPr}{m:zB}{D N:Nat}{s:Int}{r0:Nat}{A:Mx}{T0:List zT}
theorem zFY(hp:Prime m.Prime)(hD:D≤3)(hN:N≤100)(hs:-7≤s∧s≤7)(hr:r0<N)(hA:Mat m.Prime D A){F:Nat→Nat→Nat→Int}{L:(List zT)×Int→Option (((List zT)×Int)⊕(List zT))}
  (hL:L=zUK ⟨x,m,T0⟩ s (r0:Int) (zT.mk m.Prime (D:Int) A)∨L=zUL ⟨x,m,T0⟩ s (r0:Int) (zT.mk m.Prime (D:Int) A)∨L=zUM ⟨x,m,T0⟩ s (r0:Int) (zT.mk m.Prime (D:Int) A)):
  zI L (smx m.Prime D N F,0)=ik (smx m.Prime D N (upd F s r0 A D)):=by
 have bN:=hp.pos;have fT:=hA.1;have gB:∀c,c<D→ ∀(k:Nat),(c:Int)+1=(k:Int)→((ixO A (c:Int)).bind fun v10=>(ixO (smx m.Prime D N (upd F s r0 A c)) (r0:Int)).bind fun v11=>(ixO v11.Rows (c:Int)).bind fun v12=>(f_s v12 v10 s m.Prime).bind fun r13=>(rng ((c:Int)+1)).bind fun v14=>
   (ik (.inl ((smx m.Prime D N (upd F s r0 A c)).set (r0:Int).toNat (zT.mk v11.Prime v11.xI (v11.Rows.set (c:Int).toNat r13)),v14)):Option (((List zT)×Int)⊕(List zT))))=ik (.inl (smx m.Prime D N (upd F s r0 A (c+1)),((c+1:Nat):Int))):=fun c hc k _=>by
  have fO:Row m.Prime D (mkv D fun j=>upd F s r0 A c r0 c j%m.Prime):=⟨zZ _ _,fun j hj=>by rw[yG hj];exact⟨Kx _ (show m.Prime≠0 by omega),by have:=Kh (upd F s r0 A c r0 c j) (show 0<m.Prime by omega);omega⟩⟩
  rw[yQ [] (by omega),bs,smx,zFb hr,bs];simp only
  rw[zFb hc,bs,zA3 hp fO (hA.2 c hc) hs (by omega),bs,zE (by omega) (by omega),bs,Ja,Ja,zKs,zKs,cs]
  congr 3
  refine zBC fun r _=>?_
  by_cases g:r=r0
  ·rw[if_pos g,g]
   congr 1
   refine zBC fun i _=>?_
   by_cases g2:i=c
   ·rw[if_pos g2,g2,uH]
    refine yC fun j hj=>?_
    rw[yG hj,upd,upd,if_neg (fun z=>absurd z.2 (Jbs c)),if_pos ⟨rfl,Nat.lt_succ_self c⟩,H2];show(F r0 c j%m.Prime+s*ent A c j)%m.Prime=_;rw[Int.emod_add_emod]
   ·rw[if_neg g2]
    refine yC fun j hj=>?_
    rw[upd,upd]
    by_cases g3:i<c
    ·rw[if_pos ⟨rfl,g3⟩,if_pos ⟨rfl,by omega⟩]
    ·rw[if_neg (fun z=>g3 z.2),if_neg (fun z=>g3 (by omega))]
  ·rw[if_neg g]
   congr 1
   refine zBC fun i _=>yC fun j _=>?_
   rw[upd,upd,if_neg (fun z=>g z.1),if_neg (fun z=>g z.1)]
 have:=zX (body:=L) (r:=smx m.Prime D N (upd F s r0 A D)) (fun c=>(smx m.Prime D N (upd F s r0 A c),(c:Int))) D (fun c hc=>by
  rcases hL with rfl|rfl|rfl
  ·unfold zUK
   simp only
   rw[show((A.length:Nat):Int)=(D:Int)from by rw[fT],yZ hc,zM];exact gB c hc (c+1) (by omega)
  ·unfold zUL
   simp only
   rw[show((A.length:Nat):Int)=(D:Int)from by rw[fT],yZ hc,zM];exact gB c hc (c+1) (by omega)
  ·unfold zUM
   simp only
   rw[show((A.length:Nat):Int)=(D:Int)from by rw[fT],yZ hc,zM];exact gB c hc (c+1) (by omega)) (by
  rcases hL with rfl|rfl|rfl
  ·unfold zUK
   simp only
   rw[show((A.length:Nat):Int)=(D:Int)from by rw[fT],vU,zR]
  ·unfold zUL
   simp only
   rw[show((A.length:Nat):Int)=(D:Int)from by rw[fT],vU,zR]
  ·unfold zUM
   simp only
   rw[show((A.length:Nat):Int)=(D:Int)from by rw[fT],vU,zR])
 rw[show smx m.Prime D N (upd F s r0 A 0)=smx m.Prime D N F from zBC fun r _=>by
  congr 1
  refine zBC fun i _=>yC fun j _=>?_
  rw[upd,if_neg (fun z=>Qg _ z.2),H2]]at this
 exact this
end
theorem zTv:∀n:Nat,n<7→ ∀j:Nat,j<n→ ∀i:Nat,i<j→((rng ((n:Int)-1)).bind fun v10=>(rng ((i:Int)*v10)).bind fun v11=>(rng ((n:Int)+v11)).bind fun v12=>(rng ((i:Int)-1)).bind fun v13=>(rng ((i:Int)*v13)).bind fun v14=>(tR v14 2).bind fun v15=>(rng (v12-v15)).bind fun v16=>(rng (v16+(j:Int))).bind fun v17=>(rng (v17-(i:Int))).bind fun v18=>(rng (v18-1)).bind fun v19=>ik v19)=ik ((base n i+(j-(i+1)):Nat):Int):=by decide+kernel
end Go.Pl

namespace Go.Pl
open Go Go.Ab Go.Wk Go.Pc
section
variable {x:SPr}{m:zB}{D:Nat}{T0:List zT} (h:Pres x) (hn:x.zA.length≤6) (hD:MOk x.zA.length m D)
 include h hn
theorem zG3{w:List Nat}(hw:∀a∈w,a<x.zA.length)(hl:w.length≤900000){t:Nat}{r:zEu}(ht:t<w.length)(hr:hdS x (w.drop t)=ik r):zW5 ⟨x,m,T0⟩ (enW w) (t:Int)=ik (r.1:Int):=by
 have _:=h;have gr:∀i,i<w.length→w.getD i 0<x.zA.length:=fun i hi=>hw _ (by rw[J2,J4 hi];exact K3 hi)
 have ha:=gr t ht;have gf:(enW w).length=w.length:=by simp
 have hd:=qT ht;have a1:((w.getD t 0:Nat):Int)+1-1=((w.getD t 0:Nat):Int):=by omega
 have pw:swp x (w.drop t)=im→(rng (((w.getD t 0:Nat):Int)+1-1)).bind (fun v3=>ik v3)=ik (r.1:Int):=fun mg=>by
  unfold hdS at hr;rw[mg]at hr;simp only at hr;rw[hd]at hr;simp only[pws]at hr;split at hr
  ·cases hr
   rw[a1,zE (by omega) (by omega),bs]
  ·cases hr
 unfold zW5;rw[gf,zE (by omega) (by omega),bs]
 by_cases g:t+1<w.length
 ·have pG:=qT g
  have hb:=gr _ g;rw[iu (by omega),zM,tY ht,bs,bs,show(t:Int)+1=((t+1:Nat):Int)from by omega,tY g,bs]
  by_cases g2:w.getD (t+1) 0<w.getD t 0
  ·rw[hd,pG]at hr
   unfold hdS at hr;simp only[swp]at hr;rw[if_pos g2]at hr;cases hr;have b1:((w.getD (t+1) 0:Nat):Int)+1-1=((w.getD (t+1) 0:Nat):Int):=by omega
   rw[iu (by omega),zM,bs,a1,zE (n:=((w.getD t 0:Nat):Int)) (by omega) (by omega),bs,bs,tY g,bs,b1,zE (n:=((w.getD (t+1) 0:Nat):Int)) (by omega) (by omega),bs];exact zTv x.zA.length (by omega) (w.getD t 0) ha (w.getD (t+1) 0) g2
  ·rw[ir (by omega),zR,bs]
   exact pw (by rw[hd,pG];simp only[swp];rw[if_neg g2])
 ·rw[ir (by omega),zR,tY ht,bs]
  exact pw (by rw[hd,H0 (by omega)];rfl)
 include hD
theorem zFZ{w:List Nat}(hw:∀a∈w,a<x.zA.length)(hl:w.length≤60000){t:Nat}{r:zEu}(ht:t<w.length)(hr:hdS x (w.drop t)=ik r){s:Int}(hs:-7≤s∧s≤7){F:Nat→Nat→Nat→Int}:
  f_j ⟨x,m,smx m.Prime D (base x.zA.length x.zA.length) F⟩ (enW w) (t:Int) s=ik (enW (w.take t++r.2.2),⟨x,m,smx m.Prime D (base x.zA.length x.zA.length) (upd F s r.1 (wM m.Prime D m.zG r.2.1 (idM D)) D)⟩):=by
 have hp:=hD.p.pos;have h3:=hD.d3;have pd:=vT x.zA.length (by omega);have gr:∀i,i<w.length→w.getD i 0<x.zA.length:=fun i hi=>hw _ (by rw[J2,J4 hi];exact K3 hi)
 have ha:=gr t ht;obtain⟨o1,o2,o3⟩:=jC h ha;have gf:(enW w).length=w.length:=by simp
 have hd:=qT ht;have a1:((w.getD t 0:Nat):Int)+1-1=((w.getD t 0:Nat):Int):=by omega
 have a2:(t:Int)+((yI x (w.getD t 0):Nat):Int)=((t+yI x (w.getD t 0):Nat):Int):=by omega
 have dV:=zXn hn (fun a ha=>hw a (Ut ha)) hr;have hA:∀z,Mat m.Prime D (wM m.Prime D m.zG z (idM D)):=fun z=>zBW (by omega) _ (tW (by omega))
 have gJ:∀q,q≤w.length→yB (enW w) (q:Int) (w.length:Int)=ik (enW (w.drop q)):=fun q hq=>by rw[zDy hq (Jg _),Js (by rw[Jz];omega)]
 have bB:∀q,q≤w.length→f_E m (enW (w.drop q))=ik (zT.mk m.Prime (D:Int) (wM m.Prime D m.zG (w.drop q) (idM D))):=fun q hq=>
  zBe hD (by omega) (fun a ha=>hw a (Ut ha)) (by rw[Jz];omega)
 have pw:swp x (w.drop t)=im→r.2.1=w.drop (t+yI x (w.getD t 0))∧t+yI x (w.getD t 0)≤w.length:=fun mg=>by
  unfold hdS at hr;rw[mg]at hr;simp only at hr;rw[hd]at hr;simp only[pws]at hr;split at hr
  ·rename_i g
   have eA:=zBA g;rw[←hd,Jz]at eA;cases hr;exact⟨by rw[←hd,Jbp],by omega⟩
  ·cases hr
 unfold f_j;rw[zG3 h hn hw (by omega) ht hr,bs,zCX h hn hw (by omega) ht hr,bs,gf,zE (by omega) (by omega),bs]
 by_cases g:t+1<w.length
 ·have pG:=qT g
  have hb:=gr _ g;rw[ir (by omega),zR,tY ht,bs,bs,show(t:Int)+1=((t+1:Nat):Int)from by omega,tY g,bs]
  by_cases g2:w.getD (t+1) 0<w.getD t 0
  ·rw[hd,pG]at hr
   unfold hdS at hr;simp only[swp]at hr;rw[if_pos g2]at hr;cases hr;rw[ir (by omega),zR,zE (by omega) (by omega),bs,show(t:Int)+2=((t+2:Nat):Int)from by omega,gJ _ (by omega),bs,bB _ (by omega),bs,zFY hD.p h3 (by omega) hs dV (hA _) (.inr (.inr rfl)),bs]
  ·obtain⟨e1,e2⟩:=pw (by rw[hd,pG];simp only[swp];rw[if_neg g2])
   rw[iu (by omega),zM,bs,a1,zE (by omega) (by omega),bs,o1,bs,a2,zE (by omega) (by omega),bs,gJ _ e2,bs,bB _ e2,bs,zFY hD.p h3 (by omega) hs dV (hA _) (.inr (.inl rfl)),bs,e1]
 ·obtain⟨e1,e2⟩:=pw (by rw[hd,H0 (by omega)];rfl)
  rw[iu (by omega),zM,tY ht,bs,a1,zE (by omega) (by omega),bs,o1,bs,a2,zE (by omega) (by omega),bs,gJ _ e2,bs,bB _ e2,bs,zFY hD.p h3 (by omega) hs dV (hA _) (.inl rfl),bs,e1]
end
end Go.Pl

namespace Go.Pl
open Go Go.Ab Go.Wk Go.Pc
inductive Cb (x:SPr) (M:Nat):List Nat→Trc→List Nat→Prop where
 |refl (w:List Nat) (hl:w.length≤M) (hw:∀a∈w,a<x.zA.length):Cb x M w [] w
 |step {w w1 w' s:List Nat}{r:Nat}{tr:Trc} (hl:w.length≤M) (hw:∀a∈w,a<x.zA.length) (hs:stS x w=ik (r,s,w1)) (h:Cb x M w1 tr w'):Cb x M w ((r,s)::tr) w'
theorem Cb.st{x:SPr}{M:Nat}{w w':List Nat}{tr:Trc}(h:Cb x M w tr w'):w.length≤M∧ ∀a∈w,a<x.zA.length:=by
 cases h with
 |refl _ hl hw=>exact⟨hl,hw⟩
 |step hl hw _ _=>exact⟨hl,hw⟩
def zDA(m:zB)(D:Nat)(s:Int):(Nat→Nat→Nat→Int)→Trc→Nat→Nat→Nat→Int
 |F,[]=>F
 |F,(r,z)::tr=>zDA m D s (upd F s r (wM m.Prime D m.zG z (idM D)) D) tr
theorem zKE{m:zB}{D:Nat}{s:Int}{r i j:Nat}(hi:i<D):∀(tr:Trc)(F:Nat→Nat→Nat→Int),zDA m D s F tr r i j=F r i j+s*zBh m.Prime D m tr r i j
 | [],F=>by rw[zDA,zBh,Ld,H2]
 |(q,z)::tr,F=>by
  rw[zDA,zKE hi tr,upd,zBh,Qs,Int.add_assoc]
  congr 2
  by_cases g:q=r
  ·rw[if_pos g,if_pos ⟨g.symm,hi⟩]
  ·rw[if_neg g,if_neg fun z=>g z.1.symm,Ld]
abbrev zNW(x:SPr)(w:List Nat):Int:=match stI x w with
 |some z=>(z.1:Int)
 |none=> -1
section
variable {x:SPr}{m:zB}{D:Nat} (h:Pres x) (hn:x.zA.length≤6) (hD:MOk x.zA.length m D)
 include h hn hD
theorem zKF{s:Int}(hs:-7≤s∧s≤7){w w':List Nat}{tr:Trc}(hc:Cb x 60000 w tr w')(eI:stS x w'=im):∀F:Nat→Nat→Nat→Int,
  zI (zRh s) (x,m,smx m.Prime D (base x.zA.length x.zA.length) F,enW w,zNW x w)=ik (x,m,smx m.Prime D (base x.zA.length x.zA.length) (zDA m D s F tr)):=by
 induction hc with
 |refl w hl hw=>
  intro F;have e:zNW x w= -1:=by
   rw[zKD]at eI;unfold zNW;cases g:stI x w with
   |none=>rfl
   |some z=>rw[g]at eI;cases eI
  rw[xH,e];unfold zRh;simp only
  rw[ir (by omega),zR];rfl
 |step hl hw gB hc ih=>
  rename_i w w1 w2 z r tr;intro F;rw[zKD]at gB;cases g:stI x w with
  |none=>rw[g]at gB;cases gB
  |some q=>
   rw[g]at gB;obtain⟨t,q⟩:=q;simp only[H4,Ln.injEq,Jao.injEq]at gB;obtain⟨e1,e2,e3⟩:=gB;obtain⟨ht,hh⟩:=zPD g;simp only at ht hh;have fd:=hc.st;have e:zNW x w=(t:Int):=by unfold zNW;rw[g]
   have h1:=zFZ h hn hD hw hl ht hh hs (F:=F);rw[e3,e1,e2]at h1;have h2:=zBB h fd.2 (by omega);rw[xH,e];have hb:zRh s (x,m,smx m.Prime D (base x.zA.length x.zA.length) F,enW w,(t:Int))=ik (.inl (x,m,smx m.Prime D (base x.zA.length x.zA.length) (upd F s r (wM m.Prime D m.zG z (idM D)) D),enW w1,zNW x w1)):=by
    unfold zRh;simp only
    rw[iu (by omega),zM];refine(congrArg (fun o=>Hs o _) h1).trans ?_;rw[bs];simp only
    rw[h2,bs]
    try rfl
   rw[hb];simp only
   exact ih eI _
theorem zFo{s:Int}(hs:-7≤s∧s≤7){w w':List Nat}{tr:Trc}(hc:Cb x 60000 w tr w')(eI:stS x w'=im)(F:Nat→Nat→Nat→Int):
  f_r ⟨x,m,smx m.Prime D (base x.zA.length x.zA.length) F⟩ (enW w) s=ik ⟨x,m,smx m.Prime D (base x.zA.length x.zA.length) (zDA m D s F tr)⟩:=by
 have fd:=hc.st;unfold f_r;rw[show f_T (xQ.p ⟨x,m,smx m.Prime D (base x.zA.length x.zA.length) F⟩) (enW w)=ik (zNW x w)from zBB h fd.2 (by omega),bs];have:=zKF h hn hD hs hc eI F;refine(congrArg (fun o=>Hs o _) this).trans ?_;rw[bs]
end
end Go.Pl

namespace Go.Pl
open Go Go.Ab Go.Wk Go.Pc
inductive Cl (x:SPr) (k M:Nat):List Nat→Trc→List Nat→Prop where
 |refl (w:List Nat) (hl:w.length≤M) (hw:∀a∈w,k≤a∧a<x.zA.length):Cl x k M w [] w
 |step {w w1 w' s:List Nat}{r:Nat}{tr:Trc} (hl:w.length≤M) (hw:∀a∈w,k≤a∧a<x.zA.length) (hs:stS x w=ik (r,s,w1)) (h:Cl x k M w1 tr w'):Cl x k M w ((r,s)::tr) w'
theorem Cl.trans{x:SPr}{k M:Nat}{w w1 w2:List Nat}{t1 t2:Trc}(h:Cl x k M w t1 w1)(h2:Cl x k M w1 t2 w2):Cl x k M w (t1++t2) w2:=by
 induction h with
 |refl w=>exact h2
 |step hl hw hs _ ih=>exact .step hl hw hs (ih h2)
theorem Cl.mono{x:SPr}{k M M2:Nat}(hM:M≤M2){w w':List Nat}{tr:Trc}(h:Cl x k M w tr w'):Cl x k M2 w tr w':=by
 induction h with
 |refl w hl hw=>exact .refl _ (by omega) hw
 |step hl hw hs _ ih=>exact .step (by omega) hw hs ih
theorem Cl.cb{x:SPr}{k M:Nat}{w w':List Nat}{tr:Trc}(h:Cl x k M w tr w'):Cb x M w tr w':=by
 induction h with
 |refl w hl hw=>exact .refl _ hl fun a ha=>(hw a ha).2
 |step hl hw hs _ ih=>exact .step hl (fun a ha=>(hw a ha).2) hs ih
theorem Cl.col{x:SPr}{k M:Nat}{w w':List Nat}{tr:Trc}(h:Cl x k M w tr w'):Col x k w tr w':=by
 induction h with
 |refl w hl hw=>exact .refl _
 |step hl hw hs _ ih=>exact .step hw hs ih
section
variable {x:SPr} (h:Pres x)
 include h
theorem zPE:∀(d k:Nat),k+d=x.zA.length→ ∀y,V (suf x k) y→(nw k y).length≤6*d
 |0,k,hk,y,hy=>by
  rw[vX (x:=x) (k:=k) (by omega)]at hy;cases y with
  |nil=>simp[nw]
  |cons b y=>cases hy
 |d+1,k,hk,y,hy=>by
  have hp:=(h.os.2 k (by omega)).pos;rw[yE (x:=x) (by omega)]at hy;cases y with
  |nil=>exact hy.elim
  |cons b y=>
   obtain⟨⟨h1,h2⟩,h3⟩:=hy;have ih:=zPE d (k+1) (by omega) y h3;have cw:b<at0 x.zA k:=h2;simp only[nw,J5,Jh];omega
theorem Cl.ctx{i a M:Nat}(hi:i<x.zA.length)(ha:a<yI x i){s:List Nat}(hs:∀b∈s,i≤b∧b<x.zA.length){w w':List Nat}{tr:Trc}(hc:Cl x (i+1) M w tr w'):
  Cl x i (a+M+s.length) (J1 a i++(w++s)) (tr.map fun q=>(q.1,q.2++s)) (J1 a i++(w'++s)):=by
 have mem:∀{w:List Nat},(∀b∈w,i+1≤b∧b<x.zA.length)→ ∀b∈J1 a i++(w++s),i≤b∧b<x.zA.length:=fun hw b hb=>by
  simp only[Je]at hb;rcases hb with hb|hb|hb
  ·have:=Kc hb;omega
  ·have:=hw b hb;omega
  ·exact hs b hb
 induction hc with
 |refl w hl hw=>exact .refl _ (by simp;omega) (mem hw)
 | @step w w1 w' s1 r tr hl hw gB _ ih=>
  refine .step (by simp;omega) (mem hw) ?_ ih;rw[zEv ha a (Jg _) fun b hb=>?_,zK1 (fun b hb=>zK4 h (hw b hb).2) gB]
  ·rfl
  ·cases w with
   |nil=>cases gB
   |cons c w=>
    simp only[K4,Qn,Ln.injEq]at hb;have:=hw c (by simp);omega
theorem zKG(hn:x.zA.length≤6){i j:Nat}(hi:i<j)(hj:j<x.zA.length):(nw 0 (lcj x i j)).length≤36:=(zIv h hn (uL h hi hj).1).2
theorem zPF(hn:x.zA.length≤6){i:Nat}:∀{ur:List Nat},(∀b∈ur,i+1≤b∧b<x.zA.length)→(cwd x i ur).length≤36*ur.length
 | [],_=>by simp[cwd]
 |l::ur,hu=>by
  have h1:=hu l (by simp);have h2:=zKG h hn (show i<l by omega) h1.2;have ih:=zPF hn (ur:=ur) fun b hb=>hu b (by simp[hb])
  simp only[cwd,J5,J7];omega
theorem Cl.move(hn6:x.zA.length≤6){i a:Nat}(hi:i<x.zA.length)(ha:a<yI x i):∀{ur:List Nat},(∀b∈ur,i+1≤b∧b<x.zA.length)→stS x ur.reverse=im→ ∀{z:List Nat},(∀b∈z,i≤b∧b<x.zA.length)→
  Cl x i (a+1+37*ur.length+z.length) (J1 a i++(ur.reverse++i::z)) (mtr x i ur z) (J1 (a+1) i++(cwd x i ur++z))
 | [],_,_,z,hz=>by
  have e:J1 a i++(([]:List Nat).reverse++i::z)=J1 (a+1) i++(cwd x i []++z):=by rw[Lw];simp[cwd]
  rw[e];refine .refl _ (by simp[cwd]) fun b hb=>?_
  simp only[Je,cwd,Jx]at hb;rcases hb with hb|hb
  ·have:=Kc hb;omega
  ·exact hz b hb
 |l::ur,hu,hn,z,hz=>by
  obtain⟨l1,l2⟩:=hu l (by simp);have fV:∀b∈ur,i+1≤b∧b<x.zA.length:=fun b hb=>hu b (by simp[hb])
  have cU:=sX h (uL h (show i<l by omega) l2) hi;have bf:=zKG h hn6 (show i<l by omega) l2;rw[Jbd]at hn ⊢
  have b9:=zGu (fun b hb=>zK4 h (fV b (by simpa using hb)).2) hn;have eM:∀b∈nw 0 (lcj x i l)++z,i≤b∧b<x.zA.length:=fun b hb=>by
   simp only[Je]at hb;rcases hb with hb|hb
   ·have:=cU.2 b hb;omega
   ·exact hz b hb
  have ih:=(Cl.move hn6 hi ha fV b9 eM).mono (M2:=a+1+37*(l::ur).length+z.length) (by rw[J5,J7];omega);rw[show cwd x i (l::ur)++z=cwd x i ur++(nw 0 (lcj x i l)++z)from by simp[cwd]];have e1:ur.reverse++[l]++i::z=ur.reverse++l::i::z:=by simp
  rw[e1];refine .step (by simp;omega) (fun b hb=>?_) ?_ ih
  ·simp only[Je,J8,Jc3]at hb
   rcases hb with hb|hb|hb|hb|hb
   ·have:=Kc hb;omega
   ·have:=fV b hb;omega
   ·omega
   ·omega
   ·exact hz b hb
  ·rw[zEv ha a (Jg _) fun b hb=>?_,zTc (fun b hb=>by have:=fV b (by simpa using hb);omega) (by omega) hn]
   ·rfl
   ·have:b∈ur.reverse++l::i::z:=Jb4 (by rw[hb];rfl)
    cases e:ur.reverse with
    |nil=>rw[e]at hb;simp only[Jx,Qn,Ln.injEq]at hb;omega
    |cons c t=>
     rw[e]at hb;simp only[K4,Qn,Ln.injEq]at hb;have:=fV c (by rw[←Jc3,e];simp);omega
end
end Go.Pl

namespace Go.Pl
open Go Go.Ab Go.Wk Go.Pc
section
variable {x:SPr} (h:Pres x) (hn:x.zA.length≤6)
 include h hn
theorem zKH{k M W L:Nat}(hk:k<x.zA.length)(P:∀v:List Nat,v.length≤W→(∀a∈v,k+1≤a∧a<x.zA.length)→ ∃tr y,Cl x (k+1) M v tr (nw (k+1) y)∧V (suf x (k+1)) y):∀(z:List Nat),z.length≤L→(∀a∈z,k≤a∧a<x.zA.length)→ ∀(a:Nat),a<yI x k→ ∀(v:List Nat),v.length+z.length≤W→1400+z.length≤W→(∀a∈v,k+1≤a∧a<x.zA.length)→
  ∃tr y,Cl x k (M+L+1500) (J1 a k++(v++z)) tr (nw k y)∧V (suf x k) y
 | [],_,_,a,ha,v,pe,_,hv=>by
  obtain⟨tr,y,c1,c2⟩:=P v (by simpa using pe) hv;have ho:=(jC h hk).2.2;have hc:=(Cl.ctx h hk ha (s:=[]) (fun b hb=>by simp at hb) c1).mono (M2:=M+L+1500) (by simp;omega);rw[show(fun q:Nat×List Nat=>(q.1,q.2++[]))=id from by funext q;simp,List.map_id,Jd,Jd]at hc;refine⟨tr,(a:Int)::y,?_,?_⟩
  ·simp only[nw,Ja];rw[Jd];exact hc
  ·rw[yE hk]
   refine⟨⟨by omega,?_⟩,c2⟩;show(a:Int)<at0 x.zA k;have:a<(at0 x.zA k).toNat:=ha;omega
 |l::z,mw,hz,a,ha,v,pe,hW,hv=>by
  have ho:=(jC h hk).2.2;have hzl2:z.length+1≤L:=by simpa using mw
  have pP:v.length+(z.length+1)≤W:=by simpa using pe
  have hW2:1400+(z.length+1)≤W:=by simpa using hW
  have eM:∀b∈z,k≤b∧b<x.zA.length:=fun b hb=>hz b (by simp[hb])
  obtain⟨l1,l2⟩:=hz l (by simp);rcases Jk k l with g|g
  ·obtain⟨tr,y,c1,c2⟩:=zKH (L:=L) hk P z (by omega) eM a ha (v++[l]) (by simp;omega) (by omega) (fun b hb=>by
    simp only[Je,List.mem_singleton]at hb;rcases hb with hb|rfl
    ·exact hv b hb
    ·omega)
   exact⟨tr,y,by rw[Jb]at c1;exact c1,c2⟩
  ·obtain rfl:l=k:=by omega
   obtain⟨tr1,y1,c1,c2⟩:=P v (by omega) hv;have gT:=zP3 h (show l+1≤x.zA.length by omega) c2;have cW:∀b∈(nw (l+1) y1).reverse,l+1≤b∧b<x.zA.length:=fun b hb=>gT b (by simpa using hb)
   have fh:(nw (l+1) y1).length≤36:=by have:=zPE h (x.zA.length-(l+1)) (l+1) (by omega) y1 c2;omega
   have gE:(cwd x l (nw (l+1) y1).reverse).length≤1296:=by have:=zPF h hn cW;rw[Jaq]at this;omega
   have k1:=(Cl.ctx h hk ha (s:=l::z) hz c1).mono (M2:=M+L+1500) (by simp;omega);have k2:=(Cl.move h hn hk ha cW (by rw[Kj];exact zFW h _ _ (by omega:l+1+(x.zA.length-(l+1))=x.zA.length) y1 c2) eM).mono (M2:=M+L+1500) (by rw[Jaq];omega);rw[Kj]at k2;have p9:=zK5 h cW;rcases Jk (a+1) (yI x l)with g2|g2
   ·obtain⟨tr2,y2,d1,d2⟩:=zKH (L:=L) hk P z (by omega) eM (a+1) g2 (cwd x l (nw (l+1) y1).reverse) (by omega) (by omega) p9
    exact⟨_,y2,k1.trans (k2.trans d1),d2⟩
   ·have g4:a+1=yI x l:=by omega
    have p7:=jO h hk;have pC:=sX h p7 hk;have pz:=(zIv h hn p7.1).2;have aV:∀b∈nw 0 (x.zU.getD l [])++cwd x l (nw (l+1) y1).reverse,l+1≤b∧b<x.zA.length:=fun b hb=>by
     simp only[Je]at hb;rcases hb with hb|hb
     ·exact pC.2 b hb
     ·exact p9 b hb
    obtain⟨tr2,y2,d1,d2⟩:=zKH (L:=L) hk P z (by omega) eM 0 (by omega) _ (by rw[J5];omega) (by omega) aV;rw[Hm,Jx,Jb]at d1;have k3:Cl x l (M+L+1500) (J1 (a+1) l++(cwd x l (nw (l+1) y1).reverse++z)) ((l,cwd x l (nw (l+1) y1).reverse++z)::tr2) (nw l y2):=by
     refine .step (by rw[J5,J5,Jh];omega) (fun b hb=>?_) (by rw[g4];exact zWZ (zK4 h hk) _) d1;simp only[Je]at hb;rcases hb with hb|hb|hb
     ·have:=Kc hb;omega
     ·have:=p9 b hb;omega
     ·exact eM b hb
    exact⟨_,y2,k1.trans (k2.trans k3),d2⟩
def lnB:Nat→Nat→Nat
 |0,l=>l
 |d+1,l=>lnB d (l+1400)+l+1500
theorem zXp:∀(d k:Nat),k+d=x.zA.length→ ∀(L:Nat)(z:List Nat),z.length≤L→(∀a∈z,k≤a∧a<x.zA.length)→ ∃tr y,Cl x k (lnB d L) z tr (nw k y)∧V (suf x k) y
 |0,k,hk,L,z,_,hz=>by
  have:z=[]:=by
   cases z with
   |nil=>rfl
   |cons a z=>have:=hz a (by simp);omega
  subst this;exact⟨[],[],.refl _ (by simp) (by simp),by rw[vX (x:=x) (k:=k) (by omega)];rfl⟩
 |d+1,k,hk,L,z,hl,hz=>by have ho:=zK4 h (show k<x.zA.length by omega);obtain⟨tr,y,c1,c2⟩:=zKH h hn (M:=lnB d (L+1400)) (W:=L+1400) (L:=L) (show k<x.zA.length by omega) (fun v hv hvm=>zXp d (k+1) (by omega) (L+1400) v hv hvm) z hl hz 0 (by omega) [] (by simp;omega) (by omega) (fun b hb=>by simp at hb);exact⟨tr,y,by simpa[lnB]using c1,c2⟩
theorem zPG{k L:Nat}(hk:k≤x.zA.length){z:List Nat}(hl:z.length≤L){tr:Trc}{y:Vec}(hc:qO x k z tr y)(hz:∀a∈z,k≤a∧a<x.zA.length):Cb x (lnB (x.zA.length-k) L) z tr (nw k y)∧stS x (nw k y)=im:=by obtain⟨tr2,y2,c1,c2⟩:=zXp h hn (x.zA.length-k) k (by omega) L z hl hz;have n1:=zFW h (x.zA.length-k) k (by omega) y hc.v;have n2:=zFW h (x.zA.length-k) k (by omega) y2 c2;obtain⟨e1,e2⟩:=Col.det hc.col c1.col n1 n2;rw[e1,e2];exact⟨c1.cb,n2⟩
end
theorem zYG:∀d:Nat,d<7→lnB d 100≤60000:=by decide
end Go.Pl

namespace Go.Pl
open Go Go.Ab Go.Wk Go.Pc
structure PD.Ok (x:SPr) (d:PD):Prop where
 h1:hdS x (d.wd.drop 0)=ik (d.r1,d.s1,d.w1)
 ht:d.t<d.wd.length
 h2:∃q,hdS x (d.wd.drop d.t)=ik (d.r2,d.s2,q)∧d.w2=d.wd.take d.t++q
 l:d.wd.length≤9
 l1:d.w1.length≤100
 l2:d.w2.length≤100
 m1:∀a∈d.w1,d.k≤a∧a<x.zA.length
 m2:∀a∈d.w2,d.k≤a∧a<x.zA.length
section
variable {x:SPr} (h:Pres x) (hn:x.zA.length≤6)
 include h hn
theorem zPH{a b:Nat}{s:List Nat}(bV:b<a):hdS x (a::b::s)=ik (base x.zA.length b+(a-(b+1)),s,b::(nw 0 (lcj x b a)++s)):=by have _:=h;have _:=hn;unfold hdS;simp only[swp];rw[if_pos bV]
theorem zPI{a:Nat}{s:List Nat}(ha:a<x.zA.length):hdS x (J1 (yI x a) a++s)=ik (a,s,nw 0 (x.zU.getD a [])++s):=by
 have _:=hn;obtain⟨q,hq⟩:∃q,yI x a=q+2:=⟨yI x a-2,by have:=(jC h ha).2.1;omega⟩;have e:swp x (J1 (yI x a) a++s)=im:=by rw[hq,Jq,Jq];simp only[K4,swp];rw[if_neg (Jbs a)]
 unfold hdS;rw[e];have e2:J1 (yI x a) a++s=a::(J1 (q+1) a++s):=by rw[hq,Jq];rfl
 have e3:(J1 (yI x a) a++s).take (yI x a)=J1 (yI x a) a:=Ju (Jh);have e4:(J1 (yI x a) a++s).drop (yI x a)=s:=K7 (Jh);rw[e2]at e3 e4;rw[e2];simp only[pws];rw[if_pos e3,e4]
theorem zKI:∀d∈cps x,d.Ok x:=by
 have eG:∀i j,i<j→j<x.zA.length→ ∀a∈nw 0 (lcj x i j),i+1≤a∧a<x.zA.length:=fun i j hi hj=>(sX h (uL h hi hj) (by omega)).2
 have eK:∀i,i<x.zA.length→ ∀a∈nw 0 (x.zU.getD i []),i+1≤a∧a<x.zA.length:=fun i hi=>(sX h (jO h hi) hi).2
 have lcon:∀i j,i<j→j<x.zA.length→(nw 0 (lcj x i j)).length≤36:=fun i j hi hj=>zKG h hn hi hj
 have lpow:∀i,i<x.zA.length→(nw 0 (x.zU.getD i [])).length≤36:=fun i hi=>(zIv h hn (jO h hi).1).2
 have od:∀i,i<x.zA.length→2≤yI x i∧yI x i≤7:=fun i hi=>(jC h hi).2
 refine zAW.2 ⟨fun i j k h1 h2 h3=>?_,fun i j h1 h2=>?_,fun i j h1 h2=>?_,fun i h1=>?_⟩
 ·have c1:=lcon j k h2 h3
  have c2:=lcon i j h1 (by omega);refine⟨zPH h hn h2,by simp[pd2],⟨i::(nw 0 (lcj x i j)++[]),zPH h hn h1,by simp[pd2]⟩,by simp[pd2],by simp only[pd2,J7,J5,Jp];omega,by simp only[pd2,J7];omega,fun a ha=>?_,fun a ha=>?_⟩
  ·simp only[pd2,J8,Je,Jau,or_false]at ha ⊢
   rcases ha with rfl|ha|rfl
   ·omega
   ·have:=eG j k (by omega) h3 a ha;omega
   ·omega
  ·simp only[pd2,J8]at ha ⊢
   rcases ha with rfl|rfl|ha
   ·omega
   ·omega
   ·have:=eG i j (by omega) (by omega) a ha;omega
 ·have c1:=lpow j h2
  have c2:=lcon i j h1 h2;have o:=od j h2;have e:J1 (yI x j) j++[i]=J1 (yI x j-1) j++[j,i]:=by obtain⟨q,hq⟩:∃q,yI x j=q+1:=⟨yI x j-1,by omega⟩;rw[hq,Lw,Jb2,Jb];rfl
  refine⟨zPI h hn h2,by simp only[pd1,J5,Jh,J7,Jp];omega,⟨i::(nw 0 (lcj x i j)++[]),?_,?_⟩,by simp only[pd1,J5,Jh,J7,Jp];omega,by simp only[pd1,J7,J5,Jp];omega,by simp only[pd1,J5,Jh,J7];omega,fun a ha=>?_,fun a ha=>?_⟩
  ·show hdS x ((J1 (yI x j) j++[i]).drop (yI x j-1))=_
   rw[e,K7 (Jh)];exact zPH h hn h1
  ·show _=(J1 (yI x j) j++[i]).take (yI x j-1)++_
   rw[e,Ju (Jh),Jd];rfl
  ·simp only[pd1,Je,List.mem_singleton]at ha ⊢
   rcases ha with ha|rfl
   ·have:=eK j h2 a ha;omega
   ·omega
  ·simp only[pd1,Je,J8]at ha ⊢
   rcases ha with ha|rfl|ha
   ·have:=Kc ha;omega
   ·omega
   ·have:=eG i j h1 h2 a ha;omega
 ·have c1:=lpow i (by omega)
  have c2:=lcon i j h1 h2;have o:=od i (by omega);have e:J1 (yI x i) i=i::J1 (yI x i-1) i:=by obtain⟨q,hq⟩:∃q,yI x i=q+1:=⟨yI x i-1,by omega⟩;rw[hq,Jq,Jb2]
  refine⟨?_,by simp only[pd4,Jh,J7];omega,⟨nw 0 (x.zU.getD i [])++[],?_,by simp[pd4]⟩,by simp only[pd4,Jh,J7];omega,by simp only[pd4,J7,J5,Jh];omega,by simp only[pd4,J7];omega,fun a ha=>?_,fun a ha=>?_⟩
  ·show hdS x (j::J1 (yI x i) i)=_
   rw[e];exact zPH h hn h1
  ·show hdS x (J1 (yI x i) i)=_
   have:=zPI h hn (s:=[]) (show i<x.zA.length by omega);rw[Jd]at this;exact this
  ·simp only[pd4,J8,Je]at ha ⊢
   rcases ha with rfl|ha|ha
   ·omega
   ·have:=eG i j h1 h2 a ha;omega
   ·have:=Kc ha;omega
  ·simp only[pd4,J8]at ha ⊢
   rcases ha with rfl|ha
   ·omega
   ·have:=eK i (by omega) a ha;omega
 ·have c1:=lpow i h1
  have o:=od i h1;refine⟨?_,by simp only[pd3,Jh];omega,⟨nw 0 (x.zU.getD i [])++[],?_,?_⟩,by simp only[pd3,Jh];omega,by simp only[pd3,J7,J5,Jp];omega,by simp only[pd3,J7];omega,fun a ha=>?_,fun a ha=>?_⟩
  ·show hdS x (J1 (yI x i+1) i)=_
   rw[Lw];exact zPI h hn h1
  ·show hdS x ((J1 (yI x i+1) i).drop 1)=_
   rw[Jq,List.drop_succ_cons,Gf];have:=zPI h hn (s:=[]) h1;rw[Jd]at this;exact this
  ·show i::nw 0 (x.zU.getD i [])=(J1 (yI x i+1) i).take 1++_
   rw[Jq,Jd];rfl
  ·simp only[pd3,Je,List.mem_singleton]at ha ⊢
   rcases ha with ha|rfl
   ·have:=eK i h1 a ha;omega
   ·omega
  ·simp only[pd3,J8]at ha ⊢
   rcases ha with rfl|ha
   ·omega
   ·have:=eK i h1 a ha;omega
end
end Go.Pl

namespace Go.Pl
open Go Go.Ab Go.Wk Go.Pc
section
variable {x:SPr}{m:zB}{D:Nat} (h:Pres x) (hn:x.zA.length≤6) (hD:MOk x.zA.length m D)
 include h hn hD
theorem zQ8{d:PD}(hd:d∈cps x){t1 t2:Trc}(hb:d.B x t1 t2)(F:Nat→Nat→Nat→Int):
  ((f_j ⟨x,m,smx m.Prime D (base x.zA.length x.zA.length) F⟩ (enW d.wd) ((0:Nat):Int) 1).bind fun r=>(f_r r.2 r.1 1).bind fun k2=>(f_j k2 (enW d.wd) (d.t:Int) (-1)).bind fun r3=>f_r r3.2 r3.1 (-1))=
   ik ⟨x,m,smx m.Prime D (base x.zA.length x.zA.length) (zDA m D (-1) (zDA m D 1 F t1) t2)⟩:=by
 have ok:=zKI h hn d hd;obtain⟨hk,mD,_⟩:=zGK h hn d hd;obtain⟨⟨u1,y1,rfl,k1⟩,⟨u2,y2,rfl,k2⟩⟩:=hb;obtain⟨q,q1,q2⟩:=ok.h2;have hl:=ok.l;have ht:=ok.ht;obtain⟨c1,n1⟩:=zPG h hn (by omega) ok.l1 k1 ok.m1;obtain⟨c2,n2⟩:=zPG h hn (by omega) ok.l2 k2 ok.m2;have up:∀{w w':List Nat}{tr:Trc},Cb x (lnB (x.zA.length-d.k) 100) w tr w'→Cb x 60000 w tr w':=fun{w w' tr} hc=>by
  have hM:=zYG (x.zA.length-d.k) (by omega)
  generalize lnB (x.zA.length-d.k) 100=M at hc hM
  induction hc with
  |refl w hl hw=>exact .refl _ (by omega) hw
  |step hl hw hs _ ih=>exact .step (by omega) hw hs ih
 rw[zFZ h hn hD mD (by omega) (by omega) ok.h1 (s:=1) (by omega) (F:=F),bs];simp only[Ka,Jx];rw[zFo h hn hD (by omega) (up c1) n1,bs,zFZ h hn hD mD (by omega) ht q1 (s:=-1) (by omega),bs];simp only
 rw[←q2,zFo h hn hD (by omega) (up c2) n2];rfl
end
theorem zTw{p:Int}{m:zB}{D r i:Nat}(hi:i<D){t1 t2:Trc}(hp:m.Prime=p):(mkv D fun j=>zDA m D (-1) (zDA m D 1 (fun _ _ _=>0) t1) t2 r i j%m.Prime)=prR p D m t1 t2 (r*D+i):=by
 subst hp;have e:=sN (q:=r) hi;rw[prR,e.1,e.2];refine yC fun j _=>?_
 rw[zKE hi,zKE hi]
 congr 1
 omega
end Go.Pl

namespace Go.Pl
open Go Go.Ab Go.Wk Go.Pc
theorem tD{α β:Type}{f:α→List β}{c:Nat}(hf:∀a,(f a).length≤c):∀l:List α,(l.flatMap f).length≤l.length*c
 | []=>by simp
 |a::l=>by have:=tD hf l;have:=hf a;rw[Lb,J5,J7,K1];omega
theorem zGL{x:SPr}(hn:x.zA.length≤6):(cps x).length≤300:=by
 have hu:∀i,(ups x.zA.length i).length≤6:=fun i=>by rw[ups,Jaw];omega
 have h1:=tD (c:=36) (f:=fun i=>(ups x.zA.length i).flatMap fun j=>(ups x.zA.length j).map fun k=>pd2 x i j k) (fun i=>by have:=tD (c:=6) (f:=fun j=>(ups x.zA.length j).map fun k=>pd2 x i j k) (fun j=>by rw[Ji];exact hu j) (ups x.zA.length i);have:=hu i;omega) (Jf x.zA.length)
 have h2:=tD (c:=6) (f:=fun i=>(ups x.zA.length i).map fun j=>pd1 x i j) (fun i=>by rw[Ji];exact hu i) (Jf x.zA.length);have h3:=tD (c:=6) (f:=fun i=>(ups x.zA.length i).map fun j=>pd4 x i j) (fun i=>by rw[Ji];exact hu i) (Jf x.zA.length);rw[Le]at h1 h2 h3;rw[cps,J5,J5,J5,Ji,Le];omega
section
variable {x:SPr}{m:zB}{D:Nat} (hx:zDK x) (hD:MOk x.zA.length m D)
 include hx hD
theorem zM4(h0:0<x.zA.length)(hc:wR (suf x 0))(hr:zD6 x m D){prs:List (Trc×Trc)}(hq:sY x (cps x) prs):∃K,f_m x m=ik K∧
  f_L m.Prime (gl (base x.zA.length x.zA.length*D) fun k=>zAg m.Prime D m prs k) ((prs.length*D:Nat):Int)=ik K:=by
 have h6:=hx.n6;have hp:=hD.p.pos;have hb:=vT x.zA.length (by omega);have h3:=hD.d3;have hB:base x.zA.length x.zA.length*D≤21*3:=Jy hb.2.1 h3;have hql:prs.length≤300:=by rw[←hq.len];exact zGL h6
 have hqD:prs.length*D≤300*3:=Jy hql h3;obtain⟨K,pk,k1,k2,k3⟩:=zGw hx hD h0 hc hr;obtain⟨K2,pk2,_,j2,j3,j4⟩:=zFP hD.p (c:=prs.length*D) (N:=base x.zA.length x.zA.length*D) (A:=gl (base x.zA.length x.zA.length*D) fun k=>zAg m.Prime D m prs k) (by omega) (fun k hk=>by rw[xY hk];refine⟨zIs prs,fun j hj=>?_⟩;have aT:0<D:=hD.d1;have hi:j/D<prs.length:=(Ha aT).2 hj;have hm:j%D<D:=G4 _ aT;have e:=zFn (F:=fun q:Trc×Trc=>prR m.Prime D m q.1 q.2 k) (fun _=>zZ _ _) prs (j/D) (j%D) hi hm;rw[show j/D*D+j%D=j from by rw[Hy];exact Ly j D]at e;rw[zAg,e,prR,yG hm];exact⟨Kx _ (show m.Prime≠0 by omega),by have:=Kh (zBh m.Prime D m (prs[j/D]).1 (k/D) (k%D) (j%D)-zBh m.Prime D m (prs[j/D]).2 (k/D) (k%D) (j%D)) (show 0<m.Prime by omega);omega⟩) wT
 have key:∀y,Row m.Prime (base x.zA.length x.zA.length*D) y→(Sp m.Prime (base x.zA.length x.zA.length*D) K y↔Sp m.Prime (base x.zA.length x.zA.length*D) K2 y):=fun y hy=>by rw[k3 y hy,j4 y,zTs hx hD hq hc hr hy]
 have e:K=K2:=Red.unique (by omega) k2 j3 ⟨fun i hi=>(key _ (k2.row i hi)).1 (qN hi),fun i hi=>(key _ (j3.row i hi)).2 (qN hi)⟩;exact⟨K,k1,by rw[e];exact j2⟩
end
end Go.Pl

namespace Go.Pl
open Go Go.Ab Go.Wk Go.Pc
section
variable {x:SPr}{m:zB}{D:Nat} (h0:x.zA.length=0) (hD:MOk x.zA.length m D)
 include h0 hD
theorem zQ9{T:Mx}:f_Q ⟨x,m,T⟩=ik []:=by
 have _:=hD;unfold f_Q;rw[xH];unfold zQU;simp only
 rw[h0,show decide ((0:Int)<((0:Nat):Int))=iq from rfl,zR];rfl
theorem zNX:∃K pk,f_m x m=ik K∧f_L m.Prime [] 0=ik K∧Red m.Prime 0 K pk:=by obtain⟨K,pk,k1,k2,k3,_⟩:=zFP hD.p (c:=0) (N:=0) (A:=[]) (by omega) (fun i hi=>absurd hi (Qg i)) rfl;refine⟨K,pk,?_,k2,k3⟩;unfold f_m;have e1:=zIt hD (N:=0) (by omega);have e2:=zJ4 hD (B:=0) (L:=[]) (by omega) (by simp) (fun r hr=>by cases hr);rw[Hn]at e1;rw[zEp h0 (by omega),bs,hD.d,show base 0 0=0 from rfl,show((0:Nat):Int)*(D:Int)=((0:Nat):Int)from by simp,zE (by omega) (by omega),bs,e1,bs,zQ9 h0 hD,bs,e2,bs,show((([]:Mx).length:Nat):Int)*(D:Int)=((0:Nat):Int)from by simp,zE (by omega) (by omega),bs];rw[show gl 0 (fun k=>zD9 D k [])=([]:Mx)from rfl,k1,bs]
end
end Go.Pl

namespace Go.Pl
open Go Go.Ab Go.Wk Go.Pc
theorem yBx{v:Int}:f_k [v] 4=ik [v,v,v,v]:=by
 unfold f_k;have h:=zX (body:=zAh) (r:=[v,v,v,v]) (fun i=>match i with|0=>([v,0,0,0],1)|1=>([v,v,0,0],2)|_=>([v,v,v,v],4)) 2 (fun i hi=>by
  match i,hi with
  |0,_=>simp[zAh,yB,wQ,rng,inR]
  |1,_=>simp[zAh,yB,wQ,rng,inR]) (by simp[zAh])
 rw[show decide ((4:Int)<0)=iq from rfl,zR,zNA (by decide+kernel),bs];have hl:xF (IntKind.wrap .i64 4)=ik 4:=by decide+kernel
 simp only[hl,bs];rw[show decide ((0:Int)> 0)=iq from rfl,zR,show decide ((4:Int)> 9223372036854775807)=iq from by decide,zR];have e2:wQ (J1 4 (0:Int)) 0 (([v]:List Int).take ((J1 4 (0:Int)).length-0))=[v,0,0,0]:=by simp[wQ,J1]
 have e3:((min ([v]:List Int).length ((J1 4 (0:Int)).length-0):Nat):Int)=1:=by simp
 rw[e2,e3];have h':zI zAh ([v,0,0,0],1)=_:=h;rw[h',bs]
theorem yBy{v:Int}:f_k [v] 6=ik [v,v,v,v,v,v]:=by
 unfold f_k;have h:=zX (body:=zAh) (r:=[v,v,v,v,v,v]) (fun i=>match i with|0=>([v,0,0,0,0,0],1)|1=>([v,v,0,0,0,0],2)|2=>([v,v,v,v,0,0],4)|_=>([v,v,v,v,v,v],6)) 3 (fun i hi=>by
  match i,hi with
  |0,_=>simp[zAh,yB,wQ,rng,inR]
  |1,_=>simp[zAh,yB,wQ,rng,inR]
  |2,_=>simp[zAh,yB,wQ,rng,inR]) (by simp[zAh])
 rw[show decide ((6:Int)<0)=iq from rfl,zR,zNA (by decide+kernel),bs];have hl:xF (IntKind.wrap .i64 6)=ik 6:=by decide+kernel
 simp only[hl,bs];rw[show decide ((0:Int)> 0)=iq from rfl,zR,show decide ((6:Int)> 9223372036854775807)=iq from by decide,zR];have e2:wQ (J1 6 (0:Int)) 0 (([v]:List Int).take ((J1 6 (0:Int)).length-0))=[v,0,0,0,0,0]:=by simp[wQ,J1]
 have e3:((min ([v]:List Int).length ((J1 6 (0:Int)).length-0):Nat):Int)=1:=by simp
 rw[e2,e3];have h':zI zAh ([v,0,0,0,0,0],1)=_:=h;rw[h',bs]
theorem yBz{v:Int}:f_k [v] 8=ik [v,v,v,v,v,v,v,v]:=by
 unfold f_k;have h:=zX (body:=zAh) (r:=[v,v,v,v,v,v,v,v]) (fun i=>match i with|0=>([v,0,0,0,0,0,0,0],1)|1=>([v,v,0,0,0,0,0,0],2)|2=>([v,v,v,v,0,0,0,0],4)|_=>([v,v,v,v,v,v,v,v],8)) 3 (fun i hi=>by
  match i,hi with
  |0,_=>simp[zAh,yB,wQ,rng,inR]
  |1,_=>simp[zAh,yB,wQ,rng,inR]
  |2,_=>simp[zAh,yB,wQ,rng,inR]) (by simp[zAh])
 rw[show decide ((8:Int)<0)=iq from rfl,zR,zNA (by decide+kernel),bs];have hl:xF (IntKind.wrap .i64 8)=ik 8:=by decide+kernel
 simp only[hl,bs];rw[show decide ((0:Int)> 0)=iq from rfl,zR,show decide ((8:Int)> 9223372036854775807)=iq from by decide,zR];have e2:wQ (J1 8 (0:Int)) 0 (([v]:List Int).take ((J1 8 (0:Int)).length-0))=[v,0,0,0,0,0,0,0]:=by simp[wQ,J1]
 have e3:((min ([v]:List Int).length ((J1 8 (0:Int)).length-0):Nat):Int)=1:=by simp
 rw[e2,e3];have h':zI zAh ([v,0,0,0,0,0,0,0],1)=_:=h;rw[h',bs]
theorem zAX{β:Type}{body:List β×Int→Option ((List β×Int)⊕List β)}(s n B:Nat)(F:Nat→List β)(a0:List β)(hB:a0.length+((Ku s n).flatMap F).length≤B)
  (h:∀i acc,s≤i→i<s+n→acc.length+(F i).length≤B→body (acc,((i+1:Nat):Int))=ik (.inl (acc++F i,((i+1+1:Nat):Int))))(he:∀acc,body (acc,((s+n+1:Nat):Int))=ik (.inr acc)):
  zI body (a0,((s+1:Nat):Int))=ik (a0++(Ku s n).flatMap F):=by
 have:=zX (body:=body) (r:=a0++(Ku s n).flatMap F) (fun i=>(a0++(Ku s i).flatMap F,((s+i+1:Nat):Int))) n (fun i hi=>by
  have e:(Ku s (i+1)).flatMap F=(Ku s i).flatMap F++F (s+i):=by rw[List.range'_1_concat,Ht,Lb,Jbh,Jd]
  have cV:((Ku s (i+1)).flatMap F).length≤((Ku s n).flatMap F).length:=by obtain⟨k,rfl⟩:∃k,n=i+1+k:=⟨n-(i+1),by omega⟩;have e3:Ku s (i+1+k)=Ku s (i+1)++Ku (s+(i+1)) k:=List.range'_append_1.symm;rw[e3,Ht,J5];omega
  rw[e,J5]at cV;rw[h (s+i) _ (by omega) (by omega) (by rw[J5];omega),e,Jb];rfl) (he _)
 simpa using this
def CPd(d:PD):zK:=⟨enW d.wd,enW d.w1,enW d.w2⟩
section
variable {x:SPr} (h:Pres x) (hn:x.zA.length≤6)
 include h
theorem zM5{v:Int}{a:Nat}(ha:a<x.zA.length):zMY v ((yI x a:Nat):Int)=ik (J1 (yI x a) v):=by
 have hp:=h.os.2 a ha;have e:=(jC h ha).1;have e2:at0 x.zA a=((yI x a:Nat):Int):=by rw[yV ha]at e;exact Ln.inj e
 rw[e2]at hp;unfold zMY;rw[zCR hp,bs,Ja]
theorem zQA{v:Int}{a:Nat}(ha:a<x.zA.length):zMY v (((yI x a+1:Nat)):Int)=ik (J1 (yI x a+1) v):=by
 have hp:=h.os.2 a ha;have e:=(jC h ha).1;have e2:at0 x.zA a=((yI x a:Nat):Int):=by rw[yV ha]at e;exact Ln.inj e
 rw[e2]at hp;have:yI x a=2∨yI x a=3∨yI x a=5∨yI x a=7:=by rcases hp with g|g|g|g<;>omega
 unfold zMY;rcases this with g|g|g|g<;>rw[g]
 ·exact(congrArg (fun o=>Hs o _) (zCR (v:=v) (o:=3) (.inr (.inl rfl)))).trans rfl
 ·exact(congrArg (fun o=>Hs o _) (yBx (v:=v))).trans rfl
 ·exact(congrArg (fun o=>Hs o _) (yBy (v:=v))).trans rfl
 ·exact(congrArg (fun o=>Hs o _) (yBz (v:=v))).trans rfl
 include hn
theorem zFp{d:PD}(hd:d∈cps x){out:List zK}(ho:out.length≤100000):f_U (enW d.wd) (d.t:Int) out x=ik (out++[CPd d]):=by have ok:=zKI h hn d hd;obtain⟨_,mD,_⟩:=zGK h hn d hd;obtain⟨q,q1,q2⟩:=ok.h2;have hl:=ok.l;have ht:=ok.ht;unfold f_U;rw[show(0:Int)=((0:Nat):Int)from rfl,zCX h hn mD (by omega) (by omega) ok.h1,bs,zCX h hn mD (by omega) ht q1,bs,yO (by simp only[J7,Jp];omega),bs];simp only[Ka,Jx];rw[←q2];rfl
end
end Go.Pl

namespace Go.Pl
open Go Go.Ab Go.Wk Go.Pc
theorem zCj{α β:Type}{f:α→β}:∀l:List α,(l.flatMap fun a=>[f a])=l.map f
 | []=>rfl
 |a::l=>by rw[Lb,zCj l];rfl
theorem zAz{N i:Nat}(hN:N≤6):(ups N i).length≤6:=by grind[ups]
section
variable {x:SPr} (h:Pres x) (hn:x.zA.length≤6)
 include h hn
theorem yAy{i j:Nat}(gO:i<j)(hj:j<x.zA.length){o1 o2 out:List zK}(ho:out.length≤3000):
  zI (zQZ x (o1,((i+1:Nat):Int)) (o2,((j+1:Nat):Int))) (out,((j+1+1:Nat):Int))=ik (out++(ups x.zA.length j).map fun k=>CPd (pd2 x i j k)):=by
 have hm:=((zAW (x:=x) (φ:=fun d=>d∈cps x)).1 fun d hd=>hd).1;have hu:=zAz (i:=j) hn;have:=zAX (body:=zQZ x (o1,((i+1:Nat):Int)) (o2,((j+1:Nat):Int))) (j+1) (x.zA.length-(j+1)) 4000 (fun k=>[CPd (pd2 x i j k)]) out (by rw[zCj,Ji];grind) (fun k acc hk1 fy hb=>by
  unfold zQZ;simp only
  have e:([((k+1:Nat):Int),((j+1:Nat):Int),((i+1:Nat):Int)])=enW (pd2 x i j k).wd:=by rfl
  rw[iu (by omega),zM,e,show(1:Int)=((pd2 x i j k).t:Int)from rfl,zFp h hn (by grind) (by omega),bs,show((k+1:Nat):Int)+((pd2 x i j k).t:Int)=((k+1+1:Nat):Int)from rfl,zE (by omega) (by omega),bs]) (fun acc=>by
  unfold zQZ
  grind)
 rw[zCj]at this;exact this
theorem yAz{i:Nat}(hi:i<x.zA.length){o1 out:List zK}(ho:out.length≤2000):
  zI (zRa x (o1,((i+1:Nat):Int))) (out,((i+1+1:Nat):Int))=ik (out++(ups x.zA.length i).flatMap fun j=>(ups x.zA.length j).map fun k=>CPd (pd2 x i j k)):=by
 have hu:=zAz (i:=i) hn;have hf:=tD (c:=6) (f:=fun j=>(ups x.zA.length j).map fun k=>CPd (pd2 x i j k)) (by grind[zAz]) (ups x.zA.length i);have:=zAX (body:=zRa x (o1,((i+1:Nat):Int))) (i+1) (x.zA.length-(i+1)) 3000 (fun j=>(ups x.zA.length j).map fun k=>CPd (pd2 x i j k)) out (by grind[ups]) (fun j acc hj1 bh hb=>by
  unfold zRa;simp only
  rw[iu (by omega),zM,show((j+1:Nat):Int)+1=((j+1+1:Nat):Int)from by omega,zE (by omega) (by omega),bs,yAy h hn (by omega) (by omega) (by omega),bs,bs]) (fun acc=>by
  unfold zRa
  grind)
 exact this
theorem yA0:zI (zRb x) ([],1)=ik ((Jf x.zA.length).flatMap fun i=>(ups x.zA.length i).flatMap fun j=>(ups x.zA.length j).map fun k=>CPd (pd2 x i j k)):=by
 have hf:=tD (c:=36) (f:=fun i=>(ups x.zA.length i).flatMap fun j=>(ups x.zA.length j).map fun k=>CPd (pd2 x i j k)) (fun i=>by
  have:=tD (c:=6) (f:=fun j=>(ups x.zA.length j).map fun k=>CPd (pd2 x i j k)) (by grind[zAz]) (ups x.zA.length i)
  grind[zAz]) (Jf x.zA.length)
 rw[Le]at hf;have:=zAX (body:=zRb x) 0 x.zA.length 2000 (fun i=>(ups x.zA.length i).flatMap fun j=>(ups x.zA.length j).map fun k=>CPd (pd2 x i j k)) [] (by grind[Ll]) (fun i acc aE eh hb=>by
  unfold zRb;simp only
  rw[iu (by omega),zM,show((i+1:Nat):Int)+1=((i+1+1:Nat):Int)from by omega,zE (by omega) (by omega),bs,yAz h hn (by omega) (by omega),bs,bs]) (fun acc=>by
  unfold zRb
  grind)
 grind[Ll]
theorem yA1{i:Nat}(hi:i<x.zA.length){o1 out:List zK}(ho:out.length≤3000):
  zI (zRc x (o1,((i+1:Nat):Int))) (out,((i+1+1:Nat):Int))=ik (out++(ups x.zA.length i).map fun j=>CPd (pd1 x i j)):=by
 have hm:=((zAW (x:=x) (φ:=fun d=>d∈cps x)).1 fun d hd=>hd).2.1;have hu:=zAz (i:=i) hn;have:=zAX (body:=zRc x (o1,((i+1:Nat):Int))) (i+1) (x.zA.length-(i+1)) 4000 (fun j=>[CPd (pd1 x i j)]) out (by rw[zCj,Ji];rw[ups]at hu;omega) (fun j acc hj1 bh hb=>by
  have ho:=jC h (show j<x.zA.length by omega);unfold zRc;simp only
  have e:J1 (yI x j) ((j+1:Nat):Int)++[((i+1:Nat):Int)]=enW (pd1 x i j).wd:=by show _=enW (J1 (yI x j) j++[i]);simp only[enW,L8,List.map_replicate,Jo,U6];rfl
  have et:((yI x j:Nat):Int)-1=((pd1 x i j).t:Int):=by show _=((yI x j-1:Nat):Int);omega
  rw[iu (by omega),zM,show((j+1:Nat):Int)-1=(j:Int)from by omega,zE (n:=(j:Int)) (by omega) (by omega),bs,ho.1,bs,zM5 h (by omega),bs,yO (by simp only[Jh,J7,Jp];omega),bs,bs,ho.1,bs,zE (n:=((yI x j:Nat):Int)-1) (by omega) (by omega),bs,e,et,zFp h hn (hm i j (by omega) (by omega)) (by simp only[J7,Jp]at hb;omega),bs,show((j+1:Nat):Int)+1=((j+1+1:Nat):Int)from by omega,zE (by omega) (by omega),bs]) (fun acc=>by
  unfold zRc;simp only
  rw[ir (by omega),zR])
 rw[zCj]at this;exact this
theorem yA2{out:List zK}(ho:out.length≤1000):zI (zRd x) (out,1)=ik (out++(Jf x.zA.length).flatMap fun i=>(ups x.zA.length i).map fun j=>CPd (pd1 x i j)):=by
 have hf:=tD (c:=6) (f:=fun i=>(ups x.zA.length i).map fun j=>CPd (pd1 x i j)) (by grind[zAz]) (Jf x.zA.length);rw[Le]at hf;have:=zAX (body:=zRd x) 0 x.zA.length 2000 (fun i=>(ups x.zA.length i).map fun j=>CPd (pd1 x i j)) out (by grind[Ll]) (fun i acc aE eh hb=>by
  unfold zRd;simp only
  rw[iu (by omega),zM,show((i+1:Nat):Int)+1=((i+1+1:Nat):Int)from by omega,zE (by omega) (by omega),bs,yA1 h hn (by omega) (by omega),bs,bs]) (fun acc=>by
  unfold zRd
  grind)
 grind[Ll]
theorem yA3{i:Nat}(hi:i<x.zA.length){o1 out:List zK}(ho:out.length≤3000):
  zI (zRe x (o1,((i+1:Nat):Int))) (out,((i+1+1:Nat):Int))=ik (out++(ups x.zA.length i).map fun j=>CPd (pd4 x i j)):=by
 have hm:=((zAW (x:=x) (φ:=fun d=>d∈cps x)).1 fun d hd=>hd).2.2.1;have hu:=zAz (i:=i) hn;have ho:=jC h hi;have:=zAX (body:=zRe x (o1,((i+1:Nat):Int))) (i+1) (x.zA.length-(i+1)) 4000 (fun j=>[CPd (pd4 x i j)]) out (by rw[zCj,Ji];grind) (fun j acc hj1 bh hb=>by
  unfold zRe;simp only
  have e:[((j+1:Nat):Int)]++J1 (yI x i) ((i+1:Nat):Int)=enW (pd4 x i j).wd:=by show _=enW (j::J1 (yI x i) i);simp
  rw[iu (by omega),zM,show((i+1:Nat):Int)-1=(i:Int)from by omega,zE (n:=(i:Int)) (by omega) (by omega),bs,ho.1,bs,zM5 h hi,bs,yO (by simp only[Jh,J7,Jp];omega),bs,e,show(1:Int)=((pd4 x i j).t:Int)from rfl,zFp h hn (hm i j (by omega) (by omega)) (by simp only[J7,Jp]at hb;omega),bs,show((j+1:Nat):Int)+((pd4 x i j).t:Int)=((j+1+1:Nat):Int)from rfl,zE (by omega) (by omega),bs]) (fun acc=>by
  unfold zRe
  grind)
 rw[zCj]at this;exact this
theorem yA4{out:List zK}(ho:out.length≤1000):zI (zRf x) (out,1)=ik (out++(Jf x.zA.length).flatMap fun i=>(ups x.zA.length i).map fun j=>CPd (pd4 x i j)):=by
 have hf:=tD (c:=6) (f:=fun i=>(ups x.zA.length i).map fun j=>CPd (pd4 x i j)) (by grind[zAz]) (Jf x.zA.length);rw[Le]at hf;have:=zAX (body:=zRf x) 0 x.zA.length 2000 (fun i=>(ups x.zA.length i).map fun j=>CPd (pd4 x i j)) out (by grind[Ll]) (fun i acc aE eh hb=>by
  unfold zRf;simp only
  rw[iu (by omega),zM,show((i+1:Nat):Int)+1=((i+1+1:Nat):Int)from by omega,zE (by omega) (by omega),bs,yA3 h hn (by omega) (by omega),bs,bs]) (fun acc=>by
  unfold zRf
  grind)
 grind[Ll]
theorem yA5{out:List zK}(ho:out.length≤1000):zI (zRg x) (out,1)=ik (out++(Jf x.zA.length).map fun i=>CPd (pd3 x i)):=by
 have hm:=((zAW (x:=x) (φ:=fun d=>d∈cps x)).1 fun d hd=>hd).2.2.2;have:=zAX (body:=zRg x) 0 x.zA.length 2000 (fun i=>[CPd (pd3 x i)]) out (by rw[zCj,Ji,Jaw];omega) (fun i acc aE eh hb=>by
  have ho:=jC h (show i<x.zA.length by omega);unfold zRg;simp only
  have e:J1 (yI x i+1) ((i+1:Nat):Int)=enW (pd3 x i).wd:=by show _=enW (J1 (yI x i+1) i);simp
  rw[iu (by omega),zM,show((i+1:Nat):Int)-1=(i:Int)from by omega,zE (n:=(i:Int)) (by omega) (by omega),bs,ho.1,bs,show((yI x i:Nat):Int)+1=((yI x i+1:Nat):Int)from by omega,zE (n:=((yI x i+1:Nat):Int)) (by omega) (by omega),bs,zQA h (by omega),bs,e,show(1:Int)=((pd3 x i).t:Int)from rfl,zFp h hn (hm i (by omega)) (by simp only[J7,Jp]at hb;omega),bs,show((i+1:Nat):Int)+((pd3 x i).t:Int)=((i+1+1:Nat):Int)from rfl,zE (by omega) (by omega),bs]) (fun acc=>by
  unfold zRg
  grind)
 grind[zCj,Ll]
theorem zEx:f_e x=ik ((cps x).map CPd):=by
 have hl:=zGL (x:=x) hn;have em:(cps x).map CPd=((Jf x.zA.length).flatMap fun i=>(ups x.zA.length i).flatMap fun j=>(ups x.zA.length j).map fun k=>CPd (pd2 x i j k))++(((Jf x.zA.length).flatMap fun i=>(ups x.zA.length i).map fun j=>CPd (pd1 x i j))++(((Jf x.zA.length).flatMap fun i=>(ups x.zA.length i).map fun j=>CPd (pd4 x i j))++(Jf x.zA.length).map fun i=>CPd (pd3 x i))):=by simp only[cps,L8,List.map_flatMap,Jak];rfl
 have pM:((cps x).map CPd).length≤300:=by grind
 rw[em]at pM;simp only[J5]at pM;unfold f_e;rw[yA0 h hn,bs,yA2 h hn (by omega),bs,yA4 h hn (by grind),bs,yA5 h hn (by simp only[J5];omega),bs,em];simp
end
end Go.Pl

namespace Go.Pl
open Go Go.Ab Go.Wk Go.Pc
theorem yB0:zYV=zMZ:=rfl
theorem yB1:zYW=zMZ:=rfl
theorem sY.get{x:SPr}:{ds:List PD}→{qs:List (Trc×Trc)}→sY x ds qs→ ∀k(h1:k<ds.length)(h2:k<qs.length),(ds[k]).B x (qs[k]).1 (qs[k]).2
 | [],[],_,k,h1,_=>by simp at h1
 |d::ds,q::qs,h,0,_,_=>h.1
 |d::ds,q::qs,h,k+1,h1,h2=>by simpa using sY.get h.2 k (by simpa using h1) (by simpa using h2)
 | [],_::_,h,_,_,_=>by grind
 |_::_,[],h,_,_,_=>by grind
theorem zQB{p:Int}{D:Nat}{m:zB}{prs:List (Trc×Trc)}{k q:Nat}(hk:k<prs.length):zAg p D m (prs.take (k+1)) q=zAg p D m (prs.take k) q++prR p D m (prs[k]).1 (prs[k]).2 q:=by grind[zAg,Jr]
section
variable {x:SPr}{m:zB}{D:Nat} (hD:MOk x.zA.length m D)
 include hD
theorem yA6:zI (zRi ⟨m.Prime,(D:Int),idM D⟩) (idM D,0)=ik (gl D fun _=>mkv D fun _=>0):=by
 have h3:=hD.d3;have:=zX (body:=zRi ⟨m.Prime,(D:Int),idM D⟩) (r:=gl D fun _=>mkv D fun _=>0) (fun i=>(gl D fun a=>mkv D fun j=>if j=a then(if a<i then 0 else 1)else 0,(i:Int))) D (fun i hi=>by
  unfold zRi;simp only
  rw[uK,yZ hi,zM,zFb hi,bs,yV (by grind[zZ]),bs,zE (by omega) (by omega),bs];simp only[Ja];rw[zKs,jL]
  grind) (by
  unfold zRi;simp only
  rw[uK,vU,zR]
  simp_all)
 have e:(gl D fun a=>mkv D fun j=>if j=a then(if a<0 then(0:Int)else 1)else 0)=idM D:=rfl
 grind
theorem yA7{N:Nat}(hN:N≤100):zI (zRj m (N:Int)) ([],0)=ik (smx m.Prime D N fun _ _ _=>0):=by
 refine(tA (body:=zRj m (N:Int)) N (fun _=>zT.mk m.Prime (D:Int) (gl D fun _=>mkv D fun _=>0)) (fun i acc hi ha=>?_) (fun acc=>?_)).trans ?_
 ·unfold zRj
  simp only
  rw[yZ hi,zM,hD.d,zDN hD.p (by have:=hD.d3;omega),bs]
  grind[yA6,yO,zE]
 ·unfold zRj
  simp
 ·rfl
section
variable {N:Nat}{G:Nat→Nat→Nat→Int}{R:Nat→List Int}
abbrev zFq(p:Int)(D:Nat)(G:Nat→Nat→Nat→Int)(R:Nat→List Int)(k:Nat):List Int:=R k++mkv D fun j=>G (k/D) (k%D) j%p
theorem yA8(hN:N≤100)(hR:∀k,(R k).length≤100000){r:Nat}(hr:r<N){z:Mx}:
  zI (zRk m (z,(r:Int)) ⟨m.Prime,(D:Int),gl D fun i=>mkv D fun j=>G r i j%m.Prime⟩) (gl (N*D) fun k=>if k<r*D then zFq m.Prime D G R k else R k,0)=ik (gl (N*D) fun k=>if k<(r+1)*D then zFq m.Prime D G R k else R k):=by
 have h3:=hD.d3;have h1:=hD.d1;have hb:(r+1)*D≤N*D:=K9 D (by omega);have pO:N*D≤100*3:=Jy hN h3;rw[K1]at hb;have:=zX (body:=zRk m (z,(r:Int)) ⟨m.Prime,(D:Int),gl D fun i=>mkv D fun j=>G r i j%m.Prime⟩) (r:=gl (N*D) fun k=>if k<(r+1)*D then zFq m.Prime D G R k else R k) (fun i=>(gl (N*D) fun k=>if k<r*D+i then zFq m.Prime D G R k else R k,(i:Int))) D (fun i hi=>by
  obtain⟨e1,e2⟩:=sN (q:=r) hi;unfold zRk;simp only
  rw[wT,yZ hi,zM,zFb hi,bs,hD.d,←Km,zE (by omega) (by omega),bs,←Ho,zE (by omega) (by omega),bs,zFb (by omega),bs,if_neg (by omega),yO (by rw[zZ];have:=hR (r*D+i);omega),bs,zE (by omega) (by omega),bs];simp only[Ja];rw[zKs]
  grind) (by
  unfold zRk
  grind)
 exact this
theorem yA9(hN:N≤100)(hR:∀k,(R k).length≤100000):zI (zMZ m ⟨x,m,smx m.Prime D N G⟩) (gl (N*D) R,0)=ik (gl (N*D) (zFq m.Prime D G R)):=by
 have gf:(smx m.Prime D N G).length=N:=wT;have:=zX (body:=zMZ m ⟨x,m,smx m.Prime D N G⟩) (r:=gl (N*D) (zFq m.Prime D G R)) (fun i=>(gl (N*D) fun k=>if k<i*D then zFq m.Prime D G R k else R k,(i:Int))) N (fun i hi=>by
  unfold zMZ;simp only
  rw[gf,yZ hi,zM,smx,zFb hi,bs,yA8 hD hN hR hi,bs,zE (by omega) (by omega),bs];rfl) (by
  unfold zMZ
  simp_all)
 grind
end
end
theorem yAA{x:SPr}(h:Pres x):∀d∈cps x,2≤d.wd.length∧((d.wd.getD 0 0=d.wd.getD 1 0∧d.wd.getD (d.wd.length-1) 0≠d.wd.getD 0 0∧d.t=d.wd.length-2)∨(d.wd.getD 0 0=d.wd.getD 1 0∧d.wd.getD (d.wd.length-1) 0=d.wd.getD 0 0∧d.t=1)∨(d.wd.getD 0 0≠d.wd.getD 1 0∧d.t=1)):=by
 refine zAW.2 ⟨fun i j k h1 h2 h3=>?_,fun i j h1 h2=>?_,fun i j h1 h2=>?_,fun i h1=>?_⟩
 ·refine⟨by simp[pd2],.inr (.inr ⟨?_,rfl⟩)⟩
  show k≠j;omega
 ·have o:=(jC h h2).2
  obtain⟨q,hq⟩:∃q,yI x j=q+2:=⟨yI x j-2,by omega⟩;simp only[pd1,hq,J5,Jh,J7,Jp];refine⟨by omega,.inl ⟨rfl,?_,by omega⟩⟩;have:(J1 (q+2) j++[i]).getD (q+2+(0+1)-1) 0=i:=by simp
  grind
 ·have o:=(jC h (show i<x.zA.length by omega)).2
  obtain⟨q,hq⟩:∃q,yI x i=q+2:=⟨yI x i-2,by omega⟩;simp only[pd4,hq,Jh,J7]
  grind
 ·have o:=(jC h h1).2
  obtain⟨q,hq⟩:∃q,yI x i=q+2:=⟨yI x i-2,by omega⟩;simp only[pd3,hq,Jh];simp
section
variable {x:SPr}{m:zB}{D:Nat} (h:Pres x) (hn:x.zA.length≤6) (hD:MOk x.zA.length m D)
 include h hn hD
theorem zVJ{prs:List (Trc×Trc)}(hq:sY x (cps x) prs){k:Nat}(hk:k<(cps x).length){N:Nat}(hN:N=base x.zA.length x.zA.length):
  zRl x m (N:Int) ((cps x).map CPd) (gl (N*D) (fun q=>zAg m.Prime D m (prs.take k) q),(k:Int))=ik (.inl (gl (N*D) (fun q=>zAg m.Prime D m (prs.take (k+1)) q),((k+1:Nat):Int))):=by
 subst hN;have hl:=hq.len;have hd:=K3 hk;have fy:k<prs.length:=by omega
 have pd:=vT x.zA.length (by omega);have h3:=hD.d3;have h1:=hD.d1;have gE:=zGL (x:=x) hn;have ck:=zQ8 h hn hD hd (hq.get k hk fy) (fun _ _ _=>0);obtain⟨w2,ht⟩:=yAA h _ hd;have hlw:=(zKI h hn _ hd).l;have cC:=(zKI h hn _ hd).ht;have hR:∀q,(zAg m.Prime D m (prs.take k) q).length≤100000:=fun q=>by rw[zIs,Jw];have:min k prs.length*D≤300*3:=Jy (by omega) h3;omega
 have cD:=yA9 (x:=x) (G:=zDA m D (-1) (zDA m D 1 (fun _ _ _=>0) (prs[k]).1) (prs[k]).2) hD (show base x.zA.length x.zA.length≤100 by omega) hR;have erow:gl (base x.zA.length x.zA.length*D) (zFq m.Prime D (zDA m D (-1) (zDA m D 1 (fun _ _ _=>0) (prs[k]).1) (prs[k]).2) (fun q=>zAg m.Prime D m (prs.take k) q))=gl (base x.zA.length x.zA.length*D) fun q=>zAg m.Prime D m (prs.take (k+1)) q:=zSE fun q _=>by have hm:q%D<D:=G4 _ (by omega);rw[zQB fy,zFq,zTw hm rfl,show q/D*D+q%D=q from by grind[Ly]]
 rw[erow]at cD;have hix:ixO ((cps x).map CPd) (k:Int)=ik (CPd (cps x)[k]):=by grind[kK]
 generalize (cps x)[k]=d at*
 have key:∀K:xQ→Option ((Mx×Int)⊕Mx),((f_j ⟨x,m,smx m.Prime D (base x.zA.length x.zA.length) fun _ _ _=>0⟩ (enW d.wd) 0 1).bind fun r=>(f_r r.2 r.1 1).bind fun k2=>(f_j k2 (enW d.wd) (d.t:Int) (-1)).bind fun r3=>(f_r r3.2 r3.1 (-1)).bind K)=K ⟨x,m,smx m.Prime D (base x.zA.length x.zA.length) (zDA m D (-1) (zDA m D 1 (fun _ _ _=>0) (prs[k]).1) (prs[k]).2)⟩:=fun K=>by have e:=congrArg (fun o=>Hs o K) ck;simp only[Option.bind_assoc,bs]at e;exact e
 unfold zRl;simp only
 rw[Ji,yZ hk,zM,hix,bs,yA7 hD (by omega),bs];simp only[CPd];have i0:=tY (w:=d.wd) (t:=0) (by omega);have i1:=tY (w:=d.wd) (t:=1) (by omega);have il:=tY (w:=d.wd) (t:=d.wd.length-1) (by omega);rw[show((0:Nat):Int)=0 from rfl]at i0;rw[show((1:Nat):Int)=1 from rfl]at i1;rw[i0,bs,i1,bs,Ji];rcases ht with⟨t1,t2,t3⟩|⟨t1,t2,t3⟩|⟨t1,t3⟩
 ·rw[show((((d.wd.getD 0 0:Nat):Int)+1)==(((d.wd.getD 1 0:Nat):Int)+1))=io from by grind,zM,zE (by omega) (by omega),bs,show(d.wd.length:Int)-1=((d.wd.length-1:Nat):Int)from by omega,il,bs,show((((d.wd.getD (d.wd.length-1) 0:Nat):Int)+1) != (((d.wd.getD 0 0:Nat):Int)+1))=io from by rw[bne_iff_ne];omega,zM,zE (by omega) (by omega),bs,show(d.wd.length:Int)-2=(d.t:Int)from by omega,key,cD,bs,zE (by omega) (by omega),bs]
  rfl
 ·rw[show((((d.wd.getD 0 0:Nat):Int)+1)==(((d.wd.getD 1 0:Nat):Int)+1))=io from by grind,zM,zE (by omega) (by omega),bs,show(d.wd.length:Int)-1=((d.wd.length-1:Nat):Int)from by omega,il,bs,show((((d.wd.getD (d.wd.length-1) 0:Nat):Int)+1) != (((d.wd.getD 0 0:Nat):Int)+1))=iq from by rw[t2];exact bne_self_eq_false _,zR]
  rw[t3]at key;rw[show(1:Int)=((1:Nat):Int)from rfl]at*
  rw[key,yB0,cD,bs,zE (by omega) (by omega),bs];rfl
 ·rw[show((((d.wd.getD 0 0:Nat):Int)+1)==(((d.wd.getD 1 0:Nat):Int)+1))=iq from by grind,zR]
  rw[t3]at key;rw[show(1:Int)=((1:Nat):Int)from rfl]at*
  rw[key,yB1,cD,bs,zE (by omega) (by omega),bs];rfl
end
end Go.Pl

namespace Go.Pl
open Go Go.Ab Go.Wk Go.Pc
section
variable {x:SPr}{m:zB}{D:Nat} (hx:zDK x) (hD:MOk x.zA.length m D)
 include hx hD
theorem zIE(hc:wR (suf x 0))(hr:zD6 x m D):∃K pk,f_m x m=ik K∧f_f x m=ik K∧Red m.Prime (base x.zA.length x.zA.length*D) K pk:=by
 have h6:=hx.n6;have h3:=hD.d3;have h1:=hD.d1;have pd:=vT x.zA.length (by omega);have hbD:base x.zA.length x.zA.length*D≤21*3:=Jy pd.2.1 h3;obtain⟨prs,hq⟩:=zYF hx hD;have hl:=hq.len;have gE:=zGL (x:=x) h6;have eS:=zX (body:=zRl x m ((base x.zA.length x.zA.length:Nat):Int) ((cps x).map CPd)) (r:=gl (base x.zA.length x.zA.length*D) (fun q=>zAg m.Prime D m prs q)) (fun k=>(gl (base x.zA.length x.zA.length*D) (fun q=>zAg m.Prime D m (prs.take k) q),(k:Int))) (cps x).length (fun k hk=>zVJ hx.toPres h6 hD hq hk rfl) (by
  unfold zRl;simp only
  rw[Ji,vU,zR,hl,H5])
 have e0:gl (base x.zA.length x.zA.length*D) (fun q=>zAg m.Prime D m (prs.take 0) q)=J1 (base x.zA.length x.zA.length*D) ([]:List Int):=by simp only[Ka,zAg,U6,G6];rw[List.eq_replicate_iff];exact⟨wT,fun b hb=>by obtain⟨i,_,rfl⟩:=Jm.1 hb;rfl⟩
 rw[e0]at eS;have px:f_f x m=cond (decide (((gl (base x.zA.length x.zA.length*D) (fun q=>zAg m.Prime D m prs q)).length:Int)> 0)) (
   (ixO (gl (base x.zA.length x.zA.length*D) (fun q=>zAg m.Prime D m prs q)) 0).bind fun v32=>(f_L m.Prime (gl (base x.zA.length x.zA.length*D) (fun q=>zAg m.Prime D m prs q)) (v32.length:Int)).bind fun r33=>ik r33) (
   (f_L m.Prime (gl (base x.zA.length x.zA.length*D) (fun q=>zAg m.Prime D m prs q)) 0).bind fun r34=>ik r34):=by
  unfold f_f;rw[zHX rfl h6,bs,hD.d,←Km,zE (by omega) (by omega),bs,xL (by omega),bs,zEx hx.toPres h6,bs];rw[show((0:Nat):Int)=0 from rfl]at eS;rw[eS,bs]
 rcases Gy x.zA.length with h0|h0
 ·obtain⟨K,pk,k1,k2,k3⟩:=zNX h0 hD
  refine⟨K,pk,k1,?_,?_⟩
  ·rw[px,h0,show base 0 0=0 from rfl,Hn]
   simp only[gl,List.range_zero,U6,Jp];rw[show decide (((0:Nat):Int)> 0)=iq from rfl,zR,k2,bs]
  ·rw[h0,show base 0 0=0 from rfl,Hn];exact k3
 ·obtain⟨K,pk,k1,k2,_⟩:=zGw hx hD h0 hc hr
  obtain⟨K2,j1,j2⟩:=zM4 hx hD h0 hc hr hq;rw[k1]at j1;cases j1;refine⟨K,pk,k1,?_,k2⟩;have py:0<base x.zA.length x.zA.length*D:=Jbo (by omega) h1;rw[px,wT,iu (by omega),zM,show(0:Int)=((0:Nat):Int)from rfl,zFb py,bs,zIs,j2,bs]
end
end Go.Pl

namespace Go.Pl
open Go Go.Ab Go.Wk Go.Pc
end Go.Pl

namespace Go.Pl
open Go Go.Ab Go.Wk Go.Pc
theorem zTx{n D:Nat}{v:List Int}(hD:1≤D)(hl:v.length=n*D):(zB8 n D v).flatten=v:=by
 have hF:∀i:Nat,(mkv D fun j=>at0 v (i*D+j)).length=D:=fun i=>zZ _ _
 have h1:(zB8 n D v).flatten.length=n*D:=by have:=zFX (F:=fun i=>mkv D fun j=>at0 v (i*D+j)) hF (Jf n);rw[Le]at this;exact this
 refine(uA h1).trans (((yC fun k hk=>?_)).trans (uA hl).symm);have hi:k/D<n:=(Ha (by omega)).2 hk;have hm:k%D<D:=G4 _ (by omega);have e:=zFn (F:=fun i=>mkv D fun j=>at0 v (i*D+j)) hF (Jf n) (k/D) (k%D) (by grind) hm;rw[show k/D*D+k%D=k from by grind[Ly]]at e;rw[Uu,yG hm,show k/D*D+k%D=k from by grind[Ly]]at e;exact e
section
variable {x:SPr}{m:zB}{D:Nat} (hx:zDK x) (hD:MOk x.zA.length m D)
 include hx hD
theorem zQC:∃R pv,zUG x m=ik R∧Red m.Prime (base x.zA.length x.zA.length*D) R pv∧base x.zA.length x.zA.length*D≤63∧ ∀v,Row m.Prime (base x.zA.length x.zA.length*D) v→
  Row m.Prime (base x.zA.length x.zA.length*D) (cl m.Prime (base x.zA.length x.zA.length*D) R pv v R.length)∧zQO m.Prime R v=ik (cl m.Prime (base x.zA.length x.zA.length*D) R pv v R.length)∧
  zW4 x m v=ik (zB8 (base x.zA.length x.zA.length) D (cl m.Prime (base x.zA.length x.zA.length*D) R pv v R.length)):=by
 have h3:=hD.d3;obtain⟨R,pv,r1,r2,r3,r4,r5,r6⟩:=zNP hx hD;refine⟨R,pv,r1,r4,r6,fun v hv=>?_⟩;have gE:=zKr hD.p (by omega) r4 hv R.length;refine⟨gE,zHV hD.p (by omega) r4 hv (by omega),?_⟩;unfold zW4 zYU;rw[r2,bs,r3,bs,bs,zHY hD.p (by omega) r4 hv (by omega),bs,hD.d,zEq hD.d1 gE.1 (by omega),bs]
theorem zNY{v:List Int}(hv:Row m.Prime (base x.zA.length x.zA.length*D) v):f_y (zB8 (base x.zA.length x.zA.length) D v)=ik v:=by have h6:=hx.n6;have h3:=hD.d3;have hb:=vT x.zA.length (by omega);have aZ:base x.zA.length x.zA.length*D≤21*3:=Jy hb.2.1 h3;have e:=zTx hD.d1 hv.1;rw[zAT (by grind[zB8]) (by rw[e,hv.1];omega),e]
theorem zKJ(hc:wR (suf x 0))(hr:zD6 x m D):∃C pc K rows,zW6 x m=ik C∧f_f x m=ik K∧zI (zRq x m K) ([],0)=ik rows∧f_i m.Prime rows=ik C∧Red m.Prime (base x.zA.length x.zA.length*D) C pc∧base x.zA.length x.zA.length*D≤63:=by
 obtain⟨R,pv,r1,r2,r3,r4⟩:=zQC hx hD;obtain⟨K,pk,k1,k2,k3⟩:=zIE hx hD hc hr;have hK:=k3.len_le;have hl:(gl K.length fun i=>cl m.Prime (base x.zA.length x.zA.length*D) R pv (K.getD i []) R.length).length=K.length:=wT;obtain⟨C,pc,c1,c2,c3,_⟩:=kX hD.p (n:=base x.zA.length x.zA.length*D) (rows:=gl K.length fun i=>cl m.Prime (base x.zA.length x.zA.length*D) R pv (K.getD i []) R.length) (by omega) (by omega) (fun i hi=>by rw[hl]at hi;rw[xY hi];exact(r4 _ (k3.row i hi)).1)
 refine⟨C,pc,K,_,?_,k2,?_,c2,c3,r3⟩
 ·unfold zW6
  rw[r1,bs,k1,bs,tA (body:=zNa m R K) K.length (fun i=>cl m.Prime (base x.zA.length x.zA.length*D) R pv (K.getD i []) R.length) (fun i acc hi ha=>by
   unfold zNa;simp only
   rw[yZ hi,zM,yQ [] hi,bs,(r4 _ (k3.row i hi)).2.1,bs,yO (by simp only[J7,Jp];omega),bs,zE (by omega) (by omega),bs];rfl) (fun acc=>by
   unfold zNa;simp),bs]
  grind
 ·exact tA (body:=zRq x m K) K.length (fun i=>cl m.Prime (base x.zA.length x.zA.length*D) R pv (K.getD i []) R.length) (fun i acc hi ha=>by
   unfold zRq;simp only
   rw[yZ hi,zM,yQ [] hi,bs,(r4 _ (k3.row i hi)).2.2,bs,zNY hx hD (r4 _ (k3.row i hi)).1,bs,yO (by simp only[J7,Jp];omega),bs,zE (by omega) (by omega),bs];rfl) (fun acc=>by
   unfold zRq;simp)
end
def jF(p:Int)(n:Nat)(b:List Int)(L:Mx):Mx:=L.flatMap fun v=>gl p.toNat fun c=>uH p n v (c:Int) b
def zJ5(p:Int)(n:Nat):Mx→Mx→Option Mx
 | [],L=>ik L
 |b::bs,L=>if(L.length:Int)*p> 130 then im else zJ5 p n bs (jF p n b L)
theorem zA4{p:Int}{n:Nat}{b:List Int}:∀L:Mx,(jF p n b L).length=L.length*p.toNat
 | []=>by simp[jF]
 |v::L=>by
  have:=zA4 (p:=p) (n:=n) (b:=b) L
  grind[jF]
theorem zQD{p:Int}(hp:Prime p){n:Nat}{b:List Int}{L:Mx}:∀v∈jF p n b L,Row p n v:=by intro v hv;obtain⟨u,_,hv⟩:=Lo.1 hv;obtain⟨c,_,rfl⟩:=Jm.1 hv;exact kV hp
section
variable {p:Int} (hp:Prime p) {n:Nat} (hn:n≤1000)
 include hp hn
theorem zVK{m:zB}(hm:m.Prime=p){B L:Mx}{z:Int}{i k:Nat}{a0:Mx}(ha:a0.length≤200)(hi:i<B.length)(hk:k<L.length)(hB:Row p n (B.getD i []))(hL:Row p n (L.getD k [])){y:Mx}(_hz:z=z):
  zI (zRm m B (L,(i:Int)) (y,(k:Int))) (a0,0)=ik (a0++gl p.toNat fun c=>uH p n (L.getD k []) (c:Int) (B.getD i [])):=by
 subst hm;have h7:=hp.pos;have:=zX (body:=zRm m B (L,(i:Int)) (y,(k:Int))) (r:=a0++gl m.Prime.toNat fun c=>uH m.Prime n (L.getD k []) (c:Int) (B.getD i [])) (fun c=>(a0++gl c fun c=>uH m.Prime n (L.getD k []) (c:Int) (B.getD i []),(c:Int))) m.Prime.toNat (fun c hc=>by
  unfold zRm;simp only
  rw[iu (by omega),zM,yQ [] hk,bs,yQ [] hi,bs,uZ hp hL hB (by omega) (by omega),bs,yO (by rw[J5,wT];simp only[J7,Jp];omega),bs,zE (by omega) (by omega),bs,Jb,zCb];rfl) (by
  unfold zRm
  grind)
 grind
theorem zVL{L:Mx}{b:List Int}{k:Nat}{a0:Mx}(ha:a0.length≤200)(hB:Row p n b)(hL:Row p n (L.getD k [])):
  zI (zRo p b (L.getD k [])) (a0,0)=ik (a0++gl p.toNat fun c=>uH p n (L.getD k []) (c:Int) b):=by
 have h7:=hp.pos;have:=zX (body:=zRo p b (L.getD k [])) (r:=a0++gl p.toNat fun c=>uH p n (L.getD k []) (c:Int) b) (fun c=>(a0++gl c fun c=>uH p n (L.getD k []) (c:Int) b,(c:Int))) p.toNat (fun c hc=>by
  unfold zRo;simp only
  rw[iu (by omega),zM,zCa (by rw[hL.1];omega),bs,zA3 hp hL hB (by omega) (by omega),bs,yO (by rw[J5,wT];simp only[J7,Jp];omega),bs,zE (by omega) (by omega),bs,Jb,zCb];rfl) (by
  unfold zRo
  grind)
 grind
theorem zIw{L:Mx}{b:List Int}{k:Nat}(hk:k<L.length):jF p n b (L.take (k+1))=jF p n b (L.take k)++gl p.toNat fun c=>uH p n (L.getD k []) (c:Int) b:=by
 have _:=hp;have _:=hn;rw[jF,Jr hk,Ht,Lb,Jbh,Jd]
 congr 2
 grind
theorem zVM{m:zB}(hm:m.Prime=p){B L:Mx}{i:Nat}(hi:i<B.length)(gf:(L.length:Int)*p≤130)(hB:Row p n (B.getD i []))(hL:∀k,k<L.length→Row p n (L.getD k [])):
  zI (zRn m B (L,(i:Int))) ([],0)=ik (jF p n (B.getD i []) L):=by
 have h7:=hp.pos;have pM:∀k,k≤L.length→(jF p n (B.getD i []) (L.take k)).length≤130:=fun k hk=>by
  rw[zA4,Jw,Hz hk];have e:((L.length*p.toNat:Nat):Int)=(L.length:Int)*p:=by grind
  have:k*p.toNat≤L.length*p.toNat:=K9 _ hk;omega
 have az:L.length≤L.length*p.toNat:=Uv _ (by omega);have um:=pM L.length (Jg _);rw[H5,zA4]at um;have:=zX (body:=zRn m B (L,(i:Int))) (r:=jF p n (B.getD i []) L) (fun k=>(jF p n (B.getD i []) (L.take k),(k:Int))) L.length (fun k hk=>by
  unfold zRn;simp only
  rw[yZ hk,zM,zVK hp hn hm (z:=0) (by grind) hi hk hB (hL k hk) rfl,bs,zE (by omega) (by omega),bs,zIw hp hn hk];rfl) (by
  unfold zRn;simp)
 exact this
theorem zVN{L:Mx}{b:List Int}{z:Int}(gf:(L.length:Int)*p≤130)(hB:Row p n b)(hL:∀k,k<L.length→Row p n (L.getD k [])):
  zI (zRp p (L,z) b) ([],0)=ik (jF p n b L):=by
 have h7:=hp.pos;have pM:∀k,k≤L.length→(jF p n b (L.take k)).length≤130:=fun k hk=>by
  rw[zA4,Jw,Hz hk];have e:((L.length*p.toNat:Nat):Int)=(L.length:Int)*p:=by grind
  have:k*p.toNat≤L.length*p.toNat:=K9 _ hk;omega
 have az:L.length≤L.length*p.toNat:=Uv _ (by omega);have um:=pM L.length (Jg _);rw[H5,zA4]at um;have:=zX (body:=zRp p (L,z) b) (r:=jF p n b L) (fun k=>(jF p n b (L.take k),(k:Int))) L.length (fun k hk=>by
  unfold zRp;simp only
  rw[yZ hk,zM,yQ [] hk,bs,zVL hp hn (by have:=pM k (by omega);omega) hB (hL k hk),bs,zE (by omega) (by omega),bs,zIw hp hn hk];rfl) (by
  unfold zRp;simp)
 exact this
theorem zIx{m:zB}(hm:m.Prime=p){B:Mx}(hB:∀i,i<B.length→Row p n (B.getD i []))(hb:B.length≤100000):∀(k i:Nat)(L:Mx),i+k=B.length→L.length≤130→(∀k,k<L.length→Row p n (L.getD k []))→
  zI (zOr m B) (L,(i:Int))=ik (match zJ5 p n (B.drop i) L with|some M=>.inl M|none=>.inr ([],3))∧
  zI (zOs p B) (L,(i:Int))=ik (match zJ5 p n (B.drop i) L with|some M=>.inl M|none=>.inr ([],iq))∧ ∀M,zJ5 p n (B.drop i) L=ik M→M.length≤130∧ ∀k,k<M.length→Row p n (M.getD k [])
 |0,i,L,hi,hl,hL=>by
  obtain rfl:i=B.length:=by omega
  rw[List.drop_length];refine⟨?_,?_,fun M hM=>by cases hM;grind⟩
  ·rw[xH]
   unfold zOr;simp only
   rw[vU,zR];rfl
  ·rw[xH]
   unfold zOs;simp only
   rw[vU,zR];rfl
 |k+1,i,L,hi,hl,hL=>by
  have h7:=hp.pos;have eh:i<B.length:=by omega
  have ed:B.drop i=B.getD i []::B.drop (i+1):=by grind[H1]
  have co:0≤(L.length:Int)*p∧(L.length:Int)*p≤130*7:=⟨U0 (by omega) (by omega),Ls (by omega) (by omega) (by omega) (by omega)⟩;rw[ed];simp only[zJ5];rw[xH,xH]
  by_cases g:(L.length:Int)*p> 130
  ·rw[if_pos g]
   refine⟨?_,?_,by simp⟩
   ·unfold zOr
    simp only
    rw[yZ eh,zM,hm,zE (by omega) (by omega),bs,iu g,zM]
   ·unfold zOs
    simp only
    rw[yZ eh,zM,yQ [] eh,bs,zE (by omega) (by omega),bs,iu g,zM]
  ·rw[if_neg g]
   have gf:(jF p n (B.getD i []) L).length≤130:=by grind[zA4]
   obtain⟨q1,q2,q3⟩:=zIx hm hB hb k (i+1) (jF p n (B.getD i []) L) (by omega) gf (by grind[zQD]);refine⟨?_,?_,q3⟩
   ·have:zOr m B (L,(i:Int))=ik (.inl (jF p n (B.getD i []) L,((i+1:Nat):Int))):=by
     unfold zOr;simp only
     rw[yZ eh,zM,hm,zE (by omega) (by omega),bs,ir g,zR,zVM hp hn hm eh (by omega) (hB i eh) hL,bs,zE (by omega) (by omega),bs];rfl
    grind
   ·have:zOs p B (L,(i:Int))=ik (.inl (jF p n (B.getD i []) L,((i+1:Nat):Int))):=by
     unfold zOs;simp only
     rw[yZ eh,zM,yQ [] eh,bs,zE (by omega) (by omega),bs,ir g,zR,zVN hp hn (by omega) (hB i eh) hL,bs,zE (by omega) (by omega),bs];rfl
    grind
end
end Go.Pl

namespace Go.Pl
open Go Go.Ab Go.Wk Go.Pc
theorem zCY{x:SPr}{m:zB}(hx:zDJ x)(hm:zI6 m):∃g k,f_p x m=ik (g,k)∧f_D x m=ik (g,k)∧S3 g:=by
 have hl:x.zA.length≤1048576:=hx.1;have ar:=S3.len hm;have b8:S3 ([]:List Mx):=by simp[S3,c3,sm]
 unfold f_p f_D;rcases(zIA (m:=m) hl).both (zIB (m:=m) hl ar)with⟨s1,i1,hM⟩|⟨s1,i1,hM⟩
 ·obtain⟨hc,D,hD,hr⟩:=hM
  have h6:=hc.2.2.n6;have h3:=hD.d3;have h1:=hD.d1;have bN:=hD.p.pos;have pd:=vT x.zA.length (by omega);obtain⟨C,pc,K,rows,c1,c2,c3,c4,c5,c6⟩:=zKJ hc.2.2 hD hc.2.1 hr;have hC:=c5.len_le;have hz:∀k,k<([J1 (base x.zA.length x.zA.length*D) (0:Int)]:Mx).length→Row m.Prime (base x.zA.length x.zA.length*D) (([J1 (base x.zA.length x.zA.length*D) (0:Int)]:Mx).getD k []):=fun k hk=>by
   obtain rfl:k=0:=by simpa using hk
   refine⟨by simp,fun i hi=>?_⟩;have:at0 (J1 (base x.zA.length x.zA.length*D) (0:Int)) i=0:=by rw[tM,yG hi]
   show 0≤at0 (J1 _ 0) i∧at0 (J1 _ 0) i≤_;rw[this];omega
  obtain⟨q1,q2,q3⟩:=zIx hD.p (n:=base x.zA.length x.zA.length*D) (by omega) (m:=m) rfl (fun i hi=>c5.row i hi) (by omega) C.length 0 [J1 (base x.zA.length x.zA.length*D) (0:Int)] (by omega) (by simp) hz;rw[Gf]at q1 q2 q3;rw[show((0:Nat):Int)=0 from rfl]at q1 q2;simp only[s1,i1,bs,K0,zR];rw[c1,bs,zEp rfl (by omega),bs,hD.d,←Km,zE (by omega) (by omega),bs,xL (by omega),bs,q1,bs,c2,bs,c3,bs,c4,bs,zHX rfl h6,bs,U9 (D:Int),←Km,zE (by omega) (by omega),bs];unfold f_z;rw[xL (by omega),bs,q2,bs];cases bU:zJ5 m.Prime (base x.zA.length x.zA.length*D) C [J1 (base x.zA.length x.zA.length*D) (0:Int)]with
  |none=>
   simp only[bs,Kk,zM];exact⟨_,_,rfl,rfl,b8⟩
  |some M=>
   obtain⟨m1,m2⟩:=q3 M bU;simp only[bs,K0,zR];rw[tA (body:=zUO m M) M.length (fun i=>zB8 (base x.zA.length x.zA.length) D (M.getD i [])) (fun i acc hi ha=>by
    unfold zUO;simp only
    rw[yZ hi,zM,yQ [] hi,bs,hD.d,zMm hD.d1 (by omega) (m2 i hi).1 (by omega),bs,yO (by simp only[J7,Jp];omega),bs,zE (by omega) (by omega),bs];rfl) (fun acc=>by
    unfold zUO;simp only
    rw[vU,zR]),bs]
   rw[tA (body:=zUP m (M,io)) M.length (fun i=>zB8 (base x.zA.length x.zA.length) D (M.getD i [])) (fun i acc hi ha=>by
    unfold zUP;simp only
    rw[yZ hi,zM,yQ [] hi,bs,hD.d,zEq hD.d1 (m2 i hi).1 (by omega),bs,yO (by simp only[J7,Jp];omega),bs,zE (by omega) (by omega),bs];rfl) (fun acc=>by
    unfold zUP;simp only
    rw[vU,zR]),bs]
   refine⟨_,_,rfl,rfl,?_⟩;have e1:=zSF (c:=Pl.c2) (b:=21+21*3) (xs:=gl M.length fun i=>zB8 (base x.zA.length x.zA.length) D (M.getD i [])) (fun r hr=>by
    obtain⟨i,_,rfl⟩:=Jm.1 hr;have e2:=zSF (c:=Pl.c1) (b:=3) (xs:=zB8 (base x.zA.length x.zA.length) D (M.getD i [])) (fun r hr=>by obtain⟨i,_,rfl⟩:=Jm.1 hr;show(mkv _ _).length≤3;rw[zZ];exact h3)
    have e3:(zB8 (base x.zA.length x.zA.length) D (M.getD i [])).length=base x.zA.length x.zA.length:=wT;simp only[Pl.c2];omega)
   have e4:(gl M.length fun i=>zB8 (base x.zA.length x.zA.length) D (M.getD i [])).length=M.length:=wT;show(gl M.length fun i=>zB8 (base x.zA.length x.zA.length) D (M.getD i [])).length+sm Pl.c2 (gl M.length fun i=>zB8 (base x.zA.length x.zA.length) D (M.getD i []))≤1048576;omega
 ·simp only[s1,i1,bs,Kk,zM]
  exact⟨_,_,rfl,rfl,b8⟩
theorem zEy(x0:SPr)(x1:zB)(v0:zPd x0)(v1:zVv x1)
  (h:zDJ x0→zI6 x1→ ∃g k,f_p x0 x1=ik (g,k)∧f_D x0 x1=ik (g,k)∧S3 g):zUQ x0 x1=ik io:=by
 unfold zUQ;rw[zHC v0 (by decide) (by decide),bs];rcases zPe (c:=zLD x0) (b:=1048576) (by decide) (by decide)with e|⟨e,a0,b0,w0⟩<;>rw[e]
 ·rfl
 rw[zR,zSz v1 a0 b0,bs];rcases zPe (c:=zSy x1) a0 b0 with e|⟨e,a1,b1,w1⟩<;>rw[e]
 ·rfl
 have s0:zDJ x0:=zDJ.of w0;have s1:zI6 x1:=zI6.of w1;obtain⟨g,k,hs,hi,sg⟩:=h s0 s1;have t0:=zPp s0;have q1:=zKi (x:=x1.zG);have w1':=w1;simp only[zSy]at w1';have qg:=zKi (x:=g);have sg':=sg;simp only[S3]at sg';rw[zR,zHD s0,bs,zS0 s1,bs];simp only[bs];rw[hs,bs,hi,bs];simp only
 rw[zBP sg,bs];simp only[beq_self_eq_true,K0,zR,bne_self_eq_false];rw[zHE s0,bs,K0,zR,zS1 s1,bs,K0,zR,zD7 s0 (by decide) (by decide),bs];simp only
 rw[zNy s1 (by omega) (by omega),bs];simp only
 rw[ir (by omega),zR,bs,K0,zR];rw[zBQ sg (by decide) (by omega),bs];simp only
 rw[zKh sg (by decide) (by omega),bs,ir (by omega),zR,bne_self_eq_false,zR,bs];simp only
 rw[zBP sg,bs,beq_self_eq_true,K0,zR,bne_self_eq_false,zR,bs,ir (by omega),zR,bne_self_eq_false,zR]
theorem zCZ(x0:SPr)(x1:zB)(v0:zPd x0)(v1:zVv x1):zUQ x0 x1=ik io:=
 zEy x0 x1 v0 v1 zCY
end Go.Pl
