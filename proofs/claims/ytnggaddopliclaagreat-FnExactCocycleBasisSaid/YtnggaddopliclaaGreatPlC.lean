/- The program's CocycleBasis returns what the reference's returns,for all arguments;no conditions. -/
import Derived.Test.YtnggaddopliclaaGreatPlB
open List renaming replicate→J1,getD_eq_getElem?_getD→J2,getElem?_eq_getElem→J3,length_append→J5,length_cons→J7,getElem?_append_right→J8,append_nil→J9,append_assoc→Ja,mem_cons→Jc,length_map→Jf,mem_append→Jh,length_replicate→Ji,nil_append→Jj,getElem?_append_left→Jl,take_left'→Jm,cons_append→Jn,mem_map→Jo,replicate_succ→Jq,take_of_length_le→Jr,eq_of_mem_replicate→Js,map_cons→Jt,range→Jw,length_drop→Jx,length_take→Jy,length_nil→K0,getElem?_map→K1,drop_left'→K3,take_zero→K8,take_succ_eq_append_getElem→Ka,getElem_mem→Kd,all_eq_true→Kg,mem_range→Kk,getElem?_drop→Kq,reverse_reverse→Ks,range'→L6,map_append→Lh,length_range→Ll,flatMap_cons→Ln,flatten_cons→Lo,range_eq_range'→Lq,mem_iff_getElem→Ls,getD_cons_zero→Lu,mem_append_right→Lw,take_length→Lx,reverse_cons→Lz,getElem?_take→H1,replicate_succ'→H2,mem_flatMap→H5,drop_eq_nil_of_le→H6,drop_eq_getElem_cons→H7,replicate_zero→Hc,flatMap_append→Hd,map_nil→Hk,flatten_nil→Ho,mem_cons_of_mem→Hv,drop_zero→G7,mem_append_left→Gm,head?_cons→Gx,getD_cons_succ→U9,map_replicate→Q5,length_range'→Q6,map_congr_left→Qq,flatten_append→Qt,map_take→Qv,mem_reverse→Qx,flatMap_nil→Qz,ext_getElem→Ja0,getElem?_replicate_of_lt→Ja1,range_zero→Ja4,length_reverse→Jb4,not_mem_nil→Jb7,getElem_range→Jb9,mem_of_mem_head?→Jbl,mem_of_mem_drop→Jbt,findSome?_cons→Jc2,drop_drop→Jc5,getElem_map→Jcp,map_drop→Jd7,range'_succ→Jdf
open Nat renaming zero_add→Je,lt_or_ge→Jk,le_refl→Jp,succ_mul→K5,zero_le→Ke,mul_le_mul→Kj,mul_le_mul_right→Km,add_sub_cancel_left→H9,zero_mul→Hm,mul_comm→Hu,div_add_mod→Ge,div_lt_iff_lt_mul→Gg,mod_lt→U6,sub_zero→U7,eq_zero_or_pos→Ua,not_lt_zero→Uk,add_sub_cancel→Jbj,mul_pos→Jc3,lt_irrefl→Jc6
open Int renaming toNat_natCast→Jg,mul_emod→Jv,emod_emod→Kc,emod_eq_of_lt→Kh,add_emod→Ko,emod_lt_of_pos→Kw,natCast_mul→L8,mul_zero→L9,emod_nonneg→La,add_zero→H8,mul_assoc→He,mul_one→Hl,toNat_of_nonneg→Qm,add_assoc→Qo,mul_le_mul_of_nonneg_left→Jac,mul_add→Jad,natCast_add→Jam
open Bool renaming not_true→K9,not_false→Kn,false_eq_true→Ga
open Option renaming some→L4,map_some→Hx,bind→G9,getD_some→Ug,isSome_none→Q4
open Prod renaming mk→Jb2
namespace Go.Pl
open Go Go.Ab Go.Wk Go.Pc
theorem zKb{D:Nat}{f:Nat→Int}:∀B:Nat,S (B*D) f=S B fun q=>S D fun l=>f (q*D+l)
 |0=>by rw[Hm];rfl
 |B+1=>by rw[K5,zGv,zKb B];rfl
def blk(D:Nat)(w:Vec)(q:Nat):Vec:=mkv D fun j=>at0 w (q*D+j)
theorem jW{D B q l:Nat}(hq:q<B)(hl:l<D):q*D+l<B*D:=by
 have:=Km D (show q+1≤B by omega);rw[K5]at this;omega
theorem zOE{p:Int}{D B:Nat}{w:Vec}(hw:Row p (B*D) w){q:Nat}(hq:q<B):Row p D (blk D w q):=
 ⟨yD _ _,fun j hj=>by rw[blk,yH hj];exact hw.2 _ (jW hq hj)⟩
theorem sH{D q l:Nat}(hl:l<D):(q*D+l)/D=q∧(q*D+l)%D=l:=by
 have hD:0<D:=by omega
 constructor
 ·rw[Hu,Nat.mul_add_div hD,Nat.div_eq_of_lt hl];rfl
 ·rw[Hu,Nat.mul_add_mod,Nat.mod_eq_of_lt hl]
def ABk(B D:Nat)(A:Mx):Mx:=gl (B*D) fun i=>mkv (B*D) fun j=>if i/D=j/D then ent A (i%D) (j%D)else 0
theorem zOF{B D:Nat}{A:Mx}{i j:Nat}(hi:i<B*D)(hj:j<B*D):ent (ABk B D A) i j=if i/D=j/D then ent A (i%D) (j%D)else 0:=by
 show at0 ((gl (B*D) _).getD i []) j=_;rw[xY hi,yH hj]
theorem zUg{p:Int}{B D:Nat}{A:Mx}(hp:2≤p)(hD:0<D)(hA:Mat p D A):Mat p (B*D) (ABk B D A):=by
 refine⟨vA,fun i hi=>?_⟩;rw[ABk,xY hi];refine⟨yD _ _,fun j hj=>?_⟩;rw[yH hj];split
 ·exact(hA.2 (i%D) (U6 _ hD)).2 _ (U6 _ hD)
 ·omega
theorem zLI{p:Int}{B D:Nat}{u:Vec}{A:Mx}{q l:Nat}(hq:q<B)(hl:l<D):at0 (wD p (B*D) u (ABk B D A)) (q*D+l)=S D (fun i=>at0 u (q*D+i)*ent A i l)%p:=by
 rw[wD,yH (jW hq hl),zKb]
 congr 1
 rw[zAd (k:=q) hq fun i hi hne=>?_]
 ·refine xE fun i hi=>?_
  rw[zOF (jW hq hi) (jW hq hl),(sH hi).1,(sH hi).2,(sH hl).1,(sH hl).2,if_pos rfl]
 ·rw[xE (g:=fun _=>0) fun j hj=>?_,qG]
  rw[zOF (jW hi hj) (jW hq hl),(sH hj).1,(sH hl).1,if_neg hne,L9]
theorem zUh{p:Int}{B D:Nat}{u:Vec}{A:Mx}{q:Nat}(hq:q<B):blk D (wD p (B*D) u (ABk B D A)) q=wD p D (blk D u q) A:=by
 refine zY fun l hl=>?_
 rw[zLI hq hl]
 congr 1
 exact xE fun i hi=>by rw[blk,yH hi]
theorem zLJ{D B:Nat}{w:Vec}(hw:w.length=B*D){q:Nat}(hq:q<B):(w.drop (q*D)).take D=blk D w q:=by
 have h1:=Km D (show q+1≤B by omega);rw[K5]at h1;apply Ja0
 ·rw[Jy,Jx,blk,yD];omega
 ·intro i a b
  rw[Jy,Jx]at a;rw[List.getElem_take,List.getElem_drop];simp only[blk,mkv,Jcp,Jb9,at0];rw[J2,J3 (by omega)];rfl
theorem zRW{D B:Nat}{w:Vec}(hw:w.length=B*D){q:Nat}(hq:q<B):w.take (q*D)++blk D w q=w.take ((q+1)*D):=by
 rw[←zLJ hw hq,K5,List.take_add]
def mBk(B D n:Nat)(m:zH):zH:=⟨m.Prime,((B*D:Nat):Int),(Jw n).map fun k=>ABk B D (m.zF.getD k [])⟩
theorem zKc{B D n:Nat}{m:zH}{k:Nat}(hk:k<n):(mBk B D n m).zF.getD k []=ABk B D (m.zF.getD k []):=by
 simp[mBk,J2,hk]
theorem zWM{B D n:Nat}{m:zH}(hm:MOk n m D)(hB:1≤B)(h2:B*D≤200):zRw n (mBk B D n m) (B*D):=by
 have h1:=hm.d1;have hp:=hm.p.pos;refine⟨hm.p,Jc3 (by omega) (by omega),h2,by simp[mBk],fun i hi=>?_⟩;rw[zKc hi];exact zUg (by show 2≤m.Prime;omega) (by omega) (hm.mat i hi)
theorem zWN{B D n:Nat}{m:zH}(hm:MOk n m D)(h2:B*D≤200):Mv (B*D) n m (mBk B D n m):=by
 refine⟨rfl,fun k hk u hu=>?_⟩;have h1:=hm.d1;have h3:=hm.d3;have hul:=hu.1;have hml:=hm.len;have hA:=hm.mat k hk;rw[zKc hk];have hR:(wD m.Prime (B*D) u (ABk B D (m.zF.getD k []))).length=B*D:=by rw[wD,yD]
 unfold zUL;have:=yB (body:=zMg m u (k:Int)) (r:=wD m.Prime (B*D) u (ABk B D (m.zF.getD k []))) (fun i=>((wD m.Prime (B*D) u (ABk B D (m.zF.getD k []))).take (i*D),((i*D:Nat):Int))) B (fun i hi=>by
  have hin:=Km D (show i+1≤B by omega);rw[K5]at hin;unfold zMg;simp only
  rw[decide_eq_true (by omega),zQ,hm.d,zE (by omega) (by omega),bs];have hsl:yA u ((i*D:Nat):Int) (((i*D:Nat):Int)+(D:Int))=some (blk D u i):=by
   unfold yA;rw[if_pos ⟨by omega,by omega,by omega⟩]
   congr 1
   rw[show(((i*D:Nat):Int)+(D:Int)).toNat=i*D+D from by omega,Jg,H9];exact zLJ hul hi
  rw[hsl,bs,yY [] (by omega),bs,zH7 hm.p (by omega) (zOE hu hi) hA,bs,←zUh (B:=B) hi,xK (by rw[Jy,blk,yD];omega),bs,zRW hR hi,bs,K5];rfl) (by
  unfold zMg;simp only
  rw[decide_eq_false (by omega),zL,Jr (by omega)])
 rw[Hm,K8]at this;rw[show((0:Nat):Int)=0 from rfl]at this;rw[this,bs];rfl
def phi(p:Int)(B D:Nat)(c w:Vec):Vec:=mkv D fun j=>S B (fun q=>at0 c q*at0 w (q*D+j))%p
theorem zUi{p:Int}{B D:Nat}{c w:Vec}(hp:2≤p):Row p D (phi p B D c w):=⟨yD _ _,fun j hj=>by
 rw[phi,yH hj];exact⟨La _ (show p≠0 by omega),by have:=Kw (S B fun q=>at0 c q*at0 w (q*D+j)) (show 0<p by omega);omega⟩⟩
def Tc(N D:Nat)(c:Vec):Mx:=gl N fun i=>blk D c i
theorem zWO{n B D N:Nat}{m:zH}{TB:Mx}{c:Vec}(hm:MOk n m D)(hN:B=N*D)(hb:base n n=N)(hc:Row m.Prime B c)(ht:∀i,i<N→TB.getD i []=mkv (B*D) fun j=>if j/D=i*D+j%D then 1 else 0):Fh n (B*D) D (mBk B D n m) m TB (Tc N D c) (phi m.Prime B D c):=by
 have hp:=hm.p.pos;have h1:=hm.d1;refine⟨rfl,fun u _=>zUi (by show 2≤m.Prime;omega),?_,fun u v hu hv=>?_,fun k hk u hu=>?_,fun r hr=>?_⟩
 ·rw[show zeros D=mkv D fun _=>0 from qL D]
  refine zY fun j hj=>?_
  rw[xE (g:=fun _=>0) fun q hq=>by rw[tW,L9],qG];simp
 ·refine zY fun j hj=>?_
  rw[phi,phi,yH hj,yH hj];show _%m.Prime=(_%m.Prime+_%m.Prime)%m.Prime;rw[←Ko,←zCB];refine kO fun q hq=>?_
  rw[yH (jW hq hj),←Jad];show(at0 c q*((at0 u (q*D+j)+at0 v (q*D+j))%m.Prime))%m.Prime=_;rw[Jv,Kc,←Jv]
 ·rw[zKc hk]
  refine zY fun j hj=>?_
  show S B (fun q=>at0 c q*at0 (wD m.Prime (B*D) u (ABk B D (m.zF.getD k []))) (q*D+j))%m.Prime=S D (fun l=>at0 (phi m.Prime B D c u) l*ent (m.zF.getD k []) l j)%m.Prime;rw[kO (g:=fun q=>at0 c q*S D (fun i=>at0 u (q*D+i)*ent (m.zF.getD k []) i j)) fun q hq=>by rw[zLI hq hj,Jv,Kc,←Jv]];rw[kO (f:=fun l=>at0 (phi m.Prime B D c u) l*ent (m.zF.getD k []) l j) (g:=fun l=>S B (fun q=>at0 c q*at0 u (q*D+l))*ent (m.zF.getD k []) l j) fun l hl=>by rw[phi,yH hl,Jv,Kc,←Jv]]
  congr 1
  rw[xE (g:=fun q=>S D (fun i=>at0 c q*(at0 u (q*D+i)*ent (m.zF.getD k []) i j))) fun q _=>(zCC _ D).symm,zH4];refine xE fun l hl=>?_
  rw[←zLm];exact xE fun q _=>(He _ _ _).symm
 ·rw[hb]at hr
  rw[ht r hr,Tc,xY hr];refine zY fun j hj=>?_
  have hin:r*D+j<B:=by rw[hN];exact jW hr hj
  rw[zAd (k:=r*D+j) hin fun q hq hne=>?_]
  ·rw[yH (jW hin hj),(sH hj).1,(sH hj).2,if_pos rfl,Hl]
   have:=hc.2 _ hin;exact Kh this.1 (by omega)
  ·rw[yH (jW hq hj),(sH hj).1,(sH hj).2,if_neg hne,L9]
end Go.Pl

namespace Go.Pl
open Go Go.Ab Go.Wk Go.Pc
def uT(N D:Nat):Mx:=gl N fun i=>mkv (N*D*D) fun j=>if j/D=i*D+j%D then 1 else 0
section
variable {x:SPr}{m:zH}{D:Nat} (hx:zFY x) (hD:MOk x.zA.length m D)
 include hx hD
theorem zRX{D2:Nat}{m2:zH}{T:Mx}(hm:zRw x.zA.length m2 D2)(ht:T.length=base x.zA.length x.zA.length):ExB x.zA.length D2 x m2 T:=by
 have _:=hD;refine⟨hx.n6,rfl,hx.pl,hx.cl,fun i hi=>?_,ht,hm⟩;have:=(hx.tl i hi).2.1;omega
theorem zV5{y:Vec}(hy:Row m.Prime (base x.zA.length x.zA.length*D) y):ExB x.zA.length D x m (Tc (base x.zA.length x.zA.length) D y)∧ ∀i,i<(Tc (base x.zA.length x.zA.length) D y).length→Row m.Prime D ((Tc (base x.zA.length x.zA.length) D y).getD i []):=by
 refine⟨zRX hx hD hD.b vA,fun i hi=>?_⟩;rw[Tc,vA]at hi;rw[Tc,xY hi];exact zOE hy hi
theorem zRY(h0:0<x.zA.length)(hc:wR (suf x 0))(hr:zDZ x m D):∃L,f_K ⟨x,m,uT (base x.zA.length x.zA.length) D⟩=some L∧L.length≤1000∧(∀r∈L,Row m.Prime (base x.zA.length x.zA.length*D*D) r)∧
  ∀y,Row m.Prime (base x.zA.length x.zA.length*D) y→((∀r∈L,phi m.Prime (base x.zA.length x.zA.length*D) D y r=zeros D)↔wR (suf (exx D x m (Tc (base x.zA.length x.zA.length) D y)) 0)):=by
 have h6:=hx.n6;have hb:=uG x.zA.length (by omega);have h1:=hD.d1;have h3:=hD.d3;have hp:=hD.p.pos;have hB:base x.zA.length x.zA.length*D≤21*3:=Kj hb.2.1 h3;have hB1:1≤base x.zA.length x.zA.length*D:=Jc3 (by omega) (by omega);have hBD:base x.zA.length x.zA.length*D*D≤63*3:=Kj (by omega) h3;have hE:=zRX hx hD (T:=uT (base x.zA.length x.zA.length) D) (zWM hD hB1 (by omega)) vA;have hT:∀i,i<(uT (base x.zA.length x.zA.length) D).length→Row (mBk (base x.zA.length x.zA.length*D) D x.zA.length m).Prime (base x.zA.length x.zA.length*D*D) ((uT (base x.zA.length x.zA.length) D).getD i []):=fun i hi=>by
  rw[uT,vA]at hi;rw[uT,xY hi];refine⟨yD _ _,fun j hj=>?_⟩;rw[yH hj];show _∧_≤m.Prime-1;split<;>omega
 have hM:=zWN (B:=base x.zA.length x.zA.length*D) hD (by omega);have key:∀y,Row m.Prime (base x.zA.length x.zA.length*D) y→ ∃L,f_K ⟨x,m,uT (base x.zA.length x.zA.length) D⟩=some L∧L.length≤1000∧(∀r∈L,Row m.Prime (base x.zA.length x.zA.length*D*D) r)∧((∀r∈L,phi m.Prime (base x.zA.length x.zA.length*D) D y r=zeros D)↔wR (suf (exx D x m (Tc (base x.zA.length x.zA.length) D y)) 0)):=fun y hy=>by
  obtain⟨e1,e2⟩:=zV5 hx hD hy;exact zRV hx.toPres hE hT e1 e2 (zWO hD rfl rfl hy fun i hi=>by rw[uT,xY hi]) hM hc hr
 obtain⟨L,l1,l2,l3,_⟩:=key (zeros (base x.zA.length x.zA.length*D)) (xL (by omega));refine⟨L,l1,l2,l3,fun y hy=>?_⟩;obtain⟨L2,k1,_,_,k4⟩:=key y hy;rw[l1]at k1;cases k1;exact k4
end
def zDx(D k:Nat)(L:Mx):List Int:=(L.map fun r=>blk D r k).flatten
theorem zLK{D k:Nat}:∀L:Mx,(zDx D k L).length=L.length*D
 | []=>by rw[zDx];simp
 |r::L=>by
  have ih:=zLK (D:=D) (k:=k) L;simp only[zDx]at ih;simp only[zDx,Jt,Lo,J5,J7];rw[ih,blk,yD,K5];omega
theorem zKd{D k:Nat}:∀(L:Mx)(i j:Nat),i<L.length→j<D→at0 (zDx D k L) (i*D+j)=at0 (L.getD i []) (k*D+j)
 | [],i,j,hi,_=>by simp at hi
 |r::L,i,j,hi,hj=>by
  have hl:(blk D r k).length=D:=yD _ _;simp only[zDx,Jt,Lo];cases i with
  |zero=>
   rw[Hm,Je,Lu,at0,J2,Jl (by omega),←J2];show at0 (blk D r k) j=_;rw[blk,yH hj]
  |succ i=>
   have ih:=zKd (D:=D) (k:=k) L i j (by simpa using hi) hj;simp only[zDx]at ih;rw[U9,←ih,at0,J2,J8 (by rw[hl,K5];omega),hl,K5,show i*D+D+j-D=i*D+j from by omega,←J2]
theorem zRZ{p:Int}{B D:Nat}{L:Mx}{y:Vec}:(∀c,c<L.length*D→(S B fun k=>at0 y k*ent (gl B fun k=>zDx D k L) k c)%p=0)↔ ∀r∈L,phi p B D y r=zeros D:=by
 have e:∀i j,i<L.length→j<D→(S B fun k=>at0 y k*ent (gl B fun k=>zDx D k L) k (i*D+j))%p=at0 (phi p B D y (L.getD i [])) j:=fun i j hi hj=>by
  rw[phi,yH hj]
  congr 1
  refine xE fun k hk=>?_
  show at0 y k*at0 ((gl B fun k=>zDx D k L).getD k []) (i*D+j)=_;rw[xY hk,zKd L i j hi hj]
 constructor
 ·intro g r hr
  obtain⟨i,hi,rfl⟩:=Ls.1 hr;rw[show zeros D=mkv D fun _=>0 from qL D,uE (D:=D) (v:=phi p B D y L[i]) (yD _ _)];refine zY fun j hj=>?_
  have:=e i j hi hj;rw[J2,J3 hi]at this;rw[←g _ (jW hi hj),this];rfl
 ·intro g c hc
  have hD:0<D:=by
   rcases Ua D with h|h
   ·rw[h,Nat.mul_zero]at hc;omega
   ·exact h
  have hi:c/D<L.length:=(Gg hD).2 hc;have hj:c%D<D:=U6 _ hD;rw[show c=c/D*D+c%D from by rw[Hu];exact(Ge c D).symm,e _ _ hi hj,g _ (by rw[J2,J3 hi];exact Kd hi),tW]
end Go.Pl

namespace Go.Pl
open Go Go.Ab Go.Wk Go.Pc
def zAX(p:Int)(D:Nat)(m:zH):List (Nat×List Nat)→Nat→Nat→Nat→Int
 | [],_,_,_=>0
 |(q,s)::t,r,i,j=>(if q=r then ent (wM p D m.zF s (idM D)) i j else 0)+zAX p D m t r i j
section
variable {p:Int}{D N:Nat}{m:zH}{y:Vec}
theorem zSa{j:Nat}(hj:j<D):∀t:List (Nat×List Nat),(∀q∈t,q.1<N)→at0 (tv p D m (Tc N D y) t) j=(S N fun r=>S D fun i=>at0 y (r*D+i)*zAX p D m t r i j)%p
 | [],_=>by
  show at0 (zeros D) j=_;rw[tW,xE (g:=fun _=>0) fun r _=>by
   rw[xE (g:=fun _=>0) fun i _=>by rw[zAX,L9],qG],qG]
  rfl
 |(q,s)::t,h=>by
  have hq:q<N:=h (q,s) (by simp);have ih:=zSa hj t fun q hq=>h q (by simp[hq])
  show at0 (adv p D (wD p D ((Tc N D y).getD q []) (wM p D m.zF s (idM D))) (tv p D m (Tc N D y) t)) j=_;rw[show adv p D=fun u v=>mkv D fun j=>(at0 u j+at0 v j)%p from rfl];show at0 (mkv D _) j=_;rw[yH hj,ih,wD,yH hj,←Ko]
  congr 1
  have e:(S N fun r=>S D fun i=>at0 y (r*D+i)*zAX p D m ((q,s)::t) r i j)=
    (S N fun r=>S D fun i=>at0 y (r*D+i)*(if q=r then ent (wM p D m.zF s (idM D)) i j else 0))+S N fun r=>S D fun i=>at0 y (r*D+i)*zAX p D m t r i j:=by
   rw[←zCB];refine xE fun r _=>?_
   rw[←zCB];refine xE fun i _=>?_
   rw[zAX,Jad]
  rw[e]
  congr 1
  rw[zAd (k:=q) hq fun r _ hr=>by
   rw[xE (g:=fun _=>0) fun i _=>by rw[if_neg (Ne.symm hr),L9],qG]]
  refine xE fun l hl=>?_
  rw[if_pos rfl,Tc,xY hq,blk,yH hl]
end
def prR(p:Int)(D:Nat)(m:zH)(t1 t2:List (Nat×List Nat))(k:Nat):List Int:=mkv D fun j=>(zAX p D m t1 (k/D) (k%D) j-zAX p D m t2 (k/D) (k%D) j)%p
section
variable {p:Int}{D N:Nat}{m:zH}{y:Vec}
theorem zOG(hp:2≤p){t1 t2:List (Nat×List Nat)}(h1:∀q∈t1,q.1<N)(h2:∀q∈t2,q.1<N):
  (∀j,j<D→(S (N*D) fun k=>at0 y k*at0 (prR p D m t1 t2 k) j)%p=0)↔tv p D m (Tc N D y) t1=tv p D m (Tc N D y) t2:=by
 have e:∀j,j<D→(S (N*D) fun k=>at0 y k*at0 (prR p D m t1 t2 k) j)%p=(at0 (tv p D m (Tc N D y) t1) j-at0 (tv p D m (Tc N D y) t2) j)%p:=fun j hj=>by
  rw[zSa hj t1 h1,zSa hj t2 h2,←Int.sub_emod,zKb];have e1:((S N fun r=>S D fun i=>at0 y (r*D+i)*zAX p D m t1 r i j)-S N fun r=>S D fun i=>at0 y (r*D+i)*zAX p D m t2 r i j)=S N fun r=>S D fun i=>at0 y (r*D+i)*(zAX p D m t1 r i j-zAX p D m t2 r i j):=by
   have:(S N fun r=>S D fun i=>at0 y (r*D+i)*zAX p D m t1 r i j)=(S N fun r=>S D fun i=>at0 y (r*D+i)*(zAX p D m t1 r i j-zAX p D m t2 r i j))+S N fun r=>S D fun i=>at0 y (r*D+i)*zAX p D m t2 r i j:=by
    rw[←zCB];refine xE fun r _=>?_
    rw[←zCB];refine xE fun i _=>?_
    rw[←Jad];congr 1;omega
   omega
  rw[e1];refine kO fun r _=>kO fun i hi=>?_
  have hd:=sH (q:=r) hi;rw[prR,yH hj,hd.1,hd.2,Jv,Kc,←Jv]
 constructor
 ·intro g
  have r1:=zJU (D:=D) (m:=m) (T:=Tc N D y) hp t1;have r2:=zJU (D:=D) (m:=m) (T:=Tc N D y) hp t2;rw[uE r1.1,uE r2.1];refine zY fun j hj=>?_
  have k:=e j hj;rw[g j hj]at k;have b1:=r1.2 j hj;have b2:=r2.2 j hj;have:=Int.emod_emod_of_dvd (at0 (tv p D m (Tc N D y) t1) j-at0 (tv p D m (Tc N D y) t2) j) (Int.dvd_refl p);have hdv:p∣at0 (tv p D m (Tc N D y) t1) j-at0 (tv p D m (Tc N D y) t2) j:=Int.dvd_of_emod_eq_zero k.symm;obtain⟨c,hc⟩:=hdv;have:c=0:=by
   rcases Int.lt_trichotomy c 0 with hlt|h0|hgt
   ·have:p*c≤p*(-1):=Jac (by omega) (by omega)
    omega
   ·exact h0
   ·have:p*1≤p*c:=Jac (by omega) (by omega)
    omega
  rw[this,L9]at hc;omega
 ·intro g j hj
  rw[e j hj,g,Int.sub_self];rfl
end
end Go.Pl

namespace Go.Pl
open Go Go.Ab Go.Wk Go.Pc
abbrev Trc:=List (Nat×List Nat)
structure PD where
 k:Nat
 wd:List Nat
 t:Nat
 r1:Nat
 s1:List Nat
 w1:List Nat
 r2:Nat
 s2:List Nat
 w2:List Nat
section
variable (x:SPr)
abbrev PD.B(d:PD)(t1 t2:Trc):Prop:=zJZ x d.k d.r1 d.s1 d.w1 d.r2 d.s2 d.w2 t1 t2
def ups(n i:Nat):List Nat:=L6 (i+1) (n-(i+1))
def pd2(i j k:Nat):PD:=⟨i,[k,j,i],1,base x.zA.length j+(k-(j+1)),[i],j::(nw 0 (lcj x j k)++[i]),base x.zA.length i+(j-(i+1)),[],k::i::nw 0 (lcj x i j)⟩
def pd1(i j:Nat):PD:=⟨i,J1 (yI x j) j++[i],yI x j-1,j,[i],nw 0 (x.zS.getD j [])++[i],base x.zA.length i+(j-(i+1)),[],J1 (yI x j-1) j++i::nw 0 (lcj x i j)⟩
def pd4(i j:Nat):PD:=⟨i,j::J1 (yI x i) i,1,base x.zA.length i+(j-(i+1)),J1 (yI x i-1) i,i::(nw 0 (lcj x i j)++J1 (yI x i-1) i),i,[],j::nw 0 (x.zS.getD i [])⟩
def pd3(i:Nat):PD:=⟨i,J1 (yI x i+1) i,1,i,[i],nw 0 (x.zS.getD i [])++[i],i,[],i::nw 0 (x.zS.getD i [])⟩
def cps:List PD:=
 ((Jw x.zA.length).flatMap fun i=>(ups x.zA.length i).flatMap fun j=>(ups x.zA.length j).map fun k=>pd2 x i j k)++
 (((Jw x.zA.length).flatMap fun i=>(ups x.zA.length i).map fun j=>pd1 x i j)++
 (((Jw x.zA.length).flatMap fun i=>(ups x.zA.length i).map fun j=>pd4 x i j)++
 (Jw x.zA.length).map fun i=>pd3 x i))
end
theorem zEX{n i j:Nat}:j∈ups n i↔i<j∧j<n:=by
 rw[ups,List.mem_range'_1];omega
section
variable {x:SPr}
theorem zAK{φ:PD→Prop}:(∀d∈cps x,φ d)↔(∀i j k,i<j→j<k→k<x.zA.length→φ (pd2 x i j k))∧(∀i j,i<j→j<x.zA.length→φ (pd1 x i j))∧(∀i j,i<j→j<x.zA.length→φ (pd4 x i j))∧ ∀i,i<x.zA.length→φ (pd3 x i):=by
 constructor
 ·intro g
  refine⟨fun i j k h1 h2 h3=>g _ ?_,fun i j h1 h2=>g _ ?_,fun i j h1 h2=>g _ ?_,fun i h1=>g _ ?_⟩
  ·exact Gm _ (H5.2 ⟨i,Kk.2 (by omega),H5.2 ⟨j,zEX.2 ⟨h1,by omega⟩,Jo.2 ⟨k,zEX.2 ⟨h2,h3⟩,rfl⟩⟩⟩)
  ·exact Lw _ (Gm _ (H5.2 ⟨i,Kk.2 (by omega),Jo.2 ⟨j,zEX.2 ⟨h1,h2⟩,rfl⟩⟩))
  ·exact Lw _ (Lw _ (Gm _ (H5.2 ⟨i,Kk.2 (by omega),Jo.2 ⟨j,zEX.2 ⟨h1,h2⟩,rfl⟩⟩)))
  ·exact Lw _ (Lw _ (Lw _ (Jo.2 ⟨i,Kk.2 h1,rfl⟩)))
 ·rintro⟨g2,g1,g4,g3⟩ d hd
  simp only[cps,Jh,H5,Jo,Kk,zEX]at hd;rcases hd with⟨i,_,j,⟨h1,_⟩,k,⟨h2,h3⟩,rfl⟩|⟨i,_,j,⟨h1,h2⟩,rfl⟩|⟨i,_,j,⟨h1,h2⟩,rfl⟩|⟨i,h1,rfl⟩
  ·exact g2 i j k h1 h2 h3
  ·exact g1 i j h1 h2
  ·exact g4 i j h1 h2
  ·exact g3 i h1
theorem zP9{D:Nat}{m:zH}{T:Mx}:zV3 x D m T↔ ∀d∈cps x,∀t1 t2,d.B x t1 t2→tv m.Prime D m T t1=tv m.Prime D m T t2:=by
 rw[zAK (φ:=fun d=> ∀t1 t2,d.B x t1 t2→tv m.Prime D m T t1=tv m.Prime D m T t2)];constructor
 ·intro g
  exact⟨fun i j k h1 h2 h3=>g.p2 i j k h1 h2 h3,fun i j h1 h2=>g.p1 i j h1 h2,fun i j h1 h2=>g.p4 i j h1 h2,fun i h1=>g.p3 i h1⟩
 ·rintro⟨g2,g1,g4,g3⟩
  exact⟨fun k j h1 h2=>g1 k j h1 h2,fun k i j h1 h2 h3=>g2 k i j h1 h2 h3,fun k hk=>g3 k hk,fun k j h1 h2=>g4 k j h1 h2⟩
theorem zV6(h6:x.zA.length≤6){w:List Nat}{r:zEe}(hw:∀a∈w,a<x.zA.length)(h:hdS x w=some r):r.1<base x.zA.length x.zA.length:=by
 unfold hdS at h;have hb:=uG x.zA.length (by omega)
 match w,h with
 | [],h=>cases h
 | [a],h=>
  have ha:=hw a (by simp);simp only[swp,pws]at h;split at h
  ·cases h;simp only;omega
  ·cases h
 |a::b::w,h=>
  have ha:=hw a (by simp);simp only[swp]at h
  by_cases g:b<a
  ·rw[if_pos g]at h
   cases h;have:=zBL x.zA.length (by omega) b (by omega);simp only
   omega
  ·rw[if_neg g]at h
   simp only[pws]at h;split at h
   ·cases h;simp only;omega
   ·cases h
theorem zV7(h6:x.zA.length≤6):∀{w:List Nat}{r:zEe},(∀a∈w,a<x.zA.length)→stS x w=some r→r.1<base x.zA.length x.zA.length
 | [],_,_,h=>by cases h
 |a::w,r,hw,h=>by
  simp only[stS]at h;cases e:hdS x (a::w)with
  |some q=>
   rw[e]at h;cases h;exact zV6 h6 hw e
  |none=>
   rw[e]at h;cases e2:stS x w with
   |none=>rw[e2]at h;cases h
   |some q=>
    rw[e2]at h;cases h;have:=zV7 (w:=w) (r:=q) h6 (fun b hb=>hw b (Hv _ hb)) e2;exact this
theorem Col.lt(h6:x.zA.length≤6){k:Nat}{w w':List Nat}{tr:Trc}(hc:Col x k w tr w'):∀q∈tr,q.1<base x.zA.length x.zA.length:=by
 induction hc with
 |refl w=>intro q hq;cases hq
 |step hw hs _ ih=>
  intro q hq;rcases Jc.1 hq with rfl|hq
  ·exact zV7 h6 (fun a ha=>(hw a ha).2) hs
  ·exact ih q hq
end
section
variable {x:SPr} (h:Pres x) (h6:x.zA.length≤6)
 include h
theorem zLL{d:PD}{t1 t2 u1 u2:Trc}(hk:d.k≤x.zA.length)(a:d.B x t1 t2)(b:d.B x u1 u2):t1=u1∧t2=u2:=by
 obtain⟨⟨v1,y1,rfl,k1⟩,⟨v2,y2,rfl,k2⟩⟩:=a;obtain⟨⟨v3,y3,rfl,k3⟩,⟨v4,y4,rfl,k4⟩⟩:=b;have nn:=fun(y:Vec)(hy:V (suf x d.k) y)=>zFC h (x.zA.length-d.k) d.k (by omega) y hy
 exact⟨by rw[(Col.det k1.col k3.col (nn _ k1.v) (nn _ k3.v)).1],by rw[(Col.det k2.col k4.col (nn _ k2.v) (nn _ k4.v)).1]⟩
 include h6
theorem zG2:∀d∈cps x,d.k<x.zA.length∧(∀a∈d.wd,a<x.zA.length)∧ ∃t1 t2,d.B x t1 t2∧(∀q∈t1,q.1<base x.zA.length x.zA.length)∧ ∀q∈t2,q.1<base x.zA.length x.zA.length:=by
 have hcon:∀i j,i<j→j<x.zA.length→ ∀a∈nw 0 (lcj x i j),i+1≤a∧a<x.zA.length:=fun i j hi hj=>(sS h (uH h hi hj) (by omega)).2
 have hpow:∀i,i<x.zA.length→ ∀a∈nw 0 (x.zS.getD i []),i+1≤a∧a<x.zA.length:=fun i hi=>(sS h (jF h hi) hi).2
 have hbb:=uG x.zA.length (by omega);have hbl:=fun i(hi:i<x.zA.length)=>zBL x.zA.length (by omega) i hi
 have key:∀(d:PD),d.k<x.zA.length→(∀a∈d.wd,a<x.zA.length)→d.r1<base x.zA.length x.zA.length→d.r2<base x.zA.length x.zA.length→(∀a∈d.w1,d.k≤a∧a<x.zA.length)→(∀a∈d.w2,d.k≤a∧a<x.zA.length)→d.k<x.zA.length∧(∀a∈d.wd,a<x.zA.length)∧ ∃t1 t2,d.B x t1 t2∧(∀q∈t1,q.1<base x.zA.length x.zA.length)∧ ∀q∈t2,q.1<base x.zA.length x.zA.length:=by
  intro d hk hwd b1 b2 c1 c2;obtain⟨u1,y1,k1⟩:=zUe h (x.zA.length-d.k) d.k (by omega) d.w1 c1;obtain⟨u2,y2,k2⟩:=zUe h (x.zA.length-d.k) d.k (by omega) d.w2 c2;refine⟨hk,hwd,_,_,⟨⟨u1,y1,rfl,k1⟩,⟨u2,y2,rfl,k2⟩⟩,fun q hq=>?_,fun q hq=>?_⟩
  ·rcases Jc.1 hq with rfl|hq
   ·exact b1
   ·exact k1.col.lt h6 q hq
  ·rcases Jc.1 hq with rfl|hq
   ·exact b2
   ·exact k2.col.lt h6 q hq
 refine zAK.2 ⟨fun i j k h1 h2 h3=>key _ ?_ ?_ ?_ ?_ ?_ ?_,fun i j h1 h2=>key _ ?_ ?_ ?_ ?_ ?_ ?_,fun i j h1 h2=>key _ ?_ ?_ ?_ ?_ ?_ ?_,fun i h1=>key _ ?_ ?_ ?_ ?_ ?_ ?_⟩
 ·show i<_;omega
 ·intro a ha
  simp only[pd2,Jc,Jb7,or_false]at ha;omega
 ·have:=hbl j (by omega);show base _ j+(k-(j+1))<_;omega
 ·have:=hbl i (by omega);show base _ i+(j-(i+1))<_;omega
 ·intro a ha
  simp only[pd2,Jc,Jh,Jb7,or_false]at ha ⊢
  rcases ha with rfl|ha|rfl
  ·omega
  ·have:=hcon j k (by omega) h3 a ha;omega
  ·omega
 ·intro a ha
  simp only[pd2,Jc]at ha ⊢
  rcases ha with rfl|rfl|ha
  ·omega
  ·omega
  ·have:=hcon i j (by omega) (by omega) a ha;omega
 ·show i<_;omega
 ·intro a ha
  simp only[pd1,Jh,List.mem_singleton]at ha;rcases ha with ha|rfl
  ·have:=Js ha;omega
  ·omega
 ·show j<_;omega
 ·have:=hbl i (by omega);show base _ i+(j-(i+1))<_;omega
 ·intro a ha
  simp only[pd1,Jh,List.mem_singleton]at ha ⊢
  rcases ha with ha|rfl
  ·have:=hpow j h2 a ha;omega
  ·omega
 ·intro a ha
  simp only[pd1,Jh,Jc]at ha ⊢
  rcases ha with ha|rfl|ha
  ·have:=Js ha;omega
  ·omega
  ·have:=hcon i j h1 h2 a ha;omega
 ·show i<_;omega
 ·intro a ha
  simp only[pd4,Jc]at ha;rcases ha with rfl|ha
  ·omega
  ·have:=Js ha;omega
 ·have:=hbl i (by omega);show base _ i+(j-(i+1))<_;omega
 ·show i<_;omega
 ·intro a ha
  simp only[pd4,Jc,Jh]at ha ⊢
  rcases ha with rfl|ha|ha
  ·omega
  ·have:=hcon i j h1 h2 a ha;omega
  ·have:=Js ha;omega
 ·intro a ha
  simp only[pd4,Jc]at ha ⊢
  rcases ha with rfl|ha
  ·omega
  ·have:=hpow i (by omega) a ha;omega
 ·exact h1
 ·intro a ha
  have:=Js (show a∈J1 _ i from ha);omega
 ·show i<_;omega
 ·show i<_;omega
 ·intro a ha
  simp only[pd3,Jh,List.mem_singleton]at ha ⊢
  rcases ha with ha|rfl
  ·have:=hpow i h1 a ha;omega
  ·omega
 ·intro a ha
  simp only[pd3,Jc]at ha ⊢
  rcases ha with rfl|ha
  ·omega
  ·have:=hpow i h1 a ha;omega
end
end Go.Pl

namespace Go.Pl
open Go Go.Ab Go.Wk Go.Pc
theorem zJf{α:Type}{F:α→Vec}{D:Nat}(hF:∀a,(F a).length=D):∀L:List α,((L.map F).flatten).length=L.length*D
 | []=>by simp
 |a::L=>by rw[Jt,Lo,J5,hF,zJf hF L,J7,K5];omega
theorem zHX{α:Type}{F:α→Vec}{D:Nat}(hF:∀a,(F a).length=D):∀(L:List α)(i j:Nat)(hi:i<L.length),j<D→at0 ((L.map F).flatten) (i*D+j)=at0 (F L[i]) j
 | [],i,j,hi,_=>by simp at hi
 |a::L,i,j,hi,hj=>by
  have hl:=hF a;rw[Jt,Lo];cases i with
  |zero=>
   rw[Hm,Je,List.getElem_cons_zero,at0,J2,Jl (by omega),←J2]
  |succ i=>
   have ih:=zHX hF L i j (by simpa using hi) hj;rw[List.getElem_cons_succ,←ih,at0,J2,J8 (by rw[hl,K5];omega),hl,K5,show i*D+D+j-D=i*D+j from by omega,←J2]
def kX(p:Int)(D:Nat)(m:zH)(prs:List (Trc×Trc))(k:Nat):List Int:=(prs.map fun q=>prR p D m q.1 q.2 k).flatten
theorem zHY{p:Int}{D k:Nat}{m:zH}(prs:List (Trc×Trc)):(kX p D m prs k).length=prs.length*D:=zJf (F:=fun q:Trc×Trc=>prR p D m q.1 q.2 k) (fun _=>yD _ _) prs
theorem zSb{p:Int}{D N:Nat}{m:zH}{y:Vec}(hp:2≤p){prs:List (Trc×Trc)}(hl:∀q∈prs,(∀r∈q.1,r.1<N)∧ ∀r∈q.2,r.1<N):
  (∀c,c<prs.length*D→(S (N*D) fun k=>at0 y k*ent (gl (N*D) fun k=>kX p D m prs k) k c)%p=0)↔ ∀q∈prs,tv p D m (Tc N D y) q.1=tv p D m (Tc N D y) q.2:=by
 have e:∀i j(hi:i<prs.length),j<D→(S (N*D) fun k=>at0 y k*ent (gl (N*D) fun k=>kX p D m prs k) k (i*D+j))=S (N*D) fun k=>at0 y k*at0 (prR p D m prs[i].1 prs[i].2 k) j:=fun i j hi hj=>by
  refine xE fun k hk=>?_
  show at0 y k*at0 ((gl (N*D) fun k=>kX p D m prs k).getD k []) (i*D+j)=_;rw[xY hk,kX,zHX (F:=fun q:Trc×Trc=>prR p D m q.1 q.2 k) (fun _=>yD _ _) prs i j hi hj]
 constructor
 ·intro g q hq
  obtain⟨i,hi,rfl⟩:=Ls.1 hq;refine(zOG hp (hl _ hq).1 (hl _ hq).2).1 fun j hj=>?_
  rw[←e i j hi hj];exact g _ (jW hi hj)
 ·intro g c hc
  have hD:0<D:=by
   rcases Ua D with h|h
   ·rw[h,Nat.mul_zero]at hc;omega
   ·exact h
  have hi:c/D<prs.length:=(Gg hD).2 hc;have hj:c%D<D:=U6 _ hD;have hm:=Kd hi;rw[show c=c/D*D+c%D from by rw[Hu];exact(Ge c D).symm,e _ _ hi hj];exact(zOG hp (hl _ hm).1 (hl _ hm).2).2 (g _ hm) _ hj
def tU(x:SPr):List PD→List (Trc×Trc)→Prop
 | [],[]=>True
 |d::ds,q::qs=>d.B x q.1 q.2∧tU x ds qs
 |_,_=>False
theorem tU.len{x:SPr}:{ds:List PD}→{qs:List (Trc×Trc)}→tU x ds qs→ds.length=qs.length
 | [],[],_=>rfl
 |d::ds,q::qs,h=>by rw[J7,J7,tU.len h.2]
 | [],_::_,h=>by simp[tU]at h
 |_::_,[],h=>by simp[tU]at h
theorem tU.all{x:SPr}{φ:Trc×Trc→Prop}:{ds:List PD}→{qs:List (Trc×Trc)}→tU x ds qs→(∀d∈ds,∀t1 t2,d.B x t1 t2→φ (t1,t2))→ ∀q∈qs,φ q
 | [],[],_,_,q,hq=>by cases hq
 |d::ds,q::qs,h,g,r,hr=>by
  rcases Jc.1 hr with rfl|hr
  ·exact g d (by simp) _ _ h.1
  ·exact tU.all h.2 (fun d hd=>g d (Hv _ hd)) r hr
 | [],_::_,h,_,_,_=>by simp[tU]at h
 |_::_,[],h,_,_,_=>by simp[tU]at h
theorem tU.of{x:SPr}{φ:Trc×Trc→Prop}:{ds:List PD}→{qs:List (Trc×Trc)}→tU x ds qs→(∀q∈qs,φ q)→ ∀d∈ds,∃t1 t2,d.B x t1 t2∧φ (t1,t2)
 | [],[],_,_,d,hd=>by cases hd
 |d::ds,q::qs,h,g,r,hr=>by
  rcases Jc.1 hr with rfl|hr
  ·exact⟨q.1,q.2,h.1,g q (by simp)⟩
  ·exact tU.of h.2 (fun q hq=>g q (Hv _ hq)) r hr
 | [],_::_,h,_,_,_=>by simp[tU]at h
 |_::_,[],h,_,_,_=>by simp[tU]at h
section
variable {x:SPr}{m:zH}{D:Nat} (hx:zFY x) (hD:MOk x.zA.length m D)
 include hx hD
theorem zSc{prs:List (Trc×Trc)}(hq:tU x (cps x) prs)(hc:wR (suf x 0))(hr:zDZ x m D){y:Vec}(hy:Row m.Prime (base x.zA.length x.zA.length*D) y):
  (∀c,c<prs.length*D→(S (base x.zA.length x.zA.length*D) fun k=>at0 y k*ent (gl (base x.zA.length x.zA.length*D) fun k=>kX m.Prime D m prs k) k c)%m.Prime=0)↔wR (suf (exx D x m (Tc (base x.zA.length x.zA.length) D y)) 0):=by
 have hp:=hD.p.pos;have hex:=zG2 hx.toPres hx.n6;have hlt:∀q∈prs,(∀r∈q.1,r.1<base x.zA.length x.zA.length)∧ ∀r∈q.2,r.1<base x.zA.length x.zA.length:=hq.all fun d hd t1 t2 hb=>by
  obtain⟨hk,_,u1,u2,hb2,l1,l2⟩:=hex d hd;obtain⟨rfl,rfl⟩:=zLL hx.toPres (by omega) hb hb2;exact⟨l1,l2⟩
 obtain⟨e1,e2⟩:=zV5 hx hD hy;rw[zSb (by omega) hlt,←zP8 hx.toPres e1 e2 hc hr,zP9];constructor
 ·intro g d hd t1 t2 hb
  obtain⟨u1,u2,hb2,e⟩:=hq.of (φ:=fun q=>tv m.Prime D m (Tc (base x.zA.length x.zA.length) D y) q.1=tv m.Prime D m (Tc (base x.zA.length x.zA.length) D y) q.2) g d hd;obtain⟨rfl,rfl⟩:=zLL hx.toPres (by have:=(hex d hd).1;omega) hb hb2;exact e
 ·intro g
  exact hq.all fun d hd t1 t2 hb=>g d hd t1 t2 hb
theorem zWP:∃prs,tU x (cps x) prs:=by
 have _:=hD;have hex:=zG2 hx.toPres hx.n6
 revert hex
 generalize cps x=ds
 intro hex
 induction ds with
 |nil=>exact⟨[],trivial⟩
 |cons d ds ih=>
  obtain⟨qs,hq⟩:=ih fun d hd=>hex d (Hv _ hd)
  obtain⟨_,_,t1,t2,hb,_⟩:=hex d (by simp);exact⟨(t1,t2)::qs,hb,hq⟩
end
end Go.Pl

namespace Go.Pl
open Go Go.Ab Go.Wk Go.Pc
section
variable {x:SPr}{m:zH}{D:Nat} (hD:MOk x.zA.length m D)
 include hD
theorem zPA{N i:Nat}(hi:i<N)(hN:N≤21){T:Mx}:zJ (zPV m (T,(i:Int))) (J1 (N*D*D) (0:Int),0)=some (mkv (N*D*D) fun j=>if j/D=i*D+j%D then 1 else 0):=by
 have h1:=hD.d1;have h3:=hD.d3;have hND:N*D≤21*3:=Kj hN h3;have hB:N*D*D≤63*3:=Kj hND h3;have:=yB (body:=zPV m (T,(i:Int))) (r:=mkv (N*D*D) fun j=>if j/D=i*D+j%D then(1:Int)else 0)
  (fun c=>(mkv (N*D*D) fun j=>if j/D=i*D+j%D∧j%D<c then(1:Int)else 0,(c:Int))) D (fun c hc=>by
  unfold zPV;simp only
  have a1:i*D+D≤N*D:=by rw[←K5];exact Km _ hi
  have a2:(i*D+c)*D+D≤N*D*D:=by rw[←K5];exact Km _ (by omega)
  have b1:(i:Int)*(D:Int)=((i*D:Nat):Int):=by rw[L8]
  have b2:((i*D+c:Nat):Int)*(D:Int)=(((i*D+c)*D:Nat):Int):=by rw[L8]
  have b3:((i*D:Nat):Int)+(c:Int)=((i*D+c:Nat):Int):=by omega
  have b4:(((i*D+c)*D:Nat):Int)+(c:Int)=(((i*D+c)*D+c:Nat):Int):=by omega
  rw[hD.d,xV hc,zQ,b1,zE (by omega) (by omega),bs,b3,zE (by omega) (by omega),bs,b2,zE (by omega) (by omega),bs,b4,zE (by omega) (by omega),bs,yY 0 (by rw[yD];omega),bs,zE (by omega) (by omega),bs,Jg,zAo,cs]
  congr 3
  refine zY fun j hj=>?_
  have hdm:=Ge j D
  by_cases g:j=(i*D+c)*D+c
  ·have e:=sH (q:=i*D+c) hc
   rw[if_pos g,g,e.1,e.2,if_pos ⟨rfl,by omega⟩]
  ·rw[if_neg g]
   by_cases g2:j/D=i*D+j%D
   ·by_cases g3:j%D<c
    ·rw[if_pos ⟨g2,g3⟩,if_pos ⟨g2,by omega⟩]
    ·rw[if_neg fun z=>g3 z.2]
     refine(if_neg fun z=>g ?_).symm;have:j%D=c:=by omega
     rw[g2,this,Hu]at hdm;exact hdm.symm
   ·rw[if_neg fun z=>g2 z.1,if_neg fun z=>g2 z.1]) (by
  unfold zPV;simp only
  rw[hD.d,wC,zL]
  congr 2
  refine zY fun j _=>?_
  have:=U6 j (show 0<D by omega)
  by_cases g2:j/D=i*D+j%D
  ·rw[if_pos ⟨g2,this⟩,if_pos g2]
  ·rw[if_neg fun z=>g2 z.1,if_neg g2])
 rw[show(mkv (N*D*D) fun j=>if j/D=i*D+j%D∧j%D<0 then(1:Int)else 0)=J1 (N*D*D) 0 from by
  rw[show J1 (N*D*D) (0:Int)=mkv (N*D*D) fun _=>0 from qL _];exact zY fun j _=>if_neg fun z=>Uk _ z.2]at this
 exact this
theorem zHZ{N:Nat}(hN:N≤21):zJ (zTo m (N:Int) ((N*D:Nat):Int)) ([],0)=some (uT N D):=by
 have h1:=hD.d1;have h3:=hD.d3;have hND:N*D≤21*3:=Kj hN h3;have hB:N*D*D≤63*3:=Kj hND h3;refine zBu N (fun i=>mkv (N*D*D) fun j=>if j/D=i*D+j%D then(1:Int)else 0) (fun i acc hi ha=>?_) (fun acc=>?_)
 ·unfold zTo
  simp only
  have b1:((N*D:Nat):Int)*(D:Int)=((N*D*D:Nat):Int):=by rw[L8 (N*D)]
  rw[hD.d,xV hi,zQ,b1,zE (by omega) (by omega),bs,wJ (by omega),bs,zPA hD hi hN,bs,xK (by simp;omega),bs,zE (by omega) (by omega),bs,cs]
 ·unfold zTo
  simp only
  rw[wC,zL]
theorem zJg{B:Nat}(hB:B≤63){L:Mx}(hL:L.length≤1000)(hr:∀r∈L,r.length=B*D):zJ (zTp m ((B:Nat):Int) L) ([],0)=some (gl B fun k=>zDx D k L):=by
 have h1:=hD.d1;have h3:=hD.d3;have hLD:L.length*D≤1000*3:=Kj hL h3;have hBD:B*D≤63*3:=Kj hB h3;refine zBu B (fun k=>zDx D k L) (fun k acc hk ha=>?_) (fun acc=>?_)
 ·unfold zTp
  simp only
  have a1:k*D+D≤B*D:=by rw[←K5];exact Km _ hk
  have inner:zJ (zPW m L (acc,(k:Int))) ([],0)=some (zDx D k L):=by
   have:=zR5 (body:=zPW m L (acc,(k:Int))) L.length D (fun i=>blk D (L.getD i []) k) [] (fun i hi=>yD _ _) (fun i acc2 hi ha2=>by
    unfold zPW;simp only
    have b0:i*D+D≤L.length*D:=by rw[←K5];exact Km _ hi
    have b1:(k:Int)*(D:Int)=((k*D:Nat):Int):=by rw[L8]
    have b2:((k+1:Nat):Int)*(D:Int)=((k*D+D:Nat):Int):=by rw[←L8,K5]
    have hlen:(L.getD i []).length=B*D:=by
     rw[J2,J3 hi];exact hr _ (Kd hi)
    simp only[K0,Je]at ha2;rw[hD.d,xV hi,zQ,yY [] hi,bs,b1,zE (by omega) (by omega),bs,show(k:Int)+1=((k+1:Nat):Int)from by omega,zE (by omega) (by omega),bs,b2,zE (by omega) (by omega),bs,zP2 (by omega),bs,xK (by rw[yD];omega),bs,zE (by omega) (by omega),bs,cs];rfl) (fun acc2=>by
    unfold zPW;simp only
    rw[wC,zL])
   rw[this,Jj,zDx]
   congr 2
   rw[gl];refine Ja0 (by simp) fun j h1 h2=>?_
   simp only[Jf,Ll]at h1;simp only[Jcp,Jb9];rw[J2,J3 h1];rfl
  rw[xV hk,zQ,inner,bs,xK (by simp;omega),bs,zE (by omega) (by omega),bs,cs]
 ·unfold zTp
  simp only
  rw[wC,zL]
end
section
variable {x:SPr}{m:zH}{D:Nat} (hx:zFY x) (hD:MOk x.zA.length m D)
 include hx hD
theorem zGf(h0:0<x.zA.length)(hc:wR (suf x 0))(hr:zDZ x m D):∃K pk,f_m x m=some K∧Red m.Prime (base x.zA.length x.zA.length*D) K pk∧
  ∀y,Row m.Prime (base x.zA.length x.zA.length*D) y→(Sp m.Prime (base x.zA.length x.zA.length*D) K y↔wR (suf (exx D x m (Tc (base x.zA.length x.zA.length) D y)) 0)):=by
 have h6:=hx.n6;have hb:=uG x.zA.length (by omega);have h1:=hD.d1;have h3:=hD.d3;have hB:base x.zA.length x.zA.length*D≤21*3:=Kj hb.2.1 h3;obtain⟨L,l1,l2,l3,l4⟩:=zRY hx hD h0 hc hr;have hLD:L.length*D≤1000*3:=Kj l2 h3;obtain⟨K,pk,k1,_,k3,k4⟩:=zF7 hD.p (c:=L.length*D) (N:=base x.zA.length x.zA.length*D) (A:=gl (base x.zA.length x.zA.length*D) fun k=>zDx D k L) (by omega) (fun k hk=>by
  rw[xY hk];refine⟨zLK L,fun j hj=>?_⟩;have hi:j/D<L.length:=(Gg (by omega)).2 hj;have hm:j%D<D:=U6 _ (by omega);have e:=zKd (D:=D) (k:=k) L (j/D) (j%D) hi hm;rw[show j/D*D+j%D=j from by rw[Hu];exact Ge j D]at e;rw[e];have hrow:=l3 (L.getD (j/D) []) (by rw[J2,J3 hi];exact Kd hi);exact hrow.2 _ (jW hk hm)) vA
 refine⟨K,pk,?_,k3,fun y hy=>?_⟩
 ·unfold f_m
  have b1:((base x.zA.length x.zA.length:Nat):Int)*(D:Int)=((base x.zA.length x.zA.length*D:Nat):Int):=by rw[L8]
  rw[zHD rfl h6,bs,hD.d,b1,zE (by omega) (by omega),bs,zHZ hD hb.2.1,bs,l1,bs,zJg hD (by omega) l2 (fun r hr=>(l3 r hr).1),bs,show((L.length:Nat):Int)*(D:Int)=((L.length*D:Nat):Int)from by rw[L8],zE (by omega) (by omega),bs,k1,bs]
 ·rw[k4 y,←l4 y hy,←zRZ (L:=L)]
end
end Go.Pl

namespace Go.Pl
open Go Go.Ab Go.Wk Go.Pc
theorem tQ{w:List Nat}{t:Nat}(h:t<w.length):ixO (enW w) (t:Int)=some (((w.getD t 0:Nat):Int)+1):=by
 rw[yY 0 (by simpa using h)];simp only[J2,K1,J3 h];rfl
theorem qM{w:List Nat}{t:Nat}(h:t<w.length):w.drop t=w.getD t 0::w.drop (t+1):=by
 rw[H7 h,J2,J3 h];rfl
theorem zDn{w:List Nat}{a b:Nat}(h1:a≤b)(h2:b≤w.length):yA (enW w) (a:Int) (b:Int)=some (enW ((w.drop a).take (b-a))):=by
 unfold yA;rw[if_pos ⟨by omega,by omega,by simp;omega⟩];simp only[Jg,enW,Qv,Jd7]
theorem zSd{w:List Nat}{t o:Nat}{L:Int→Option (Int⊕(Unit⊕Bool))}(hL:L=zNx (enW w) (t:Int) (enW ((w.drop t).take o))∨L=zNy (enW w) (t:Int) (enW ((w.drop t).take o)))(ht:t<w.length)(ho:t+o≤w.length)(hl:w.length≤1000000):
  zJ L 0=some (if decide ((w.drop t).take o=J1 o (w.getD t 0))then .inl ()else .inr false):=by
 have hlen:((w.drop t).take o).length=o:=by rw[Jy,Jx];omega
 have hlen2:(enW ((w.drop t).take o)).length=o:=by rw[enW,Jf,hlen]
 have hget:∀i,i<o→((w.drop t).take o).getD i 0=w.getD (t+i) 0:=fun i hi=>by
  simp only[J2,H1,Kq];rw[if_pos hi]
 have hb:∀i,i<o→L (i:Int)=some (if(w.getD (t+i) 0==w.getD t 0)then .inl ((i+1:Nat):Int)else .inr (.inr false)):=fun i hi=>by
  have e1:ixO (enW ((w.drop t).take o)) (i:Int)=some (((w.getD (t+i) 0:Nat):Int)+1):=by rw[tQ (by omega),hget i hi]
  have e2:(((w.getD (t+i) 0:Nat):Int)+1 != ((w.getD t 0:Nat):Int)+1)= !(w.getD (t+i) 0==w.getD t 0):=by
   by_cases g:w.getD (t+i) 0=w.getD t 0
   ·rw[g];simp
   ·have:(w.getD (t+i) 0==w.getD t 0)=false:=by simpa using g
    rw[this];have g2:((w.getD (t+i) 0:Nat):Int)+1≠((w.getD t 0:Nat):Int)+1:=by omega
    simpa using g2
  rcases hL with rfl|rfl<;>
  ·first|unfold zNx|unfold zNy
   rw[hlen2,xV hi,zQ,e1,bs,tQ ht,bs,e2]
   by_cases g:(w.getD (t+i) 0==w.getD t 0)=true
   ·rw[g,K9,zL,zE (by omega) (by omega),bs,cs];rfl
   ·have g':(w.getD (t+i) 0==w.getD t 0)=false:=by simpa using g
    rw[g',Kn,zQ];rfl
 have he:L (o:Int)=some (.inr (.inl ())):=by
  rcases hL with rfl|rfl
  ·unfold zNx
   rw[hlen2,wC,zL]
  ·unfold zNy
   rw[hlen2,wC,zL]
 rw[zIM o (fun i=>w.getD (t+i) 0==w.getD t 0) (fun i hi _=>hb i hi) (fun _=>he)]
 congr 1
 have hiff:(Jw o).all (fun i=>w.getD (t+i) 0==w.getD t 0)=decide ((w.drop t).take o=J1 o (w.getD t 0)):=by
  rw[Bool.eq_iff_iff,Kg,decide_eq_true_iff];constructor
  ·intro g
   refine Ja0 (by rw[hlen,Ji]) fun i h1 h2=>?_
   have:=g i (Kk.2 (by omega));have e:=hget i (by omega);rw[J2,J3 h1]at e;rw[List.getElem_replicate];simp only[Ug]at e;rw[e];simpa using this
  ·intro g i hi
   have e:=hget i (Kk.1 hi);rw[g,J2,Ja1 (Kk.1 hi)]at e;simp only[Ug]at e;rw[←e];simp
 rw[hiff]
section
variable {x:SPr} (h:Pres x)
 include h
theorem qS{a:Nat}(ha:a<x.zA.length):ixO x.zA (a:Int)=some ((yI x a:Nat):Int)∧2≤yI x a∧yI x a≤7:=by
 have hp:=(h.os.2 a ha).pos;rw[yY 0 ha];refine⟨?_,zJV h ha,?_⟩
 ·show some (at0 x.zA a)=some (((at0 x.zA a).toNat:Nat):Int)
  rw[Qm (by omega)]
 ·show(at0 x.zA a).toNat≤7
  omega
theorem zSe{w:List Nat}{t:Nat}(ht:t<w.length):(pws x (w.drop t)).isSome=decide (t+yI x (w.getD t 0)≤w.length∧(w.drop t).take (yI x (w.getD t 0))=J1 (yI x (w.getD t 0)) (w.getD t 0)):=by
 have _:=h;have hd:=qM ht
 by_cases g:(w.drop t).take (yI x (w.getD t 0))=J1 (yI x (w.getD t 0)) (w.getD t 0)
 ·have hl:=zBz g
  rw[Jx]at hl;rw[decide_eq_true ⟨by omega,g⟩];rw[hd]at g ⊢
  simp only[pws];rw[if_pos g];rfl
 ·rw[decide_eq_false fun z=>g z.2]
  rw[hd]at g ⊢
  simp only[pws];rw[if_neg g];rfl
theorem zIa{w:List Nat}(hw:∀a∈w,a<x.zA.length)(hl:w.length≤1000000){t:Nat}(ht:t<w.length):f_C x (enW w) (t:Int)=some (hdS x (w.drop t)).isSome:=by
 have ha:w.getD t 0<x.zA.length:=hw _ (by rw[J2,J3 ht];exact Kd ht);obtain⟨o1,o2,o3⟩:=qS h ha;have hlen:(enW w).length=w.length:=by simp
 have hd:=qM ht;have a1:((w.getD t 0:Nat):Int)+1-1=((w.getD t 0:Nat):Int):=by omega
 have a2:(t:Int)+((yI x (w.getD t 0):Nat):Int)=((t+yI x (w.getD t 0):Nat):Int):=by omega
 have h9:=h.os.1;have fin:∀L:List Int→Int→Option (Int⊕(Unit⊕Bool)),(∀o,L (enW ((w.drop t).take o))=zNx (enW w) (t:Int) (enW ((w.drop t).take o))∨L (enW ((w.drop t).take o))=zNy (enW w) (t:Int) (enW ((w.drop t).take o)))→
   (cond (decide (((t+yI x (w.getD t 0):Nat):Int)> ((w.length:Nat):Int))) (some false) ((some ((t+yI x (w.getD t 0):Nat):Int)).bind fun v9=>(yA (enW w) (t:Int) v9).bind fun v10=>(zJ (L v10) 0).bind fun r14=>match r14 with|(.inl _)=>some true|(.inr r14)=>some r14))=some (pws x (w.drop t)).isSome:=by
  intro L hL;rw[zSe h ht]
  by_cases g:t+yI x (w.getD t 0)≤w.length
  ·rw[decide_eq_false (by omega),zL,bs,zDn (by omega) g,bs,H9,zSd (hL _) ht g hl,bs]
   by_cases g2:(w.drop t).take (yI x (w.getD t 0))=J1 (yI x (w.getD t 0)) (w.getD t 0)
   ·rw[decide_eq_true g2,decide_eq_true ⟨g,g2⟩];rfl
   ·rw[decide_eq_false g2,decide_eq_false fun z=>g2 z.2];rfl
  ·rw[decide_eq_true (by omega),zQ,decide_eq_false fun z=>g z.1]
 unfold f_C;rw[hlen,zE (by omega) (by omega),bs]
 by_cases g:t+1<w.length
 ·have hd2:=qM g
  rw[decide_eq_true (by omega),zQ,tQ ht,bs,bs,show(t:Int)+1=((t+1:Nat):Int)from by omega,tQ g,bs]
  by_cases g2:w.getD (t+1) 0<w.getD t 0
  ·rw[decide_eq_true (by omega),zQ,hd,hd2]
   unfold hdS;simp only[swp];rw[if_pos g2];rfl
  ·rw[decide_eq_false (by omega),zL,bs,a1,zE (by omega) (by omega),bs,o1,bs,a2,zE (by omega) (by omega),bs]
   refine(fin (fun v=>zNx (enW w) (t:Int) v) fun o=>.inl rfl).trans ?_;have:swp x (w.drop t)=none:=by rw[hd,hd2];simp only[swp];rw[if_neg g2]
   unfold hdS;rw[this]
 ·rw[decide_eq_false (by omega),zL,tQ ht,bs,a1,zE (by omega) (by omega),bs,o1,bs,a2,zE (by omega) (by omega),bs]
  refine(fin (fun v=>zNy (enW w) (t:Int) v) fun o=>.inr rfl).trans ?_;have:swp x (w.drop t)=none:=by rw[hd,H6 (by omega)];rfl
  unfold hdS;rw[this]
end
end Go.Pl

namespace Go.Pl
open Go Go.Ab Go.Wk Go.Pc
def stI(x:SPr):List Nat→Option (Nat×zEe)
 | []=>none
 |a::w=>match hdS x (a::w)with
  |some r=>some (0,r)
  |none=>(stI x w).map fun z=>(z.1+1,z.2)
section
variable {x:SPr}
theorem zKe:∀w:List Nat,stS x w=(stI x w).map fun z=>(z.2.1,z.2.2.1,w.take z.1++z.2.2.2)
 | []=>rfl
 |a::w=>by
  simp only[stS,stI];cases hdS x (a::w)with
  |some r=>rfl
  |none=>
   rw[zKe w];cases stI x w with
   |none=>rfl
   |some z=>rfl
theorem zOH:∀{w:List Nat}{z:Nat×zEe},stI x w=some z→z.1<w.length∧hdS x (w.drop z.1)=some z.2
 | [],_,h=>by cases h
 |a::w,z,h=>by
  simp only[stI]at h;cases e:hdS x (a::w)with
  |some r=>
   rw[e]at h;cases h;exact⟨by simp,e⟩
  |none=>
   rw[e]at h;cases e2:stI x w with
   |none=>rw[e2]at h;cases h
   |some q=>
    rw[e2]at h;cases h;obtain⟨h1,h2⟩:=zOH e2;exact⟨by simpa using h1,by simpa using h2⟩
theorem zLM:∀(k i:Nat)(w:List Nat),i+k=w.length→(L6 i k).findSome? (fun j=>if(hdS x (w.drop j)).isSome then some (j:Int)else none)=(stI x (w.drop i)).map fun z=>((i+z.1:Nat):Int)
 |0,i,w,h=>by rw[H6 (by omega)];rfl
 |k+1,i,w,h=>by
  rw[Jdf,Jc2,qM (show i<w.length by omega)];simp only[stI];cases e:hdS x (w.getD i 0::w.drop (i+1))with
  |some r=>rfl
  |none=>
   simp only[Q4,Ga,if_false];rw[zLM k (i+1) w (by omega)];cases stI x (w.drop (i+1))with
   |none=>rfl
   |some z=>
    simp only[Hx]
    congr 2;omega
section
variable (h:Pres x)
 include h
theorem zB0{w:List Nat}(hw:∀a∈w,a<x.zA.length)(hl:w.length≤1000000):f_O x (enW w)=some (match stI x w with|some z=>(z.1:Int)|none=> -1):=by
 have hlen:(enW w).length=w.length:=by simp
 unfold f_O;have:=zIL (body:=zTu x (enW w)) w.length (fun j=>if(hdS x (w.drop j)).isSome then some (j:Int)else none) 0 (Ke _) (fun i _ hi _=>by
  unfold zTu;rw[hlen,xV hi,zQ,zIa h hw hl hi,bs];cases hdS x (w.drop i)with
  |some r=>rfl
  |none=>
   simp only[Q4];rw[zL,zE (by omega) (by omega),bs,cs];rfl) (fun _=>by
  unfold zTu;rw[hlen,wC,zL])
 rw[show((0:Nat):Int)=0 from rfl,U7,zLM w.length 0 w (by omega),G7]at this;rw[this,bs];cases stI x w with
 |none=>rfl
 |some z=>simp only[Hx,zKW,Je]
theorem zIb{v:List Int}(hn:x.zA.length≤6)(hv:zWt x.zA v):f_t v=some (enW (nw 0 v))∧(nw 0 v).length≤36:=by
 have hb:∀i,i<v.length→0≤at0 v i∧at0 v i≤6:=fun i hi=>by
  have h1:=hv.2 i hi;have h2:=(h.os.2 i (by have:=hv.1;omega)).pos;omega
 have:=zF6 0 v fun i hi=>(hb i hi).2
 have hl:=hv.1;exact⟨kW (by omega) hb,by omega⟩
theorem zCM(hn:x.zA.length≤6){w:List Nat}(hw:∀a∈w,a<x.zA.length)(hl:w.length≤900000){t:Nat}{r:zEe}(ht:t<w.length)(hr:hdS x (w.drop t)=some r):f_Y x (enW w) (t:Int)=some (enW (w.take t++r.2.2)):=by
 have hmem:∀i,i<w.length→w.getD i 0<x.zA.length:=fun i hi=>hw _ (by rw[J2,J3 hi];exact Kd hi)
 have ha:=hmem t ht;obtain⟨o1,o2,o3⟩:=qS h ha;have hlen:(enW w).length=w.length:=by simp
 have hd:=qM ht;have a1:((w.getD t 0:Nat):Int)+1-1=((w.getD t 0:Nat):Int):=by omega
 have a2:(t:Int)+((yI x (w.getD t 0):Nat):Int)=((t+yI x (w.getD t 0):Nat):Int):=by omega
 obtain⟨p1,p2⟩:=zIb h hn (h.tl _ ha).1.1;have h0:yA (enW w) 0 (t:Int)=some (enW (w.take t)):=by
  have:=zDn (w:=w) (Ke t) (by omega);rw[show((0:Nat):Int)=0 from rfl,G7,U7]at this;exact this
 have hs:∀q,q≤w.length→yA (enW w) (q:Int) (w.length:Int)=some (enW (w.drop q)):=fun q hq=>by
  rw[zDn hq (Jp _),Jr (by rw[Jx];omega)]
 have pw:swp x (w.drop t)=none→(rng (((w.getD t 0:Nat):Int)+1-1)).bind (fun v3=>(yA (enW w) 0 (t:Int)).bind fun v4=>(ixO x.zS v3).bind fun v5=>(f_t v5).bind fun r6=>(ixO x.zA v3).bind fun v7=>(rng ((t:Int)+v7)).bind fun v8=>(yA (enW w) v8 (w.length:Int)).bind fun v9=>(f_y [v4,r6,v9]).bind fun r10=>some r10)=some (enW (w.take t++r.2.2)):=fun hsw=>by
  unfold hdS at hr;rw[hsw]at hr;simp only at hr;rw[hd]at hr;simp only[pws]at hr;split at hr
  ·rename_i g
   have hlo:=zBz g;rw[←hd,Jx]at hlo;cases hr;rw[a1,zE (by omega) (by omega),bs,h0,bs,yY [] (by rw[h.pl];exact ha),bs,p1,bs,o1,bs,a2,zE (by omega) (by omega),bs,hs _ (by omega),bs,zGa (by simp) (by simp only[Lo,Ho,J5,Jf,Jy,Jx,K0,J7,enW];omega),bs];simp only[Lo,Ho,J9,enW,Lh];rw[←hd,Jc5]
  ·cases hr
 unfold f_Y;rw[hlen,zE (by omega) (by omega),bs]
 by_cases g:t+1<w.length
 ·have hd2:=qM g
  have hb:=hmem _ g;rw[decide_eq_true (by omega),zQ,tQ ht,bs,bs,show(t:Int)+1=((t+1:Nat):Int)from by omega,tQ g,bs]
  by_cases g2:w.getD (t+1) 0<w.getD t 0
  ·rw[hd,hd2]at hr
   unfold hdS at hr;simp only[swp]at hr;rw[if_pos g2]at hr;cases hr;have htl:=h.tl _ hb;have hce:=htl.2.2 (w.getD t 0-(w.getD (t+1) 0+1)) (by have:=htl.2.1;omega);obtain⟨q1,q2⟩:=zIb h hn hce.1;have b1:((w.getD (t+1) 0:Nat):Int)+1-1=((w.getD (t+1) 0:Nat):Int):=by omega
   have b2:((w.getD t 0:Nat):Int)-((w.getD (t+1) 0:Nat):Int)-1=((w.getD t 0-(w.getD (t+1) 0+1):Nat):Int):=by omega
   rw[decide_eq_true (by omega),zQ,bs,a1,zE (by omega) (by omega),bs,bs,tQ g,bs,b1,zE (by omega) (by omega),bs,h0,bs,zE (by omega) (by omega),bs,yY [] (by rw[h.cl];exact hb),bs,zE (by omega) (by omega),bs,b2,zE (by omega) (by omega),bs,yY [] (by have:=htl.2.1;omega),bs,q1,bs,zE (by omega) (by omega),bs,show(t:Int)+2=((t+2:Nat):Int)from by omega,hs _ (by omega),bs,zGa (by simp) (by simp only[Lo,Ho,J5,Jf,Jy,Jx,K0,J7,enW];omega),bs];simp only[Lo,Ho,J9,enW,Lh,Jt,Jn,Jj]
  ·rw[decide_eq_false (by omega),zL,bs]
   exact pw (by rw[hd,hd2];simp only[swp];rw[if_neg g2])
 ·rw[decide_eq_false (by omega),zL,tQ ht,bs]
  exact pw (by rw[hd,H6 (by omega)];rfl)
end
end
end Go.Pl

namespace Go.Pl
open Go Go.Ab Go.Wk Go.Pc
def smx(p:Int)(D N:Nat)(F:Nat→Nat→Nat→Int):List zU:=gl N fun r=>zU.mk p (D:Int) (gl D fun i=>mkv D fun j=>F r i j%p)
def upd(F:Nat→Nat→Nat→Int)(s:Int)(r0:Nat)(A:Mx)(c:Nat):Nat→Nat→Nat→Int:=fun r i j=>F r i j+if r=r0∧i<c then s*ent A i j else 0
theorem zB1{β:Type}{n:Nat}{f g:Nat→β}(h:∀i,i<n→f i=g i):gl n f=gl n g:=by
 simp only[gl];exact Qq fun i hi=>h i (Kk.1 hi)
section
variable {x:SPr}{m:zH}{D N:Nat}{s:Int}{r0:Nat}{A:Mx}{T0:List zU}
theorem zFD(hp:Prime m.Prime)(hD:D≤3)(hN:N≤100)(hs:-7≤s∧s≤7)(hr:r0<N)(hA:Mat m.Prime D A){F:Nat→Nat→Nat→Int}{L:(List zU)×Int→Option (((List zU)×Int)⊕(List zU))}
  (hL:L=zTr ⟨x,m,T0⟩ s (r0:Int) (zU.mk m.Prime (D:Int) A)∨L=zTs ⟨x,m,T0⟩ s (r0:Int) (zU.mk m.Prime (D:Int) A)∨L=zTt ⟨x,m,T0⟩ s (r0:Int) (zU.mk m.Prime (D:Int) A)):
  zJ L (smx m.Prime D N F,0)=some (smx m.Prime D N (upd F s r0 A D)):=by
 have hp2:=hp.pos;have hAl:=hA.1;have hst:∀c,c<D→ ∀(k:Nat),(c:Int)+1=(k:Int)→((ixO A (c:Int)).bind fun v10=>(ixO (smx m.Prime D N (upd F s r0 A c)) (r0:Int)).bind fun v11=>(ixO v11.Rows (c:Int)).bind fun v12=>(f_v v12 v10 s m.Prime).bind fun r13=>(rng ((c:Int)+1)).bind fun v14=>
   (some (.inl ((smx m.Prime D N (upd F s r0 A c)).set (r0:Int).toNat (zU.mk v11.Prime v11.xF (v11.Rows.set (c:Int).toNat r13)),v14)):Option (((List zU)×Int)⊕(List zU))))=some (.inl (smx m.Prime D N (upd F s r0 A (c+1)),((c+1:Nat):Int))):=fun c hc k _=>by
  have hrow:Row m.Prime D (mkv D fun j=>upd F s r0 A c r0 c j%m.Prime):=⟨yD _ _,fun j hj=>by
   rw[yH hj];exact⟨La _ (show m.Prime≠0 by omega),by have:=Kw (upd F s r0 A c r0 c j) (show 0<m.Prime by omega);omega⟩⟩
  rw[yY [] (by omega),bs,smx,zGc hr,bs];simp only
  rw[zGc hc,bs,zJa hp hrow (hA.2 c hc) hs (by omega),bs,zE (by omega) (by omega),bs,Jg,Jg,zJJ,zJJ,cs]
  congr 3
  refine zB1 fun r _=>?_
  by_cases g:r=r0
  ·rw[if_pos g,g]
   congr 1
   refine zB1 fun i _=>?_
   by_cases g2:i=c
   ·rw[if_pos g2,g2,sK]
    refine zY fun j hj=>?_
    rw[yH hj,upd,upd,if_neg (fun z=>absurd z.2 (Jc6 c)),if_pos ⟨rfl,Nat.lt_succ_self c⟩,H8];show(F r0 c j%m.Prime+s*ent A c j)%m.Prime=_;rw[Int.emod_add_emod]
   ·rw[if_neg g2]
    refine zY fun j hj=>?_
    rw[upd,upd]
    by_cases g3:i<c
    ·rw[if_pos ⟨rfl,g3⟩,if_pos ⟨rfl,by omega⟩]
    ·rw[if_neg (fun z=>g3 z.2),if_neg (fun z=>g3 (by omega))]
  ·rw[if_neg g]
   congr 1
   refine zB1 fun i _=>zY fun j _=>?_
   rw[upd,upd,if_neg (fun z=>g z.1),if_neg (fun z=>g z.1)]
 have:=yB (body:=L) (r:=smx m.Prime D N (upd F s r0 A D)) (fun c=>(smx m.Prime D N (upd F s r0 A c),(c:Int))) D (fun c hc=>by
  rcases hL with rfl|rfl|rfl
  ·unfold zTr
   simp only
   rw[show((A.length:Nat):Int)=(D:Int)from by rw[hAl],xV hc,zQ];exact hst c hc (c+1) (by omega)
  ·unfold zTs
   simp only
   rw[show((A.length:Nat):Int)=(D:Int)from by rw[hAl],xV hc,zQ];exact hst c hc (c+1) (by omega)
  ·unfold zTt
   simp only
   rw[show((A.length:Nat):Int)=(D:Int)from by rw[hAl],xV hc,zQ];exact hst c hc (c+1) (by omega)) (by
  rcases hL with rfl|rfl|rfl
  ·unfold zTr
   simp only
   rw[show((A.length:Nat):Int)=(D:Int)from by rw[hAl],wC,zL]
  ·unfold zTs
   simp only
   rw[show((A.length:Nat):Int)=(D:Int)from by rw[hAl],wC,zL]
  ·unfold zTt
   simp only
   rw[show((A.length:Nat):Int)=(D:Int)from by rw[hAl],wC,zL])
 rw[show smx m.Prime D N (upd F s r0 A 0)=smx m.Prime D N F from zB1 fun r _=>by
  congr 1
  refine zB1 fun i _=>zY fun j _=>?_
  rw[upd,if_neg (fun z=>Uk _ z.2),H8]]at this
 exact this
end
theorem zSf:∀n:Nat,n<7→ ∀j:Nat,j<n→ ∀i:Nat,i<j→((rng ((n:Int)-1)).bind fun v10=>(rng ((i:Int)*v10)).bind fun v11=>(rng ((n:Int)+v11)).bind fun v12=>(rng ((i:Int)-1)).bind fun v13=>(rng ((i:Int)*v13)).bind fun v14=>(tB v14 2).bind fun v15=>(rng (v12-v15)).bind fun v16=>(rng (v16+(j:Int))).bind fun v17=>(rng (v17-(i:Int))).bind fun v18=>(rng (v18-1)).bind fun v19=>some v19)=some ((base n i+(j-(i+1)):Nat):Int):=by decide+kernel
end Go.Pl

namespace Go.Pl
open Go Go.Ab Go.Wk Go.Pc
section
variable {x:SPr}{m:zH}{D:Nat}{T0:List zU} (h:Pres x) (hn:x.zA.length≤6) (hD:MOk x.zA.length m D)
 include h hn
theorem zGl{w:List Nat}(hw:∀a∈w,a<x.zA.length)(hl:w.length≤900000){t:Nat}{r:zEe}(ht:t<w.length)(hr:hdS x (w.drop t)=some r):zUN ⟨x,m,T0⟩ (enW w) (t:Int)=some (r.1:Int):=by
 have _:=h;have hmem:∀i,i<w.length→w.getD i 0<x.zA.length:=fun i hi=>hw _ (by rw[J2,J3 hi];exact Kd hi)
 have ha:=hmem t ht;have hlen:(enW w).length=w.length:=by simp
 have hd:=qM ht;have a1:((w.getD t 0:Nat):Int)+1-1=((w.getD t 0:Nat):Int):=by omega
 have pw:swp x (w.drop t)=none→(rng (((w.getD t 0:Nat):Int)+1-1)).bind (fun v3=>some v3)=some (r.1:Int):=fun hsw=>by
  unfold hdS at hr;rw[hsw]at hr;simp only at hr;rw[hd]at hr;simp only[pws]at hr;split at hr
  ·cases hr
   rw[a1,zE (by omega) (by omega),bs]
  ·cases hr
 unfold zUN;rw[hlen,zE (by omega) (by omega),bs]
 by_cases g:t+1<w.length
 ·have hd2:=qM g
  have hb:=hmem _ g;rw[decide_eq_true (by omega),zQ,tQ ht,bs,bs,show(t:Int)+1=((t+1:Nat):Int)from by omega,tQ g,bs]
  by_cases g2:w.getD (t+1) 0<w.getD t 0
  ·rw[hd,hd2]at hr
   unfold hdS at hr;simp only[swp]at hr;rw[if_pos g2]at hr;cases hr;have b1:((w.getD (t+1) 0:Nat):Int)+1-1=((w.getD (t+1) 0:Nat):Int):=by omega
   rw[decide_eq_true (by omega),zQ,bs,a1,zE (n:=((w.getD t 0:Nat):Int)) (by omega) (by omega),bs,bs,tQ g,bs,b1,zE (n:=((w.getD (t+1) 0:Nat):Int)) (by omega) (by omega),bs];exact zSf x.zA.length (by omega) (w.getD t 0) ha (w.getD (t+1) 0) g2
  ·rw[decide_eq_false (by omega),zL,bs]
   exact pw (by rw[hd,hd2];simp only[swp];rw[if_neg g2])
 ·rw[decide_eq_false (by omega),zL,tQ ht,bs]
  exact pw (by rw[hd,H6 (by omega)];rfl)
 include hD
theorem zFE{w:List Nat}(hw:∀a∈w,a<x.zA.length)(hl:w.length≤60000){t:Nat}{r:zEe}(ht:t<w.length)(hr:hdS x (w.drop t)=some r){s:Int}(hs:-7≤s∧s≤7){F:Nat→Nat→Nat→Int}:
  f_k ⟨x,m,smx m.Prime D (base x.zA.length x.zA.length) F⟩ (enW w) (t:Int) s=some (enW (w.take t++r.2.2),⟨x,m,smx m.Prime D (base x.zA.length x.zA.length) (upd F s r.1 (wM m.Prime D m.zF r.2.1 (idM D)) D)⟩):=by
 have hp:=hD.p.pos;have h3:=hD.d3;have hbb:=uG x.zA.length (by omega);have hmem:∀i,i<w.length→w.getD i 0<x.zA.length:=fun i hi=>hw _ (by rw[J2,J3 hi];exact Kd hi)
 have ha:=hmem t ht;obtain⟨o1,o2,o3⟩:=qS h ha;have hlen:(enW w).length=w.length:=by simp
 have hd:=qM ht;have a1:((w.getD t 0:Nat):Int)+1-1=((w.getD t 0:Nat):Int):=by omega
 have a2:(t:Int)+((yI x (w.getD t 0):Nat):Int)=((t+yI x (w.getD t 0):Nat):Int):=by omega
 have hr0:=zV6 hn (fun a ha=>hw a (Jbt ha)) hr;have hA:∀z,Mat m.Prime D (wM m.Prime D m.zF z (idM D)):=fun z=>zBI (by omega) _ (sE (by omega))
 have hs':∀q,q≤w.length→yA (enW w) (q:Int) (w.length:Int)=some (enW (w.drop q)):=fun q hq=>by
  rw[zDn hq (Jp _),Jr (by rw[Jx];omega)]
 have hact:∀q,q≤w.length→f_z m (enW (w.drop q))=some (zU.mk m.Prime (D:Int) (wM m.Prime D m.zF (w.drop q) (idM D))):=fun q hq=>
  zAU hD (by omega) (fun a ha=>hw a (Jbt ha)) (by rw[Jx];omega)
 have pw:swp x (w.drop t)=none→r.2.1=w.drop (t+yI x (w.getD t 0))∧t+yI x (w.getD t 0)≤w.length:=fun hsw=>by
  unfold hdS at hr;rw[hsw]at hr;simp only at hr;rw[hd]at hr;simp only[pws]at hr;split at hr
  ·rename_i g
   have hlo:=zBz g;rw[←hd,Jx]at hlo;cases hr;exact⟨by rw[←hd,Jc5],by omega⟩
  ·cases hr
 unfold f_k;rw[zGl h hn hw (by omega) ht hr,bs,zCM h hn hw (by omega) ht hr,bs,hlen,zE (by omega) (by omega),bs]
 by_cases g:t+1<w.length
 ·have hd2:=qM g
  have hb:=hmem _ g;rw[decide_eq_false (by omega),zL,tQ ht,bs,bs,show(t:Int)+1=((t+1:Nat):Int)from by omega,tQ g,bs]
  by_cases g2:w.getD (t+1) 0<w.getD t 0
  ·rw[hd,hd2]at hr
   unfold hdS at hr;simp only[swp]at hr;rw[if_pos g2]at hr;cases hr;rw[decide_eq_false (by omega),zL,zE (by omega) (by omega),bs,show(t:Int)+2=((t+2:Nat):Int)from by omega,hs' _ (by omega),bs,hact _ (by omega),bs,zFD hD.p h3 (by omega) hs hr0 (hA _) (.inr (.inr rfl)),bs]
  ·obtain⟨e1,e2⟩:=pw (by rw[hd,hd2];simp only[swp];rw[if_neg g2])
   rw[decide_eq_true (by omega),zQ,bs,a1,zE (by omega) (by omega),bs,o1,bs,a2,zE (by omega) (by omega),bs,hs' _ e2,bs,hact _ e2,bs,zFD hD.p h3 (by omega) hs hr0 (hA _) (.inr (.inl rfl)),bs,e1]
 ·obtain⟨e1,e2⟩:=pw (by rw[hd,H6 (by omega)];rfl)
  rw[decide_eq_true (by omega),zQ,tQ ht,bs,a1,zE (by omega) (by omega),bs,o1,bs,a2,zE (by omega) (by omega),bs,hs' _ e2,bs,hact _ e2,bs,zFD hD.p h3 (by omega) hs hr0 (hA _) (.inl rfl),bs,e1]
end
end Go.Pl

namespace Go.Pl
open Go Go.Ab Go.Wk Go.Pc
inductive Cb (x:SPr) (M:Nat):List Nat→Trc→List Nat→Prop where
 |refl (w:List Nat) (hl:w.length≤M) (hw:∀a∈w,a<x.zA.length):Cb x M w [] w
 |step {w w1 w' s:List Nat}{r:Nat}{tr:Trc} (hl:w.length≤M) (hw:∀a∈w,a<x.zA.length) (hs:stS x w=some (r,s,w1)) (h:Cb x M w1 tr w'):Cb x M w ((r,s)::tr) w'
theorem Cb.st{x:SPr}{M:Nat}{w w':List Nat}{tr:Trc}(h:Cb x M w tr w'):w.length≤M∧ ∀a∈w,a<x.zA.length:=by
 cases h with
 |refl _ hl hw=>exact⟨hl,hw⟩
 |step hl hw _ _=>exact⟨hl,hw⟩
def zDy(m:zH)(D:Nat)(s:Int):(Nat→Nat→Nat→Int)→Trc→Nat→Nat→Nat→Int
 |F,[]=>F
 |F,(r,z)::tr=>zDy m D s (upd F s r (wM m.Prime D m.zF z (idM D)) D) tr
theorem zKf{m:zH}{D:Nat}{s:Int}{r i j:Nat}(hi:i<D):∀(tr:Trc)(F:Nat→Nat→Nat→Int),zDy m D s F tr r i j=F r i j+s*zAX m.Prime D m tr r i j
 | [],F=>by rw[zDy,zAX,L9,H8]
 |(q,z)::tr,F=>by
  rw[zDy,zKf hi tr,upd,zAX,Jad,Qo]
  congr 2
  by_cases g:q=r
  ·rw[if_pos g,if_pos ⟨g.symm,hi⟩]
  ·rw[if_neg g,if_neg fun z=>g z.1.symm,L9]
abbrev zNh(x:SPr)(w:List Nat):Int:=match stI x w with
 |some z=>(z.1:Int)
 |none=> -1
section
variable {x:SPr}{m:zH}{D:Nat} (h:Pres x) (hn:x.zA.length≤6) (hD:MOk x.zA.length m D)
 include h hn hD
theorem zKg{s:Int}(hs:-7≤s∧s≤7){w w':List Nat}{tr:Trc}(hc:Cb x 60000 w tr w')(hw':stS x w'=none):∀F:Nat→Nat→Nat→Int,
  zJ (zQf s) (x,m,smx m.Prime D (base x.zA.length x.zA.length) F,enW w,zNh x w)=some (x,m,smx m.Prime D (base x.zA.length x.zA.length) (zDy m D s F tr)):=by
 induction hc with
 |refl w hl hw=>
  intro F;have e:zNh x w= -1:=by
   rw[zKe]at hw';unfold zNh;cases g:stI x w with
   |none=>rfl
   |some z=>rw[g]at hw';cases hw'
  rw[xT,e];unfold zQf;simp only
  rw[decide_eq_false (by omega),zL];rfl
 |step hl hw hst hc ih=>
  rename_i w w1 w2 z r tr;intro F;rw[zKe]at hst;cases g:stI x w with
  |none=>rw[g]at hst;cases hst
  |some q=>
   rw[g]at hst;obtain⟨t,q⟩:=q;simp only[Hx,L4.injEq,Jb2.injEq]at hst;obtain⟨e1,e2,e3⟩:=hst;obtain⟨ht,hh⟩:=zOH g;simp only at ht hh;have hc1:=hc.st;have e:zNh x w=(t:Int):=by unfold zNh;rw[g]
   have h1:=zFE h hn hD hw hl ht hh hs (F:=F);rw[e3,e1,e2]at h1;have h2:=zB0 h hc1.2 (by omega);rw[xT,e];have hb:zQf s (x,m,smx m.Prime D (base x.zA.length x.zA.length) F,enW w,(t:Int))=some (.inl (x,m,smx m.Prime D (base x.zA.length x.zA.length) (upd F s r (wM m.Prime D m.zF z (idM D)) D),enW w1,zNh x w1)):=by
    unfold zQf;simp only
    rw[decide_eq_true (by omega),zQ];refine(congrArg (fun o=>G9 o _) h1).trans ?_;rw[bs];simp only
    rw[h2,bs]
    try rfl
   rw[hb];simp only
   exact ih hw' _
theorem zEY{s:Int}(hs:-7≤s∧s≤7){w w':List Nat}{tr:Trc}(hc:Cb x 60000 w tr w')(hw':stS x w'=none)(F:Nat→Nat→Nat→Int):
  f_q ⟨x,m,smx m.Prime D (base x.zA.length x.zA.length) F⟩ (enW w) s=some ⟨x,m,smx m.Prime D (base x.zA.length x.zA.length) (zDy m D s F tr)⟩:=by
 have hc1:=hc.st;unfold f_q;rw[show f_O (xM.p ⟨x,m,smx m.Prime D (base x.zA.length x.zA.length) F⟩) (enW w)=some (zNh x w)from zB0 h hc1.2 (by omega),bs];have:=zKg h hn hD hs hc hw' F;refine(congrArg (fun o=>G9 o _) this).trans ?_;rw[bs]
end
end Go.Pl

namespace Go.Pl
open Go Go.Ab Go.Wk Go.Pc
inductive Cl (x:SPr) (k M:Nat):List Nat→Trc→List Nat→Prop where
 |refl (w:List Nat) (hl:w.length≤M) (hw:∀a∈w,k≤a∧a<x.zA.length):Cl x k M w [] w
 |step {w w1 w' s:List Nat}{r:Nat}{tr:Trc} (hl:w.length≤M) (hw:∀a∈w,k≤a∧a<x.zA.length) (hs:stS x w=some (r,s,w1)) (h:Cl x k M w1 tr w'):Cl x k M w ((r,s)::tr) w'
theorem Cl.trans{x:SPr}{k M:Nat}{w w1 w2:List Nat}{t1 t2:Trc}(h:Cl x k M w t1 w1)(h2:Cl x k M w1 t2 w2):Cl x k M w (t1++t2) w2:=by
 induction h with
 |refl w=>exact h2
 |step hl hw hs _ ih=>exact .step hl hw hs (ih h2)
theorem Cl.mono{x:SPr}{k M M2:Nat}(hM:M≤M2){w w':List Nat}{tr:Trc}(h:Cl x k M w tr w'):Cl x k M2 w tr w':=by
 induction h with
 |refl w hl hw=>exact .refl _ (by omega) hw
 |step hl hw hs _ ih=>exact .step (by omega) hw hs ih
theorem Cl.cb{x:SPr}{k M:Nat}{w w':List Nat}{tr:Trc}(h:Cl x k M w tr w'):Cb x M w tr w':=by
 induction h with
 |refl w hl hw=>exact .refl _ hl fun a ha=>(hw a ha).2
 |step hl hw hs _ ih=>exact .step hl (fun a ha=>(hw a ha).2) hs ih
theorem Cl.col{x:SPr}{k M:Nat}{w w':List Nat}{tr:Trc}(h:Cl x k M w tr w'):Col x k w tr w':=by
 induction h with
 |refl w hl hw=>exact .refl _
 |step hl hw hs _ ih=>exact .step hw hs ih
section
variable {x:SPr} (h:Pres x)
 include h
theorem zOI:∀(d k:Nat),k+d=x.zA.length→ ∀y,V (suf x k) y→(nw k y).length≤6*d
 |0,k,hk,y,hy=>by
  rw[vR (x:=x) (k:=k) (by omega)]at hy;cases y with
  |nil=>simp[nw]
  |cons b y=>cases hy
 |d+1,k,hk,y,hy=>by
  have hp:=(h.os.2 k (by omega)).pos;rw[yF (x:=x) (by omega)]at hy;cases y with
  |nil=>exact hy.elim
  |cons b y=>
   obtain⟨⟨h1,h2⟩,h3⟩:=hy;have ih:=zOI d (k+1) (by omega) y h3;have h2':b<at0 x.zA k:=h2;simp only[nw,J5,Ji];omega
theorem Cl.ctx{i a M:Nat}(hi:i<x.zA.length)(ha:a<yI x i){s:List Nat}(hs:∀b∈s,i≤b∧b<x.zA.length){w w':List Nat}{tr:Trc}(hc:Cl x (i+1) M w tr w'):
  Cl x i (a+M+s.length) (J1 a i++(w++s)) (tr.map fun q=>(q.1,q.2++s)) (J1 a i++(w'++s)):=by
 have mem:∀{w:List Nat},(∀b∈w,i+1≤b∧b<x.zA.length)→ ∀b∈J1 a i++(w++s),i≤b∧b<x.zA.length:=fun hw b hb=>by
  simp only[Jh]at hb;rcases hb with hb|hb|hb
  ·have:=Js hb;omega
  ·have:=hw b hb;omega
  ·exact hs b hb
 induction hc with
 |refl w hl hw=>exact .refl _ (by simp;omega) (mem hw)
 | @step w w1 w' s1 r tr hl hw hst _ ih=>
  refine .step (by simp;omega) (mem hw) ?_ ih;rw[zEf ha a (Jp _) fun b hb=>?_,zJS (fun b hb=>zJV h (hw b hb).2) hst]
  ·rfl
  ·cases w with
   |nil=>cases hst
   |cons c w=>
    simp only[Jn,Gx,L4.injEq]at hb;have:=hw c (by simp);omega
theorem zKh(hn:x.zA.length≤6){i j:Nat}(hi:i<j)(hj:j<x.zA.length):(nw 0 (lcj x i j)).length≤36:=(zIb h hn (uH h hi hj).1).2
theorem zOJ(hn:x.zA.length≤6){i:Nat}:∀{ur:List Nat},(∀b∈ur,i+1≤b∧b<x.zA.length)→(cwd x i ur).length≤36*ur.length
 | [],_=>by simp[cwd]
 |l::ur,hu=>by
  have h1:=hu l (by simp);have h2:=zKh h hn (show i<l by omega) h1.2;have ih:=zOJ hn (ur:=ur) fun b hb=>hu b (by simp[hb])
  simp only[cwd,J5,J7];omega
theorem Cl.move(hn6:x.zA.length≤6){i a:Nat}(hi:i<x.zA.length)(ha:a<yI x i):∀{ur:List Nat},(∀b∈ur,i+1≤b∧b<x.zA.length)→stS x ur.reverse=none→ ∀{z:List Nat},(∀b∈z,i≤b∧b<x.zA.length)→
  Cl x i (a+1+37*ur.length+z.length) (J1 a i++(ur.reverse++i::z)) (mtr x i ur z) (J1 (a+1) i++(cwd x i ur++z))
 | [],_,_,z,hz=>by
  have e:J1 a i++(([]:List Nat).reverse++i::z)=J1 (a+1) i++(cwd x i []++z):=by
   rw[H2];simp[cwd]
  rw[e];refine .refl _ (by simp[cwd]) fun b hb=>?_
  simp only[Jh,cwd,Jj]at hb;rcases hb with hb|hb
  ·have:=Js hb;omega
  ·exact hz b hb
 |l::ur,hu,hn,z,hz=>by
  obtain⟨l1,l2⟩:=hu l (by simp);have hu2:∀b∈ur,i+1≤b∧b<x.zA.length:=fun b hb=>hu b (by simp[hb])
  have hnc:=sS h (uH h (show i<l by omega) l2) hi;have hlc:=zKh h hn6 (show i<l by omega) l2;rw[Lz]at hn ⊢
  have hn2:=zGd (fun b hb=>zJV h (hu2 b (by simpa using hb)).2) hn;have hz2:∀b∈nw 0 (lcj x i l)++z,i≤b∧b<x.zA.length:=fun b hb=>by
   simp only[Jh]at hb;rcases hb with hb|hb
   ·have:=hnc.2 b hb;omega
   ·exact hz b hb
  have ih:=(Cl.move hn6 hi ha hu2 hn2 hz2).mono (M2:=a+1+37*(l::ur).length+z.length) (by rw[J5,J7];omega);rw[show cwd x i (l::ur)++z=cwd x i ur++(nw 0 (lcj x i l)++z)from by simp[cwd]];have e1:ur.reverse++[l]++i::z=ur.reverse++l::i::z:=by simp
  rw[e1];refine .step (by simp;omega) (fun b hb=>?_) ?_ ih
  ·simp only[Jh,Jc,Qx]at hb
   rcases hb with hb|hb|hb|hb|hb
   ·have:=Js hb;omega
   ·have:=hu2 b hb;omega
   ·omega
   ·omega
   ·exact hz b hb
  ·rw[zEf ha a (Jp _) fun b hb=>?_,zRM (fun b hb=>by have:=hu2 b (by simpa using hb);omega) (by omega) hn]
   ·rfl
   ·have:b∈ur.reverse++l::i::z:=Jbl (by rw[hb];rfl)
    cases e:ur.reverse with
    |nil=>rw[e]at hb;simp only[Jj,Gx,L4.injEq]at hb;omega
    |cons c t=>
     rw[e]at hb;simp only[Jn,Gx,L4.injEq]at hb;have:=hu2 c (by rw[←Qx,e];simp);omega
end
end Go.Pl

namespace Go.Pl
open Go Go.Ab Go.Wk Go.Pc
section
variable {x:SPr} (h:Pres x) (hn:x.zA.length≤6)
 include h hn
theorem zKi{k M W L:Nat}(hk:k<x.zA.length)(P:∀v:List Nat,v.length≤W→(∀a∈v,k+1≤a∧a<x.zA.length)→ ∃tr y,Cl x (k+1) M v tr (nw (k+1) y)∧V (suf x (k+1)) y):∀(z:List Nat),z.length≤L→(∀a∈z,k≤a∧a<x.zA.length)→ ∀(a:Nat),a<yI x k→ ∀(v:List Nat),v.length+z.length≤W→1400+z.length≤W→(∀a∈v,k+1≤a∧a<x.zA.length)→
  ∃tr y,Cl x k (M+L+1500) (J1 a k++(v++z)) tr (nw k y)∧V (suf x k) y
 | [],_,_,a,ha,v,hvl,_,hv=>by
  obtain⟨tr,y,c1,c2⟩:=P v (by simpa using hvl) hv;have ho:=(qS h hk).2.2;have hc:=(Cl.ctx h hk ha (s:=[]) (fun b hb=>by simp at hb) c1).mono (M2:=M+L+1500) (by simp;omega);rw[show(fun q:Nat×List Nat=>(q.1,q.2++[]))=id from by funext q;simp,List.map_id,J9,J9]at hc;refine⟨tr,(a:Int)::y,?_,?_⟩
  ·simp only[nw,Jg];rw[J9];exact hc
  ·rw[yF hk]
   refine⟨⟨by omega,?_⟩,c2⟩;show(a:Int)<at0 x.zA k;have:a<(at0 x.zA k).toNat:=ha;omega
 |l::z,hzl,hz,a,ha,v,hvl,hW,hv=>by
  have ho:=(qS h hk).2.2;have hzl2:z.length+1≤L:=by simpa using hzl
  have hvl2:v.length+(z.length+1)≤W:=by simpa using hvl
  have hW2:1400+(z.length+1)≤W:=by simpa using hW
  have hz2:∀b∈z,k≤b∧b<x.zA.length:=fun b hb=>hz b (by simp[hb])
  obtain⟨l1,l2⟩:=hz l (by simp);rcases Jk k l with g|g
  ·obtain⟨tr,y,c1,c2⟩:=zKi (L:=L) hk P z (by omega) hz2 a ha (v++[l]) (by simp;omega) (by omega) (fun b hb=>by
    simp only[Jh,List.mem_singleton]at hb;rcases hb with hb|rfl
    ·exact hv b hb
    ·omega)
   exact⟨tr,y,by rw[Ja]at c1;exact c1,c2⟩
  ·obtain rfl:l=k:=by omega
   obtain⟨tr1,y1,c1,c2⟩:=P v (by omega) hv;have hin:=zO7 h (show l+1≤x.zA.length by omega) c2;have hinr:∀b∈(nw (l+1) y1).reverse,l+1≤b∧b<x.zA.length:=fun b hb=>hin b (by simpa using hb)
   have hy1:(nw (l+1) y1).length≤36:=by
    have:=zOI h (x.zA.length-(l+1)) (l+1) (by omega) y1 c2;omega
   have hcl:(cwd x l (nw (l+1) y1).reverse).length≤1296:=by
    have:=zOJ h hn hinr;rw[Jb4]at this;omega
   have k1:=(Cl.ctx h hk ha (s:=l::z) hz c1).mono (M2:=M+L+1500) (by simp;omega);have k2:=(Cl.move h hn hk ha hinr (by rw[Ks];exact zFC h _ _ (by omega:l+1+(x.zA.length-(l+1))=x.zA.length) y1 c2) hz2).mono (M2:=M+L+1500) (by rw[Jb4];omega);rw[Ks]at k2;have hcw:=zJW h hinr;rcases Jk (a+1) (yI x l)with g2|g2
   ·obtain⟨tr2,y2,d1,d2⟩:=zKi (L:=L) hk P z (by omega) hz2 (a+1) g2 (cwd x l (nw (l+1) y1).reverse) (by omega) (by omega) hcw
    exact⟨_,y2,k1.trans (k2.trans d1),d2⟩
   ·have g4:a+1=yI x l:=by omega
    have hpe:=jF h hk;have hnp:=sS h hpe hk;have hpl:=(zIb h hn hpe.1).2;have hvv:∀b∈nw 0 (x.zS.getD l [])++cwd x l (nw (l+1) y1).reverse,l+1≤b∧b<x.zA.length:=fun b hb=>by
     simp only[Jh]at hb;rcases hb with hb|hb
     ·exact hnp.2 b hb
     ·exact hcw b hb
    obtain⟨tr2,y2,d1,d2⟩:=zKi (L:=L) hk P z (by omega) hz2 0 (by omega) _ (by rw[J5];omega) (by omega) hvv;rw[Hc,Jj,Ja]at d1;have k3:Cl x l (M+L+1500) (J1 (a+1) l++(cwd x l (nw (l+1) y1).reverse++z)) ((l,cwd x l (nw (l+1) y1).reverse++z)::tr2) (nw l y2):=by
     refine .step (by rw[J5,J5,Ji];omega) (fun b hb=>?_) (by rw[g4];exact zVs (zJV h hk) _) d1;simp only[Jh]at hb;rcases hb with hb|hb|hb
     ·have:=Js hb;omega
     ·have:=hcw b hb;omega
     ·exact hz2 b hb
    exact⟨_,y2,k1.trans (k2.trans k3),d2⟩
def lnB:Nat→Nat→Nat
 |0,l=>l
 |d+1,l=>lnB d (l+1400)+l+1500
theorem zV8:∀(d k:Nat),k+d=x.zA.length→ ∀(L:Nat)(z:List Nat),z.length≤L→(∀a∈z,k≤a∧a<x.zA.length)→ ∃tr y,Cl x k (lnB d L) z tr (nw k y)∧V (suf x k) y
 |0,k,hk,L,z,_,hz=>by
  have:z=[]:=by
   cases z with
   |nil=>rfl
   |cons a z=>have:=hz a (by simp);omega
  subst this;exact⟨[],[],.refl _ (by simp) (by simp),by rw[vR (x:=x) (k:=k) (by omega)];rfl⟩
 |d+1,k,hk,L,z,hl,hz=>by
  have ho:=zJV h (show k<x.zA.length by omega);obtain⟨tr,y,c1,c2⟩:=zKi h hn (M:=lnB d (L+1400)) (W:=L+1400) (L:=L) (show k<x.zA.length by omega) (fun v hv hvm=>zV8 d (k+1) (by omega) (L+1400) v hv hvm) z hl hz 0 (by omega) [] (by simp;omega) (by omega) (fun b hb=>by simp at hb);exact⟨tr,y,by simpa[lnB]using c1,c2⟩
theorem zOK{k L:Nat}(hk:k≤x.zA.length){z:List Nat}(hl:z.length≤L){tr:Trc}{y:Vec}(hc:qI x k z tr y)(hz:∀a∈z,k≤a∧a<x.zA.length):Cb x (lnB (x.zA.length-k) L) z tr (nw k y)∧stS x (nw k y)=none:=by
 obtain⟨tr2,y2,c1,c2⟩:=zV8 h hn (x.zA.length-k) k (by omega) L z hl hz;have n1:=zFC h (x.zA.length-k) k (by omega) y hc.v;have n2:=zFC h (x.zA.length-k) k (by omega) y2 c2;obtain⟨e1,e2⟩:=Col.det hc.col c1.col n1 n2;rw[e1,e2];exact⟨c1.cb,n2⟩
end
theorem zWQ:∀d:Nat,d<7→lnB d 100≤60000:=by decide
end Go.Pl

namespace Go.Pl
open Go Go.Ab Go.Wk Go.Pc
structure PD.Ok (x:SPr) (d:PD):Prop where
 h1:hdS x (d.wd.drop 0)=some (d.r1,d.s1,d.w1)
 ht:d.t<d.wd.length
 h2:∃q,hdS x (d.wd.drop d.t)=some (d.r2,d.s2,q)∧d.w2=d.wd.take d.t++q
 l:d.wd.length≤9
 l1:d.w1.length≤100
 l2:d.w2.length≤100
 m1:∀a∈d.w1,d.k≤a∧a<x.zA.length
 m2:∀a∈d.w2,d.k≤a∧a<x.zA.length
section
variable {x:SPr} (h:Pres x) (hn:x.zA.length≤6)
 include h hn
theorem zOL{a b:Nat}{s:List Nat}(hab:b<a):hdS x (a::b::s)=some (base x.zA.length b+(a-(b+1)),s,b::(nw 0 (lcj x b a)++s)):=by
 have _:=h;have _:=hn;unfold hdS;simp only[swp];rw[if_pos hab]
theorem zOM{a:Nat}{s:List Nat}(ha:a<x.zA.length):hdS x (J1 (yI x a) a++s)=some (a,s,nw 0 (x.zS.getD a [])++s):=by
 have _:=hn;obtain⟨q,hq⟩:∃q,yI x a=q+2:=⟨yI x a-2,by have:=(qS h ha).2.1;omega⟩;have e:swp x (J1 (yI x a) a++s)=none:=by
  rw[hq,Jq,Jq];simp only[Jn,swp];rw[if_neg (Jc6 a)]
 unfold hdS;rw[e];have e2:J1 (yI x a) a++s=a::(J1 (q+1) a++s):=by rw[hq,Jq];rfl
 have e3:(J1 (yI x a) a++s).take (yI x a)=J1 (yI x a) a:=Jm (Ji);have e4:(J1 (yI x a) a++s).drop (yI x a)=s:=K3 (Ji);rw[e2]at e3 e4;rw[e2];simp only[pws];rw[if_pos e3,e4]
theorem zKj:∀d∈cps x,d.Ok x:=by
 have hcon:∀i j,i<j→j<x.zA.length→ ∀a∈nw 0 (lcj x i j),i+1≤a∧a<x.zA.length:=fun i j hi hj=>(sS h (uH h hi hj) (by omega)).2
 have hpow:∀i,i<x.zA.length→ ∀a∈nw 0 (x.zS.getD i []),i+1≤a∧a<x.zA.length:=fun i hi=>(sS h (jF h hi) hi).2
 have lcon:∀i j,i<j→j<x.zA.length→(nw 0 (lcj x i j)).length≤36:=fun i j hi hj=>zKh h hn hi hj
 have lpow:∀i,i<x.zA.length→(nw 0 (x.zS.getD i [])).length≤36:=fun i hi=>(zIb h hn (jF h hi).1).2
 have od:∀i,i<x.zA.length→2≤yI x i∧yI x i≤7:=fun i hi=>(qS h hi).2
 refine zAK.2 ⟨fun i j k h1 h2 h3=>?_,fun i j h1 h2=>?_,fun i j h1 h2=>?_,fun i h1=>?_⟩
 ·have c1:=lcon j k h2 h3
  have c2:=lcon i j h1 (by omega);refine⟨zOL h hn h2,by simp[pd2],⟨i::(nw 0 (lcj x i j)++[]),zOL h hn h1,by simp[pd2]⟩,by simp[pd2],by simp only[pd2,J7,J5,K0];omega,by simp only[pd2,J7];omega,fun a ha=>?_,fun a ha=>?_⟩
  ·simp only[pd2,Jc,Jh,Jb7,or_false]at ha ⊢
   rcases ha with rfl|ha|rfl
   ·omega
   ·have:=hcon j k (by omega) h3 a ha;omega
   ·omega
  ·simp only[pd2,Jc]at ha ⊢
   rcases ha with rfl|rfl|ha
   ·omega
   ·omega
   ·have:=hcon i j (by omega) (by omega) a ha;omega
 ·have c1:=lpow j h2
  have c2:=lcon i j h1 h2;have o:=od j h2;have e:J1 (yI x j) j++[i]=J1 (yI x j-1) j++[j,i]:=by
   obtain⟨q,hq⟩:∃q,yI x j=q+1:=⟨yI x j-1,by omega⟩;rw[hq,H2,Jbj,Ja];rfl
  refine⟨zOM h hn h2,by simp only[pd1,J5,Ji,J7,K0];omega,⟨i::(nw 0 (lcj x i j)++[]),?_,?_⟩,by simp only[pd1,J5,Ji,J7,K0];omega,by simp only[pd1,J7,J5,K0];omega,by simp only[pd1,J5,Ji,J7];omega,fun a ha=>?_,fun a ha=>?_⟩
  ·show hdS x ((J1 (yI x j) j++[i]).drop (yI x j-1))=_
   rw[e,K3 (Ji)];exact zOL h hn h1
  ·show _=(J1 (yI x j) j++[i]).take (yI x j-1)++_
   rw[e,Jm (Ji),J9];rfl
  ·simp only[pd1,Jh,List.mem_singleton]at ha ⊢
   rcases ha with ha|rfl
   ·have:=hpow j h2 a ha;omega
   ·omega
  ·simp only[pd1,Jh,Jc]at ha ⊢
   rcases ha with ha|rfl|ha
   ·have:=Js ha;omega
   ·omega
   ·have:=hcon i j h1 h2 a ha;omega
 ·have c1:=lpow i (by omega)
  have c2:=lcon i j h1 h2;have o:=od i (by omega);have e:J1 (yI x i) i=i::J1 (yI x i-1) i:=by
   obtain⟨q,hq⟩:∃q,yI x i=q+1:=⟨yI x i-1,by omega⟩;rw[hq,Jq,Jbj]
  refine⟨?_,by simp only[pd4,Ji,J7];omega,⟨nw 0 (x.zS.getD i [])++[],?_,by simp[pd4]⟩,by simp only[pd4,Ji,J7];omega,by simp only[pd4,J7,J5,Ji];omega,by simp only[pd4,J7];omega,fun a ha=>?_,fun a ha=>?_⟩
  ·show hdS x (j::J1 (yI x i) i)=_
   rw[e];exact zOL h hn h1
  ·show hdS x (J1 (yI x i) i)=_
   have:=zOM h hn (s:=[]) (show i<x.zA.length by omega);rw[J9]at this;exact this
  ·simp only[pd4,Jc,Jh]at ha ⊢
   rcases ha with rfl|ha|ha
   ·omega
   ·have:=hcon i j h1 h2 a ha;omega
   ·have:=Js ha;omega
  ·simp only[pd4,Jc]at ha ⊢
   rcases ha with rfl|ha
   ·omega
   ·have:=hpow i (by omega) a ha;omega
 ·have c1:=lpow i h1
  have o:=od i h1;refine⟨?_,by simp only[pd3,Ji];omega,⟨nw 0 (x.zS.getD i [])++[],?_,?_⟩,by simp only[pd3,Ji];omega,by simp only[pd3,J7,J5,K0];omega,by simp only[pd3,J7];omega,fun a ha=>?_,fun a ha=>?_⟩
  ·show hdS x (J1 (yI x i+1) i)=_
   rw[H2];exact zOM h hn h1
  ·show hdS x ((J1 (yI x i+1) i).drop 1)=_
   rw[Jq,List.drop_succ_cons,G7];have:=zOM h hn (s:=[]) h1;rw[J9]at this;exact this
  ·show i::nw 0 (x.zS.getD i [])=(J1 (yI x i+1) i).take 1++_
   rw[Jq,J9];rfl
  ·simp only[pd3,Jh,List.mem_singleton]at ha ⊢
   rcases ha with ha|rfl
   ·have:=hpow i h1 a ha;omega
   ·omega
  ·simp only[pd3,Jc]at ha ⊢
   rcases ha with rfl|ha
   ·omega
   ·have:=hpow i h1 a ha;omega
end
end Go.Pl

namespace Go.Pl
open Go Go.Ab Go.Wk Go.Pc
section
variable {x:SPr}{m:zH}{D:Nat} (h:Pres x) (hn:x.zA.length≤6) (hD:MOk x.zA.length m D)
 include h hn hD
theorem zPB{d:PD}(hd:d∈cps x){t1 t2:Trc}(hb:d.B x t1 t2)(F:Nat→Nat→Nat→Int):
  ((f_k ⟨x,m,smx m.Prime D (base x.zA.length x.zA.length) F⟩ (enW d.wd) ((0:Nat):Int) 1).bind fun r=>(f_q r.2 r.1 1).bind fun k2=>(f_k k2 (enW d.wd) (d.t:Int) (-1)).bind fun r3=>f_q r3.2 r3.1 (-1))=
   some ⟨x,m,smx m.Prime D (base x.zA.length x.zA.length) (zDy m D (-1) (zDy m D 1 F t1) t2)⟩:=by
 have ok:=zKj h hn d hd;obtain⟨hk,hwd,_⟩:=zG2 h hn d hd;obtain⟨⟨u1,y1,rfl,k1⟩,⟨u2,y2,rfl,k2⟩⟩:=hb;obtain⟨q,q1,q2⟩:=ok.h2;have hl:=ok.l;have ht:=ok.ht;obtain⟨c1,n1⟩:=zOK h hn (by omega) ok.l1 k1 ok.m1;obtain⟨c2,n2⟩:=zOK h hn (by omega) ok.l2 k2 ok.m2;have up:∀{w w':List Nat}{tr:Trc},Cb x (lnB (x.zA.length-d.k) 100) w tr w'→Cb x 60000 w tr w':=fun{w w' tr} hc=>by
  have hM:=zWQ (x.zA.length-d.k) (by omega)
  generalize lnB (x.zA.length-d.k) 100=M at hc hM
  induction hc with
  |refl w hl hw=>exact .refl _ (by omega) hw
  |step hl hw hs _ ih=>exact .step (by omega) hw hs ih
 rw[zFE h hn hD hwd (by omega) (by omega) ok.h1 (s:=1) (by omega) (F:=F),bs];simp only[K8,Jj];rw[zEY h hn hD (by omega) (up c1) n1,bs,zFE h hn hD hwd (by omega) ht q1 (s:=-1) (by omega),bs];simp only
 rw[←q2,zEY h hn hD (by omega) (up c2) n2];rfl
end
theorem zSg{p:Int}{m:zH}{D r i:Nat}(hi:i<D){t1 t2:Trc}(hp:m.Prime=p):(mkv D fun j=>zDy m D (-1) (zDy m D 1 (fun _ _ _=>0) t1) t2 r i j%m.Prime)=prR p D m t1 t2 (r*D+i):=by
 subst hp;have e:=sH (q:=r) hi;rw[prR,e.1,e.2];refine zY fun j _=>?_
 rw[zKf hi,zKf hi]
 congr 1
 omega
end Go.Pl

namespace Go.Pl
open Go Go.Ab Go.Wk Go.Pc
theorem uX{α β:Type}{f:α→List β}{c:Nat}(hf:∀a,(f a).length≤c):∀l:List α,(l.flatMap f).length≤l.length*c
 | []=>by simp
 |a::l=>by
  have:=uX hf l;have:=hf a;rw[Ln,J5,J7,K5];omega
theorem zG3{x:SPr}(hn:x.zA.length≤6):(cps x).length≤300:=by
 have hu:∀i,(ups x.zA.length i).length≤6:=fun i=>by rw[ups,Q6];omega
 have h1:=uX (c:=36) (f:=fun i=>(ups x.zA.length i).flatMap fun j=>(ups x.zA.length j).map fun k=>pd2 x i j k) (fun i=>by
  have:=uX (c:=6) (f:=fun j=>(ups x.zA.length j).map fun k=>pd2 x i j k) (fun j=>by rw[Jf];exact hu j) (ups x.zA.length i);have:=hu i;omega) (Jw x.zA.length)
 have h2:=uX (c:=6) (f:=fun i=>(ups x.zA.length i).map fun j=>pd1 x i j) (fun i=>by rw[Jf];exact hu i) (Jw x.zA.length);have h3:=uX (c:=6) (f:=fun i=>(ups x.zA.length i).map fun j=>pd4 x i j) (fun i=>by rw[Jf];exact hu i) (Jw x.zA.length);rw[Ll]at h1 h2 h3;rw[cps,J5,J5,J5,Jf,Ll];omega
section
variable {x:SPr}{m:zH}{D:Nat} (hx:zFY x) (hD:MOk x.zA.length m D)
 include hx hD
theorem zLN(h0:0<x.zA.length)(hc:wR (suf x 0))(hr:zDZ x m D){prs:List (Trc×Trc)}(hq:tU x (cps x) prs):∃K,f_m x m=some K∧
  f_F m.Prime (gl (base x.zA.length x.zA.length*D) fun k=>kX m.Prime D m prs k) ((prs.length*D:Nat):Int)=some K:=by
 have h6:=hx.n6;have hp:=hD.p.pos;have hb:=uG x.zA.length (by omega);have h3:=hD.d3;have hB:base x.zA.length x.zA.length*D≤21*3:=Kj hb.2.1 h3;have hql:prs.length≤300:=by rw[←hq.len];exact zG3 h6
 have hqD:prs.length*D≤300*3:=Kj hql h3;obtain⟨K,pk,k1,k2,k3⟩:=zGf hx hD h0 hc hr;obtain⟨K2,pk2,_,j2,j3,j4⟩:=zF7 hD.p (c:=prs.length*D) (N:=base x.zA.length x.zA.length*D) (A:=gl (base x.zA.length x.zA.length*D) fun k=>kX m.Prime D m prs k) (by omega) (fun k hk=>by
  rw[xY hk];refine⟨zHY prs,fun j hj=>?_⟩;have hD0:0<D:=hD.d1;have hi:j/D<prs.length:=(Gg hD0).2 hj;have hm:j%D<D:=U6 _ hD0;have e:=zHX (F:=fun q:Trc×Trc=>prR m.Prime D m q.1 q.2 k) (fun _=>yD _ _) prs (j/D) (j%D) hi hm;rw[show j/D*D+j%D=j from by rw[Hu];exact Ge j D]at e;rw[kX,e,prR,yH hm];exact⟨La _ (show m.Prime≠0 by omega),by have:=Kw (zAX m.Prime D m (prs[j/D]).1 (k/D) (k%D) (j%D)-zAX m.Prime D m (prs[j/D]).2 (k/D) (k%D) (j%D)) (show 0<m.Prime by omega);omega⟩) vA
 have key:∀y,Row m.Prime (base x.zA.length x.zA.length*D) y→(Sp m.Prime (base x.zA.length x.zA.length*D) K y↔Sp m.Prime (base x.zA.length x.zA.length*D) K2 y):=fun y hy=>by
  rw[k3 y hy,j4 y,zSc hx hD hq hc hr hy]
 have e:K=K2:=Red.unique (by omega) k2 j3 ⟨fun i hi=>(key _ (k2.row i hi)).1 (qH hi),fun i hi=>(key _ (j3.row i hi)).2 (qH hi)⟩;exact⟨K,k1,by rw[e];exact j2⟩
end
end Go.Pl

namespace Go.Pl
open Go Go.Ab Go.Wk Go.Pc
section
variable {x:SPr}{m:zH}{D:Nat} (h0:x.zA.length=0) (hD:MOk x.zA.length m D)
 include h0 hD
theorem zPC{T:Mx}:f_K ⟨x,m,T⟩=some []:=by
 have _:=hD;unfold f_K;rw[xT];unfold zPT;simp only
 rw[h0,show decide ((0:Int)<((0:Nat):Int))=false from rfl,zL];rfl
theorem zNi:∃K pk,f_m x m=some K∧f_F m.Prime [] 0=some K∧Red m.Prime 0 K pk:=by
 obtain⟨K,pk,k1,k2,k3,_⟩:=zF7 hD.p (c:=0) (N:=0) (A:=[]) (by omega) (fun i hi=>absurd hi (Uk i)) rfl;refine⟨K,pk,?_,k2,k3⟩;unfold f_m;have e1:=zHZ hD (N:=0) (by omega);have e2:=zJg hD (B:=0) (L:=[]) (by omega) (by simp) (fun r hr=>by cases hr);rw[Hm]at e1;rw[zHD h0 (by omega),bs,hD.d,show base 0 0=0 from rfl,show((0:Nat):Int)*(D:Int)=((0:Nat):Int)from by simp,zE (by omega) (by omega),bs,e1,bs,zPC h0 hD,bs,e2,bs,show((([]:Mx).length:Nat):Int)*(D:Int)=((0:Nat):Int)from by simp,zE (by omega) (by omega),bs];rw[show gl 0 (fun k=>zDx D k [])=([]:Mx)from rfl,k1,bs]
end
end Go.Pl

namespace Go.Pl
open Go Go.Ab Go.Wk Go.Pc
theorem zZA{v:Int}:f_i [v] 4=some [v,v,v,v]:=by
 unfold f_i;have h:=yB (body:=tJ) (r:=[v,v,v,v]) (fun i=>match i with|0=>([v,0,0,0],1)|1=>([v,v,0,0],2)|_=>([v,v,v,v],4)) 2 (fun i hi=>by
  match i,hi with
  |0,_=>simp[tJ,yA,xQ,rng,inR]
  |1,_=>simp[tJ,yA,xQ,rng,inR]) (by simp[tJ])
 rw[show decide ((4:Int)<0)=false from rfl,zL,zMK (by decide+kernel),bs];have hl:xH (IntKind.wrap .i64 4)=some 4:=by decide+kernel
 simp only[hl,bs];rw[show decide ((0:Int)> 0)=false from rfl,zL,show decide ((4:Int)> 9223372036854775807)=false from by decide,zL];have e2:xQ (J1 4 (0:Int)) 0 (([v]:List Int).take ((J1 4 (0:Int)).length-0))=[v,0,0,0]:=by simp[xQ,J1]
 have e3:((min ([v]:List Int).length ((J1 4 (0:Int)).length-0):Nat):Int)=1:=by simp
 rw[e2,e3];have h':zJ tJ ([v,0,0,0],1)=_:=h;rw[h',bs]
theorem zZB{v:Int}:f_i [v] 6=some [v,v,v,v,v,v]:=by
 unfold f_i;have h:=yB (body:=tJ) (r:=[v,v,v,v,v,v]) (fun i=>match i with|0=>([v,0,0,0,0,0],1)|1=>([v,v,0,0,0,0],2)|2=>([v,v,v,v,0,0],4)|_=>([v,v,v,v,v,v],6)) 3 (fun i hi=>by
  match i,hi with
  |0,_=>simp[tJ,yA,xQ,rng,inR]
  |1,_=>simp[tJ,yA,xQ,rng,inR]
  |2,_=>simp[tJ,yA,xQ,rng,inR]) (by simp[tJ])
 rw[show decide ((6:Int)<0)=false from rfl,zL,zMK (by decide+kernel),bs];have hl:xH (IntKind.wrap .i64 6)=some 6:=by decide+kernel
 simp only[hl,bs];rw[show decide ((0:Int)> 0)=false from rfl,zL,show decide ((6:Int)> 9223372036854775807)=false from by decide,zL];have e2:xQ (J1 6 (0:Int)) 0 (([v]:List Int).take ((J1 6 (0:Int)).length-0))=[v,0,0,0,0,0]:=by simp[xQ,J1]
 have e3:((min ([v]:List Int).length ((J1 6 (0:Int)).length-0):Nat):Int)=1:=by simp
 rw[e2,e3];have h':zJ tJ ([v,0,0,0,0,0],1)=_:=h;rw[h',bs]
theorem zZC{v:Int}:f_i [v] 8=some [v,v,v,v,v,v,v,v]:=by
 unfold f_i;have h:=yB (body:=tJ) (r:=[v,v,v,v,v,v,v,v]) (fun i=>match i with|0=>([v,0,0,0,0,0,0,0],1)|1=>([v,v,0,0,0,0,0,0],2)|2=>([v,v,v,v,0,0,0,0],4)|_=>([v,v,v,v,v,v,v,v],8)) 3 (fun i hi=>by
  match i,hi with
  |0,_=>simp[tJ,yA,xQ,rng,inR]
  |1,_=>simp[tJ,yA,xQ,rng,inR]
  |2,_=>simp[tJ,yA,xQ,rng,inR]) (by simp[tJ])
 rw[show decide ((8:Int)<0)=false from rfl,zL,zMK (by decide+kernel),bs];have hl:xH (IntKind.wrap .i64 8)=some 8:=by decide+kernel
 simp only[hl,bs];rw[show decide ((0:Int)> 0)=false from rfl,zL,show decide ((8:Int)> 9223372036854775807)=false from by decide,zL];have e2:xQ (J1 8 (0:Int)) 0 (([v]:List Int).take ((J1 8 (0:Int)).length-0))=[v,0,0,0,0,0,0,0]:=by simp[xQ,J1]
 have e3:((min ([v]:List Int).length ((J1 8 (0:Int)).length-0):Nat):Int)=1:=by simp
 rw[e2,e3];have h':zJ tJ ([v,0,0,0,0,0,0,0],1)=_:=h;rw[h',bs]
theorem zAL{β:Type}{body:List β×Int→Option ((List β×Int)⊕List β)}(s n B:Nat)(F:Nat→List β)(a0:List β)(hB:a0.length+((L6 s n).flatMap F).length≤B)
  (h:∀i acc,s≤i→i<s+n→acc.length+(F i).length≤B→body (acc,((i+1:Nat):Int))=some (.inl (acc++F i,((i+1+1:Nat):Int))))(he:∀acc,body (acc,((s+n+1:Nat):Int))=some (.inr acc)):
  zJ body (a0,((s+1:Nat):Int))=some (a0++(L6 s n).flatMap F):=by
 have:=yB (body:=body) (r:=a0++(L6 s n).flatMap F) (fun i=>(a0++(L6 s i).flatMap F,((s+i+1:Nat):Int))) n (fun i hi=>by
  have e:(L6 s (i+1)).flatMap F=(L6 s i).flatMap F++F (s+i):=by
   rw[List.range'_1_concat,Hd,Ln,Qz,J9]
  have hle:((L6 s (i+1)).flatMap F).length≤((L6 s n).flatMap F).length:=by
   obtain⟨k,rfl⟩:∃k,n=i+1+k:=⟨n-(i+1),by omega⟩;have e3:L6 s (i+1+k)=L6 s (i+1)++L6 (s+(i+1)) k:=List.range'_append_1.symm;rw[e3,Hd,J5];omega
  rw[e,J5]at hle;rw[h (s+i) _ (by omega) (by omega) (by rw[J5];omega),e,Ja];rfl) (he _)
 simpa using this
def CPd(d:PD):zK:=⟨enW d.wd,enW d.w1,enW d.w2⟩
section
variable {x:SPr} (h:Pres x) (hn:x.zA.length≤6)
 include h
theorem zLO{v:Int}{a:Nat}(ha:a<x.zA.length):zMh v ((yI x a:Nat):Int)=some (J1 (yI x a) v):=by
 have hp:=h.os.2 a ha;have e:=(qS h ha).1;have e2:at0 x.zA a=((yI x a:Nat):Int):=by rw[xD ha]at e;exact L4.inj e
 rw[e2]at hp;unfold zMh;rw[zCF hp,bs,Jg]
theorem zPD{v:Int}{a:Nat}(ha:a<x.zA.length):zMh v (((yI x a+1:Nat)):Int)=some (J1 (yI x a+1) v):=by
 have hp:=h.os.2 a ha;have e:=(qS h ha).1;have e2:at0 x.zA a=((yI x a:Nat):Int):=by rw[xD ha]at e;exact L4.inj e
 rw[e2]at hp;have:yI x a=2∨yI x a=3∨yI x a=5∨yI x a=7:=by
  rcases hp with g|g|g|g<;>omega
 unfold zMh;rcases this with g|g|g|g<;>rw[g]
 ·exact(congrArg (fun o=>G9 o _) (zCF (v:=v) (o:=3) (.inr (.inl rfl)))).trans rfl
 ·exact(congrArg (fun o=>G9 o _) (zZA (v:=v))).trans rfl
 ·exact(congrArg (fun o=>G9 o _) (zZB (v:=v))).trans rfl
 ·exact(congrArg (fun o=>G9 o _) (zZC (v:=v))).trans rfl
 include hn
theorem zEZ{d:PD}(hd:d∈cps x){out:List zK}(ho:out.length≤100000):f_P (enW d.wd) (d.t:Int) out x=some (out++[CPd d]):=by
 have ok:=zKj h hn d hd;obtain⟨_,hwd,_⟩:=zG2 h hn d hd;obtain⟨q,q1,q2⟩:=ok.h2;have hl:=ok.l;have ht:=ok.ht;unfold f_P;rw[show(0:Int)=((0:Nat):Int)from rfl,zCM h hn hwd (by omega) (by omega) ok.h1,bs,zCM h hn hwd (by omega) ht q1,bs,xK (by simp only[J7,K0];omega),bs];simp only[K8,Jj];rw[←q2];rfl
end
end Go.Pl

namespace Go.Pl
open Go Go.Ab Go.Wk Go.Pc
theorem zBS{α β:Type}{f:α→β}:∀l:List α,(l.flatMap fun a=>[f a])=l.map f
 | []=>rfl
 |a::l=>by rw[Ln,zBS l];rfl
theorem zAq{N i:Nat}(hN:N≤6):(ups N i).length≤6:=by rw[ups,Q6];omega
section
variable {x:SPr} (h:Pres x) (hn:x.zA.length≤6)
 include h hn
theorem zYD{i j:Nat}(hij:i<j)(hj:j<x.zA.length){o1 o2 out:List zK}(ho:out.length≤3000):
  zJ (zPX x (o1,((i+1:Nat):Int)) (o2,((j+1:Nat):Int))) (out,((j+1+1:Nat):Int))=some (out++(ups x.zA.length j).map fun k=>CPd (pd2 x i j k)):=by
 have hm:=((zAK (x:=x) (φ:=fun d=>d∈cps x)).1 fun d hd=>hd).1;have hu:=zAq (i:=j) hn;have:=zAL (body:=zPX x (o1,((i+1:Nat):Int)) (o2,((j+1:Nat):Int))) (j+1) (x.zA.length-(j+1)) 4000 (fun k=>[CPd (pd2 x i j k)]) out (by rw[zBS,Jf];rw[ups]at hu;omega) (fun k acc hk1 hk2 hb=>by
  unfold zPX;simp only
  have e:([((k+1:Nat):Int),((j+1:Nat):Int),((i+1:Nat):Int)])=enW (pd2 x i j k).wd:=by
   show _=enW [k,j,i];simp only[enW,Jt,Hk]
   congr 1
  rw[decide_eq_true (by omega),zQ,e,show(1:Int)=((pd2 x i j k).t:Int)from rfl,zEZ h hn (hm i j k hij (by omega) (by omega)) (by simp only[J7,K0]at hb;omega),bs,show((k+1:Nat):Int)+((pd2 x i j k).t:Int)=((k+1+1:Nat):Int)from rfl,zE (by omega) (by omega),bs]) (fun acc=>by
  unfold zPX;simp only
  rw[decide_eq_false (by omega),zL])
 rw[zBS]at this;exact this
theorem zYE{i:Nat}(hi:i<x.zA.length){o1 out:List zK}(ho:out.length≤2000):
  zJ (zPY x (o1,((i+1:Nat):Int))) (out,((i+1+1:Nat):Int))=some (out++(ups x.zA.length i).flatMap fun j=>(ups x.zA.length j).map fun k=>CPd (pd2 x i j k)):=by
 have hu:=zAq (i:=i) hn;have hf:=uX (c:=6) (f:=fun j=>(ups x.zA.length j).map fun k=>CPd (pd2 x i j k)) (fun j=>by rw[Jf];exact zAq hn) (ups x.zA.length i);have:=zAL (body:=zPY x (o1,((i+1:Nat):Int))) (i+1) (x.zA.length-(i+1)) 3000 (fun j=>(ups x.zA.length j).map fun k=>CPd (pd2 x i j k)) out (by rw[ups]at hu hf;omega) (fun j acc hj1 hj2 hb=>by
  unfold zPY;simp only
  rw[decide_eq_true (by omega),zQ,show((j+1:Nat):Int)+1=((j+1+1:Nat):Int)from by omega,zE (by omega) (by omega),bs,zYD h hn (by omega) (by omega) (by omega),bs,bs]) (fun acc=>by
  unfold zPY;simp only
  rw[decide_eq_false (by omega),zL])
 exact this
theorem zYF:zJ (zPZ x) ([],1)=some ((Jw x.zA.length).flatMap fun i=>(ups x.zA.length i).flatMap fun j=>(ups x.zA.length j).map fun k=>CPd (pd2 x i j k)):=by
 have hf:=uX (c:=36) (f:=fun i=>(ups x.zA.length i).flatMap fun j=>(ups x.zA.length j).map fun k=>CPd (pd2 x i j k)) (fun i=>by
  have:=uX (c:=6) (f:=fun j=>(ups x.zA.length j).map fun k=>CPd (pd2 x i j k)) (fun j=>by rw[Jf];exact zAq hn) (ups x.zA.length i);have:=zAq (i:=i) hn;omega) (Jw x.zA.length)
 rw[Ll]at hf;have:=zAL (body:=zPZ x) 0 x.zA.length 2000 (fun i=>(ups x.zA.length i).flatMap fun j=>(ups x.zA.length j).map fun k=>CPd (pd2 x i j k)) [] (by rw[←Lq];simp only[K0];omega) (fun i acc hi1 hi2 hb=>by
  unfold zPZ;simp only
  rw[decide_eq_true (by omega),zQ,show((i+1:Nat):Int)+1=((i+1+1:Nat):Int)from by omega,zE (by omega) (by omega),bs,zYE h hn (by omega) (by omega),bs,bs]) (fun acc=>by
  unfold zPZ;simp only
  rw[decide_eq_false (by omega),zL])
 rw[←Lq,Jj]at this;exact this
theorem zYG{i:Nat}(hi:i<x.zA.length){o1 out:List zK}(ho:out.length≤3000):
  zJ (zQa x (o1,((i+1:Nat):Int))) (out,((i+1+1:Nat):Int))=some (out++(ups x.zA.length i).map fun j=>CPd (pd1 x i j)):=by
 have hm:=((zAK (x:=x) (φ:=fun d=>d∈cps x)).1 fun d hd=>hd).2.1;have hu:=zAq (i:=i) hn;have:=zAL (body:=zQa x (o1,((i+1:Nat):Int))) (i+1) (x.zA.length-(i+1)) 4000 (fun j=>[CPd (pd1 x i j)]) out (by rw[zBS,Jf];rw[ups]at hu;omega) (fun j acc hj1 hj2 hb=>by
  have ho:=qS h (show j<x.zA.length by omega);unfold zQa;simp only
  have e:J1 (yI x j) ((j+1:Nat):Int)++[((i+1:Nat):Int)]=enW (pd1 x i j).wd:=by
   show _=enW (J1 (yI x j) j++[i]);simp only[enW,Lh,Q5,Jt,Hk];rfl
  have et:((yI x j:Nat):Int)-1=((pd1 x i j).t:Int):=by
   show _=((yI x j-1:Nat):Int);omega
  rw[decide_eq_true (by omega),zQ,show((j+1:Nat):Int)-1=(j:Int)from by omega,zE (n:=(j:Int)) (by omega) (by omega),bs,ho.1,bs,zLO h (by omega),bs,xK (by simp only[Ji,J7,K0];omega),bs,bs,ho.1,bs,zE (n:=((yI x j:Nat):Int)-1) (by omega) (by omega),bs,e,et,zEZ h hn (hm i j (by omega) (by omega)) (by simp only[J7,K0]at hb;omega),bs,show((j+1:Nat):Int)+1=((j+1+1:Nat):Int)from by omega,zE (by omega) (by omega),bs]) (fun acc=>by
  unfold zQa;simp only
  rw[decide_eq_false (by omega),zL])
 rw[zBS]at this;exact this
theorem zYH{out:List zK}(ho:out.length≤1000):zJ (zQb x) (out,1)=some (out++(Jw x.zA.length).flatMap fun i=>(ups x.zA.length i).map fun j=>CPd (pd1 x i j)):=by
 have hf:=uX (c:=6) (f:=fun i=>(ups x.zA.length i).map fun j=>CPd (pd1 x i j)) (fun i=>by rw[Jf];exact zAq hn) (Jw x.zA.length);rw[Ll]at hf;have:=zAL (body:=zQb x) 0 x.zA.length 2000 (fun i=>(ups x.zA.length i).map fun j=>CPd (pd1 x i j)) out (by rw[←Lq];omega) (fun i acc hi1 hi2 hb=>by
  unfold zQb;simp only
  rw[decide_eq_true (by omega),zQ,show((i+1:Nat):Int)+1=((i+1+1:Nat):Int)from by omega,zE (by omega) (by omega),bs,zYG h hn (by omega) (by omega),bs,bs]) (fun acc=>by
  unfold zQb;simp only
  rw[decide_eq_false (by omega),zL])
 rw[←Lq]at this;exact this
theorem zYI{i:Nat}(hi:i<x.zA.length){o1 out:List zK}(ho:out.length≤3000):
  zJ (zQc x (o1,((i+1:Nat):Int))) (out,((i+1+1:Nat):Int))=some (out++(ups x.zA.length i).map fun j=>CPd (pd4 x i j)):=by
 have hm:=((zAK (x:=x) (φ:=fun d=>d∈cps x)).1 fun d hd=>hd).2.2.1;have hu:=zAq (i:=i) hn;have ho:=qS h hi;have:=zAL (body:=zQc x (o1,((i+1:Nat):Int))) (i+1) (x.zA.length-(i+1)) 4000 (fun j=>[CPd (pd4 x i j)]) out (by rw[zBS,Jf];rw[ups]at hu;omega) (fun j acc hj1 hj2 hb=>by
  unfold zQc;simp only
  have e:[((j+1:Nat):Int)]++J1 (yI x i) ((i+1:Nat):Int)=enW (pd4 x i j).wd:=by
   show _=enW (j::J1 (yI x i) i);simp only[enW,Q5,Jt];rfl
  rw[decide_eq_true (by omega),zQ,show((i+1:Nat):Int)-1=(i:Int)from by omega,zE (n:=(i:Int)) (by omega) (by omega),bs,ho.1,bs,zLO h hi,bs,xK (by simp only[Ji,J7,K0];omega),bs,e,show(1:Int)=((pd4 x i j).t:Int)from rfl,zEZ h hn (hm i j (by omega) (by omega)) (by simp only[J7,K0]at hb;omega),bs,show((j+1:Nat):Int)+((pd4 x i j).t:Int)=((j+1+1:Nat):Int)from rfl,zE (by omega) (by omega),bs]) (fun acc=>by
  unfold zQc;simp only
  rw[decide_eq_false (by omega),zL])
 rw[zBS]at this;exact this
theorem zYJ{out:List zK}(ho:out.length≤1000):zJ (zQd x) (out,1)=some (out++(Jw x.zA.length).flatMap fun i=>(ups x.zA.length i).map fun j=>CPd (pd4 x i j)):=by
 have hf:=uX (c:=6) (f:=fun i=>(ups x.zA.length i).map fun j=>CPd (pd4 x i j)) (fun i=>by rw[Jf];exact zAq hn) (Jw x.zA.length);rw[Ll]at hf;have:=zAL (body:=zQd x) 0 x.zA.length 2000 (fun i=>(ups x.zA.length i).map fun j=>CPd (pd4 x i j)) out (by rw[←Lq];omega) (fun i acc hi1 hi2 hb=>by
  unfold zQd;simp only
  rw[decide_eq_true (by omega),zQ,show((i+1:Nat):Int)+1=((i+1+1:Nat):Int)from by omega,zE (by omega) (by omega),bs,zYI h hn (by omega) (by omega),bs,bs]) (fun acc=>by
  unfold zQd;simp only
  rw[decide_eq_false (by omega),zL])
 rw[←Lq]at this;exact this
theorem zYK{out:List zK}(ho:out.length≤1000):zJ (zQe x) (out,1)=some (out++(Jw x.zA.length).map fun i=>CPd (pd3 x i)):=by
 have hm:=((zAK (x:=x) (φ:=fun d=>d∈cps x)).1 fun d hd=>hd).2.2.2;have:=zAL (body:=zQe x) 0 x.zA.length 2000 (fun i=>[CPd (pd3 x i)]) out (by rw[zBS,Jf,Q6];omega) (fun i acc hi1 hi2 hb=>by
  have ho:=qS h (show i<x.zA.length by omega);unfold zQe;simp only
  have e:J1 (yI x i+1) ((i+1:Nat):Int)=enW (pd3 x i).wd:=by
   show _=enW (J1 (yI x i+1) i);simp only[enW,Q5];rfl
  rw[decide_eq_true (by omega),zQ,show((i+1:Nat):Int)-1=(i:Int)from by omega,zE (n:=(i:Int)) (by omega) (by omega),bs,ho.1,bs,show((yI x i:Nat):Int)+1=((yI x i+1:Nat):Int)from by omega,zE (n:=((yI x i+1:Nat):Int)) (by omega) (by omega),bs,zPD h (by omega),bs,e,show(1:Int)=((pd3 x i).t:Int)from rfl,zEZ h hn (hm i (by omega)) (by simp only[J7,K0]at hb;omega),bs,show((i+1:Nat):Int)+((pd3 x i).t:Int)=((i+1+1:Nat):Int)from rfl,zE (by omega) (by omega),bs]) (fun acc=>by
  unfold zQe;simp only
  rw[decide_eq_false (by omega),zL])
 rw[zBS,←Lq]at this;exact this
theorem zEh:f_e x=some ((cps x).map CPd):=by
 have hl:=zG3 (x:=x) hn;have em:(cps x).map CPd=((Jw x.zA.length).flatMap fun i=>(ups x.zA.length i).flatMap fun j=>(ups x.zA.length j).map fun k=>CPd (pd2 x i j k))++(((Jw x.zA.length).flatMap fun i=>(ups x.zA.length i).map fun j=>CPd (pd1 x i j))++(((Jw x.zA.length).flatMap fun i=>(ups x.zA.length i).map fun j=>CPd (pd4 x i j))++(Jw x.zA.length).map fun i=>CPd (pd3 x i))):=by
  simp only[cps,Lh,List.map_flatMap,List.map_map];rfl
 have hl2:((cps x).map CPd).length≤300:=by rw[Jf];exact hl
 rw[em]at hl2;simp only[J5]at hl2;unfold f_e;rw[zYF h hn,bs,zYH h hn (by omega),bs,zYJ h hn (by simp only[J5];omega),bs,zYK h hn (by simp only[J5];omega),bs,em];simp only[Ja]
end
end Go.Pl

namespace Go.Pl
open Go Go.Ab Go.Wk Go.Pc
theorem zZD:zXe=zMi:=rfl
theorem zZE:zXf=zMi:=rfl
theorem tU.get{x:SPr}:{ds:List PD}→{qs:List (Trc×Trc)}→tU x ds qs→ ∀k(h1:k<ds.length)(h2:k<qs.length),(ds[k]).B x (qs[k]).1 (qs[k]).2
 | [],[],_,k,h1,_=>by simp at h1
 |d::ds,q::qs,h,0,_,_=>h.1
 |d::ds,q::qs,h,k+1,h1,h2=>by simpa using tU.get h.2 k (by simpa using h1) (by simpa using h2)
 | [],_::_,h,_,_,_=>by simp[tU]at h
 |_::_,[],h,_,_,_=>by simp[tU]at h
theorem zPE{p:Int}{D:Nat}{m:zH}{prs:List (Trc×Trc)}{k q:Nat}(hk:k<prs.length):kX p D m (prs.take (k+1)) q=kX p D m (prs.take k) q++prR p D m (prs[k]).1 (prs[k]).2 q:=by
 simp only[kX];rw[Ka hk,Lh,Qt];simp
section
variable {x:SPr}{m:zH}{D:Nat} (hD:MOk x.zA.length m D)
 include hD
theorem zYL:zJ (zQg ⟨m.Prime,(D:Int),idM D⟩) (idM D,0)=some (gl D fun _=>mkv D fun _=>0):=by
 have h3:=hD.d3;have:=yB (body:=zQg ⟨m.Prime,(D:Int),idM D⟩) (r:=gl D fun _=>mkv D fun _=>0) (fun i=>(gl D fun a=>mkv D fun j=>if j=a then(if a<i then 0 else 1)else 0,(i:Int))) D (fun i hi=>by
  unfold zQg;simp only
  rw[uF,xV hi,zQ,zGc hi,bs,xD (by rw[yD];exact hi),bs,zE (by omega) (by omega),bs];simp only[Jg];rw[zJJ,zAo]
  congr 3
  refine zBv fun a _=>?_
  by_cases e:a=i
  ·subst e
   rw[if_pos rfl];refine zY fun j _=>?_
   by_cases e2:j=a
   ·rw[if_pos e2,if_pos e2,if_pos (by omega)]
   ·rw[if_neg e2,if_neg e2,if_neg e2]
  ·rw[if_neg e]
   refine zY fun j _=>?_
   by_cases e2:j=a
   ·rw[if_pos e2,if_pos e2]
    by_cases e3:a<i
    ·rw[if_pos e3,if_pos (by omega)]
    ·rw[if_neg e3,if_neg (by omega)]
   ·rw[if_neg e2,if_neg e2]) (by
  unfold zQg;simp only
  rw[uF,wC,zL]
  congr 2
  refine zBv fun a ha=>zY fun j _=>?_
  rw[if_pos ha];split<;>rfl)
 have e:(gl D fun a=>mkv D fun j=>if j=a then(if a<0 then(0:Int)else 1)else 0)=idM D:=zBv fun a _=>zY fun j _=>by
  by_cases e2:j=a
  ·rw[if_pos e2,if_pos e2,if_neg (by omega)]
  ·rw[if_neg e2,if_neg e2]
 rw[e]at this;exact this
theorem zYM{N:Nat}(hN:N≤100):zJ (zQh m (N:Int)) ([],0)=some (smx m.Prime D N fun _ _ _=>0):=by
 refine(zBu (body:=zQh m (N:Int)) N (fun _=>zU.mk m.Prime (D:Int) (gl D fun _=>mkv D fun _=>0)) (fun i acc hi ha=>?_) (fun acc=>?_)).trans ?_
 ·unfold zQh
  simp only
  rw[xV hi,zQ,hD.d,zD8 hD.p (by have:=hD.d3;omega),bs];simp only
  rw[zYL hD,bs,xK (by simp only[J7,K0];omega),bs,zE (by omega) (by omega),bs];rfl
 ·unfold zQh
  simp only
  rw[wC,zL]
 ·rfl
section
variable {N:Nat}{G:Nat→Nat→Nat→Int}{R:Nat→List Int}
abbrev zDB(p:Int)(D:Nat)(G:Nat→Nat→Nat→Int)(R:Nat→List Int)(k:Nat):List Int:=R k++mkv D fun j=>G (k/D) (k%D) j%p
theorem zYN(hN:N≤100)(hR:∀k,(R k).length≤100000){r:Nat}(hr:r<N){z:Mx}:
  zJ (zQi m (z,(r:Int)) ⟨m.Prime,(D:Int),gl D fun i=>mkv D fun j=>G r i j%m.Prime⟩) (gl (N*D) fun k=>if k<r*D then zDB m.Prime D G R k else R k,0)=some (gl (N*D) fun k=>if k<(r+1)*D then zDB m.Prime D G R k else R k):=by
 have h3:=hD.d3;have h1:=hD.d1;have hb:(r+1)*D≤N*D:=Km D (by omega);have hb2:N*D≤100*3:=Kj hN h3;rw[K5]at hb;have:=yB (body:=zQi m (z,(r:Int)) ⟨m.Prime,(D:Int),gl D fun i=>mkv D fun j=>G r i j%m.Prime⟩) (r:=gl (N*D) fun k=>if k<(r+1)*D then zDB m.Prime D G R k else R k) (fun i=>(gl (N*D) fun k=>if k<r*D+i then zDB m.Prime D G R k else R k,(i:Int))) D (fun i hi=>by
  obtain⟨e1,e2⟩:=sH (q:=r) hi;unfold zQi;simp only
  rw[vA,xV hi,zQ,zGc hi,bs,hD.d,←L8,zE (by omega) (by omega),bs,←Jam,zE (by omega) (by omega),bs,zGc (show r*D+i<N*D by omega),bs,if_neg (by omega),xK (by rw[yD];have:=hR (r*D+i);omega),bs,zE (by omega) (by omega),bs];simp only[Jg];rw[zJJ]
  congr 3
  refine zBv fun k _=>?_
  by_cases e:k=r*D+i
  ·subst e
   rw[if_pos rfl,if_pos (by omega),zDB,e1,e2]
  ·rw[if_neg e]
   by_cases e3:k<r*D+i
   ·rw[if_pos e3,if_pos (by omega)]
   ·rw[if_neg e3,if_neg (by omega)]) (by
  unfold zQi;simp only
  rw[vA,wC,zL,K5])
 exact this
theorem zYO(hN:N≤100)(hR:∀k,(R k).length≤100000):zJ (zMi m ⟨x,m,smx m.Prime D N G⟩) (gl (N*D) R,0)=some (gl (N*D) (zDB m.Prime D G R)):=by
 have hlen:(smx m.Prime D N G).length=N:=vA;have:=yB (body:=zMi m ⟨x,m,smx m.Prime D N G⟩) (r:=gl (N*D) (zDB m.Prime D G R)) (fun i=>(gl (N*D) fun k=>if k<i*D then zDB m.Prime D G R k else R k,(i:Int))) N (fun i hi=>by
  unfold zMi;simp only
  rw[hlen,xV hi,zQ,smx,zGc hi,bs,zYN hD hN hR hi,bs,zE (by omega) (by omega),bs];rfl) (by
  unfold zMi;simp only
  rw[hlen,wC,zL]
  congr 2
  exact zBv fun k hk=>by rw[if_pos hk])
 simp only[Hm,Uk,if_false]at this;exact this
end
end
theorem zYP{x:SPr}(h:Pres x):∀d∈cps x,2≤d.wd.length∧((d.wd.getD 0 0=d.wd.getD 1 0∧d.wd.getD (d.wd.length-1) 0≠d.wd.getD 0 0∧d.t=d.wd.length-2)∨(d.wd.getD 0 0=d.wd.getD 1 0∧d.wd.getD (d.wd.length-1) 0=d.wd.getD 0 0∧d.t=1)∨(d.wd.getD 0 0≠d.wd.getD 1 0∧d.t=1)):=by
 refine zAK.2 ⟨fun i j k h1 h2 h3=>?_,fun i j h1 h2=>?_,fun i j h1 h2=>?_,fun i h1=>?_⟩
 ·refine⟨by simp[pd2],.inr (.inr ⟨?_,rfl⟩)⟩
  show k≠j;omega
 ·have o:=(qS h h2).2
  obtain⟨q,hq⟩:∃q,yI x j=q+2:=⟨yI x j-2,by omega⟩;simp only[pd1,hq,J5,Ji,J7,K0];refine⟨by omega,.inl ⟨rfl,?_,by omega⟩⟩;have:(J1 (q+2) j++[i]).getD (q+2+(0+1)-1) 0=i:=by
   rw[J2,J8 (by simp)];simp
  rw[this];show i≠j;omega
 ·have o:=(qS h (show i<x.zA.length by omega)).2
  obtain⟨q,hq⟩:∃q,yI x i=q+2:=⟨yI x i-2,by omega⟩;simp only[pd4,hq,Ji,J7];refine⟨by omega,.inr (.inr ⟨?_,trivial⟩)⟩;show j≠i;omega
 ·have o:=(qS h h1).2
  obtain⟨q,hq⟩:∃q,yI x i=q+2:=⟨yI x i-2,by omega⟩;simp only[pd3,hq,Ji];refine⟨by omega,.inr (.inl ⟨rfl,?_,trivial⟩)⟩;have:(J1 (q+2+1) i).getD (q+2+1-1) 0=i:=by
   rw[J2];simp
  rw[this];rfl
section
variable {x:SPr}{m:zH}{D:Nat} (h:Pres x) (hn:x.zA.length≤6) (hD:MOk x.zA.length m D)
 include h hn hD
theorem zUj{prs:List (Trc×Trc)}(hq:tU x (cps x) prs){k:Nat}(hk:k<(cps x).length){N:Nat}(hN:N=base x.zA.length x.zA.length):
  zQj x m (N:Int) ((cps x).map CPd) (gl (N*D) (fun q=>kX m.Prime D m (prs.take k) q),(k:Int))=some (.inl (gl (N*D) (fun q=>kX m.Prime D m (prs.take (k+1)) q),((k+1:Nat):Int))):=by
 subst hN;have hl:=hq.len;have hd:=Kd hk;have hk2:k<prs.length:=by omega
 have hbb:=uG x.zA.length (by omega);have h3:=hD.d3;have h1:=hD.d1;have hcl:=zG3 (x:=x) hn;have hpr:=zPB h hn hD hd (hq.get k hk hk2) (fun _ _ _=>0);obtain⟨w2,ht⟩:=zYP h _ hd;have hlw:=(zKj h hn _ hd).l;have htl:=(zKj h hn _ hd).ht;have hR:∀q,(kX m.Prime D m (prs.take k) q).length≤100000:=fun q=>by
  rw[zHY,Jy];have:min k prs.length*D≤300*3:=Kj (by omega) h3;omega
 have hrows:=zYO (x:=x) (G:=zDy m D (-1) (zDy m D 1 (fun _ _ _=>0) (prs[k]).1) (prs[k]).2) hD (show base x.zA.length x.zA.length≤100 by omega) hR;have erow:gl (base x.zA.length x.zA.length*D) (zDB m.Prime D (zDy m D (-1) (zDy m D 1 (fun _ _ _=>0) (prs[k]).1) (prs[k]).2) (fun q=>kX m.Prime D m (prs.take k) q))=gl (base x.zA.length x.zA.length*D) fun q=>kX m.Prime D m (prs.take (k+1)) q:=zBv fun q _=>by
  have hm:q%D<D:=U6 _ (by omega);rw[zPE hk2,zDB,zSg hm rfl,show q/D*D+q%D=q from by rw[Hu];exact Ge q D]
 rw[erow]at hrows;have hix:ixO ((cps x).map CPd) (k:Int)=some (CPd (cps x)[k]):=by
  rw[kD (by rw[Jf];exact hk)];simp
 generalize (cps x)[k]=d at*
 have key:∀K:xM→Option ((Mx×Int)⊕Mx),((f_k ⟨x,m,smx m.Prime D (base x.zA.length x.zA.length) fun _ _ _=>0⟩ (enW d.wd) 0 1).bind fun r=>(f_q r.2 r.1 1).bind fun k2=>(f_k k2 (enW d.wd) (d.t:Int) (-1)).bind fun r3=>(f_q r3.2 r3.1 (-1)).bind K)=K ⟨x,m,smx m.Prime D (base x.zA.length x.zA.length) (zDy m D (-1) (zDy m D 1 (fun _ _ _=>0) (prs[k]).1) (prs[k]).2)⟩:=fun K=>by
  have e:=congrArg (fun o=>G9 o K) hpr;simp only[Option.bind_assoc,bs]at e;exact e
 unfold zQj;simp only
 rw[Jf,xV hk,zQ,hix,bs,zYM hD (by omega),bs];simp only[CPd];have i0:=tQ (w:=d.wd) (t:=0) (by omega);have i1:=tQ (w:=d.wd) (t:=1) (by omega);have il:=tQ (w:=d.wd) (t:=d.wd.length-1) (by omega);rw[show((0:Nat):Int)=0 from rfl]at i0;rw[show((1:Nat):Int)=1 from rfl]at i1;rw[i0,bs,i1,bs,Jf];rcases ht with⟨t1,t2,t3⟩|⟨t1,t2,t3⟩|⟨t1,t3⟩
 ·rw[show((((d.wd.getD 0 0:Nat):Int)+1)==(((d.wd.getD 1 0:Nat):Int)+1))=true from by rw[t1];exact beq_self_eq_true _,zQ,zE (by omega) (by omega),bs,show(d.wd.length:Int)-1=((d.wd.length-1:Nat):Int)from by omega,il,bs,show((((d.wd.getD (d.wd.length-1) 0:Nat):Int)+1) != (((d.wd.getD 0 0:Nat):Int)+1))=true from by rw[bne_iff_ne];omega,zQ,zE (by omega) (by omega),bs,show(d.wd.length:Int)-2=(d.t:Int)from by omega,key,hrows,bs,zE (by omega) (by omega),bs]
  rfl
 ·rw[show((((d.wd.getD 0 0:Nat):Int)+1)==(((d.wd.getD 1 0:Nat):Int)+1))=true from by rw[t1];exact beq_self_eq_true _,zQ,zE (by omega) (by omega),bs,show(d.wd.length:Int)-1=((d.wd.length-1:Nat):Int)from by omega,il,bs,show((((d.wd.getD (d.wd.length-1) 0:Nat):Int)+1) != (((d.wd.getD 0 0:Nat):Int)+1))=false from by rw[t2];exact bne_self_eq_false _,zL]
  rw[t3]at key;rw[show(1:Int)=((1:Nat):Int)from rfl]at*
  rw[key,zZD,hrows,bs,zE (by omega) (by omega),bs];rfl
 ·rw[show((((d.wd.getD 0 0:Nat):Int)+1)==(((d.wd.getD 1 0:Nat):Int)+1))=false from by rw[beq_eq_false_iff_ne];omega,zL]
  rw[t3]at key;rw[show(1:Int)=((1:Nat):Int)from rfl]at*
  rw[key,zZE,hrows,bs,zE (by omega) (by omega),bs];rfl
end
end Go.Pl

namespace Go.Pl
open Go Go.Ab Go.Wk Go.Pc
section
variable {x:SPr}{m:zH}{D:Nat} (hx:zFY x) (hD:MOk x.zA.length m D)
 include hx hD
theorem zIt(hc:wR (suf x 0))(hr:zDZ x m D):∃K pk,f_m x m=some K∧f_f x m=some K∧Red m.Prime (base x.zA.length x.zA.length*D) K pk:=by
 have h6:=hx.n6;have h3:=hD.d3;have h1:=hD.d1;have hbb:=uG x.zA.length (by omega);have hbD:base x.zA.length x.zA.length*D≤21*3:=Kj hbb.2.1 h3;obtain⟨prs,hq⟩:=zWP hx hD;have hl:=hq.len;have hcl:=zG3 (x:=x) h6;have hloop:=yB (body:=zQj x m ((base x.zA.length x.zA.length:Nat):Int) ((cps x).map CPd)) (r:=gl (base x.zA.length x.zA.length*D) (fun q=>kX m.Prime D m prs q)) (fun k=>(gl (base x.zA.length x.zA.length*D) (fun q=>kX m.Prime D m (prs.take k) q),(k:Int))) (cps x).length (fun k hk=>zUj hx.toPres h6 hD hq hk rfl) (by
  unfold zQj;simp only
  rw[Jf,wC,zL,hl,Lx])
 have e0:gl (base x.zA.length x.zA.length*D) (fun q=>kX m.Prime D m (prs.take 0) q)=J1 (base x.zA.length x.zA.length*D) ([]:List Int):=by
  simp only[K8,kX,Hk,Ho];rw[List.eq_replicate_iff];exact⟨vA,fun b hb=>by obtain⟨i,_,rfl⟩:=Jo.1 hb;rfl⟩
 rw[e0]at hloop;have hpre:f_f x m=cond (decide (((gl (base x.zA.length x.zA.length*D) (fun q=>kX m.Prime D m prs q)).length:Int)> 0)) (
   (ixO (gl (base x.zA.length x.zA.length*D) (fun q=>kX m.Prime D m prs q)) 0).bind fun v32=>(f_F m.Prime (gl (base x.zA.length x.zA.length*D) (fun q=>kX m.Prime D m prs q)) (v32.length:Int)).bind fun r33=>some r33) (
   (f_F m.Prime (gl (base x.zA.length x.zA.length*D) (fun q=>kX m.Prime D m prs q)) 0).bind fun r34=>some r34):=by
  unfold f_f;rw[zMX rfl h6,bs,hD.d,←L8,zE (by omega) (by omega),bs,wJ (by omega),bs,zEh hx.toPres h6,bs];rw[show((0:Nat):Int)=0 from rfl]at hloop;rw[hloop,bs]
 rcases Ua x.zA.length with h0|h0
 ·obtain⟨K,pk,k1,k2,k3⟩:=zNi h0 hD
  refine⟨K,pk,k1,?_,?_⟩
  ·rw[hpre,h0,show base 0 0=0 from rfl,Hm]
   simp only[gl,Ja4,Hk,K0];rw[show decide (((0:Nat):Int)> 0)=false from rfl,zL,k2,bs]
  ·rw[h0,show base 0 0=0 from rfl,Hm];exact k3
 ·obtain⟨K,pk,k1,k2,_⟩:=zGf hx hD h0 hc hr
  obtain⟨K2,j1,j2⟩:=zLN hx hD h0 hc hr hq;rw[k1]at j1;cases j1;refine⟨K,pk,k1,?_,k2⟩;have hpos:0<base x.zA.length x.zA.length*D:=Jc3 (by omega) h1;rw[hpre,vA,decide_eq_true (by omega),zQ,show(0:Int)=((0:Nat):Int)from rfl,zGc hpos,bs,zHY,j2,bs]
end
theorem zEi{x:SPr}{m:zH}(hx:zD5 x)(hm:zIk m):∃g k,zTq x m=some (g,k)∧zQk x m=some (g,k)∧S2 g:=by
 have hl:x.zA.length≤1048576:=hx.1;have hml:=S3.len hm;have hnil:S2 ([]:Mx):=by simp[S2,c2,sm]
 unfold zTq zQk;rcases(zIp (m:=m) hl).both (zIq (m:=m) hl hml)with⟨s1,i1,hM⟩|⟨s1,i1,hM⟩
 ·obtain⟨hc,D,hD,hr⟩:=hM
  have hbb:=uG x.zA.length (by have:=hc.2.2.n6;omega);have hbD:base x.zA.length x.zA.length*D≤21*3:=Kj hbb.2.1 hD.d3;obtain⟨K,pk,k1,k2,k3⟩:=zIt hc.2.2 hD hc.2.1 hr;simp only[s1,i1,bs,K9,zL];rw[k1,k2];simp only[bs];exact⟨_,_,rfl,rfl,k3.small (by omega)⟩
 ·simp only[s1,i1,bs,Kn,zQ]
  exact⟨_,_,rfl,rfl,hnil⟩
theorem zFF(x0:SPr)(x1:zH)(v0:zOi x0)(v1:zTL x1)
  (h:zD5 x0→zIk x1→ ∃g k,zTq x0 x1=some (g,k)∧zQk x0 x1=some (g,k)∧S2 g):zUO x0 x1=some true:=by
 unfold zUO;rw[zHu v0 (by decide) (by decide),bs];rcases zOj (c:=zLb x0) (b:=1048576) (by decide) (by decide)with e|⟨e,a0,b0,w0⟩<;>rw[e]
 ·rfl
 rw[zL,zRo v1 a0 b0,bs];rcases zOj (c:=zRn x1) a0 b0 with e|⟨e,a1,b1,w1⟩<;>rw[e]
 ·rfl
 have s0:zD5 x0:=zD5.of w0;have s1:zIk x1:=zIk.of w1;obtain⟨g,k,hs,hi,sg⟩:=h s0 s1;have t0:=zOw s0;have q1:=zM7 (x:=x1.zF);have w1':=w1;simp only[zRn]at w1';have qg:=zM6 (x:=g);have sg':=sg;simp only[S2]at sg';rw[zL,zHv s0,bs,zRp s1,bs];simp only[bs];rw[hs,bs,hi,bs];simp only
 rw[zDc sg,bs];simp only[beq_self_eq_true,K9,zL,bne_self_eq_false];rw[zHw s0,bs,K9,zL,zRq s1,bs,K9,zL,zDv s0 (by decide) (by decide),bs];simp only
 rw[zM8 s1 (by omega) (by omega),bs];simp only
 rw[decide_eq_false (by omega),zL,bs,K9,zL];rw[zC2 sg (by decide) (by omega),bs];simp only
 rw[zLa sg (by decide) (by omega),bs,decide_eq_false (by omega),zL,bne_self_eq_false,zL,bs];simp only
 rw[zDc sg,bs,beq_self_eq_true,K9,zL,bne_self_eq_false,zL,bs,decide_eq_false (by omega),zL,bne_self_eq_false,zL]
theorem zEj(x0:SPr)(x1:zH)(v0:zOi x0)(v1:zTL x1):zUO x0 x1=some true:=
 zFF x0 x1 v0 v1 zEi
end Go.Pl
