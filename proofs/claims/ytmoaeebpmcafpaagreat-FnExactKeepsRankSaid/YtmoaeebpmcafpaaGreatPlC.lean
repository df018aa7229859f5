/- The program's KeepsRank returns what the reference's returns,for all arguments;no conditions. -/
import Derived.Test.YtmoaeebpmcafpaaGreatPlB
import Derived.Test.YtmoaeebpmcafpaaGreatWF
open List renaming replicate→J1,getD_eq_getElem?_getD→J2,getElem?_eq_getElem→J3,length_append→J5,length_cons→J7,mem_cons→J9,getElem?_append_right→Ja,length_replicate→Jb,mem_append→Jd,append_nil→Je,append_assoc→Jf,range→Jg,length_map→Ji,mem_map→Jl,map_cons→Jn,take_left'→Jp,length_nil→Jq,take_of_length_le→Jt,replicate_succ→Ju,nil_append→Jv,getElem?_append_left→Jx,take_succ_eq_append_getElem→Jz,drop_left'→K0,length_drop→K3,getElem?_map→K5,cons_append→K6,getElem_mem→K8,eq_of_mem_replicate→K9,take_zero→Ka,length_take→Kc,mem_iff_getElem→Ke,getElem?_replicate→Kf,all_eq_true→Ki,reverse_reverse→Km,mem_range→Kn,flatten_cons→Ku,range'→Kx,map_append→L8,length_range→Le,range_eq_range'→Lm,flatMap_cons→Lo,mem_flatMap→Lr,replicate_succ'→Lw,drop_eq_nil_of_le→Ly,replicate_zero→H2,getElem?_drop→Hi,mem_append_right→Hu,flatten_nil→G1,drop_zero→Ge,mem_cons_of_mem→Gi,getD_cons_zero→Gu,map_nil→U2,flatMap_append→U4,ext_getElem→U7,mem_append_left→Ud,drop_eq_getElem_cons→Uk,reverse_cons→Ul,mem_of_mem_drop→Us,getElem_range→Ut,not_mem_nil→Q5,map_congr_left→Qd,getElem?_replicate_of_lt→Qm,head?_cons→Qn,take_length→Ja1,map_map→Jah,length_reverse→Jan,length_range'→Jas,mem_of_mem_head?→Jaz,map_take→Jb9,findSome?_cons→Jbf,drop_drop→Jbi,mem_reverse→Jbx,getElem_map→Jby,getD_cons_succ→Jc9,getElem?_take→Jcd,map_drop→Jcl,range'_succ→Jcw
open Int renaming toNat_natCast→J8,mul_emod→Jw,emod_eq_of_lt→Jy,emod_emod→K7,add_emod→Kh,emod_lt_of_pos→Kk,mul_zero→Kw,emod_nonneg→L4,natCast_mul→Ld,mul_one→Lz,add_zero→H0,mul_le_mul_of_nonneg_left→H7,natCast_add→Hr,mul_assoc→Hy,add_emod_right→Uu,zero_mul→Q8,sub_emod→Qk,mul_add→Qt,lt_trichotomy→Jcb,emod_add_emod→Jcc,toNat_of_nonneg→Jcx
open Nat renaming zero_add→Jc,le_refl→Jh,lt_or_ge→Jj,mul_le_mul→Jr,succ_mul→K1,mul_le_mul_right→Kb,zero_le→Kg,div_add_mod→Lg,div_lt_iff_lt_mul→Lt,add_sub_cancel_left→H1,mul_comm→Hh,mod_lt→Hk,mul_one→Ht,zero_mul→Hz,eq_zero_or_pos→Gv,sub_zero→Ui,not_lt_zero→Qf,add_sub_cancel→Jax,mul_pos→Jbh,lt_irrefl→Jbk,mul_zero→Jc8
open Bool renaming not_true→Jo,not_false→Kd,false_eq_true→Hx
open Option renaming some→Lu,map_some→H3,bind→Hw,isSome_none→Ur,getD_some→Qc
open Prod renaming mk→Jal
open Option renaming some→iG,none→iH
open Bool renaming true→iI,false→iJ
namespace Go.Pl
open Go Go.Ab Go.Wk Go.Pc
section
variable {D D2:Nat}{x:SPr}{m m2:zB}{T T2:Mx}{φ:Vec→Vec} (h:Pres x) (hE:ExB x.zA.length D x m T) (hT:∀i,i<T.length→Row m.Prime D (T.getD i [])) (gN:ExB x.zA.length D2 x m2 T2) (gT:∀i,i<T2.length→Row m2.Prime D2 (T2.getD i [])) (hF:Fh x.zA.length D D2 m m2 T T2 φ)
 include h hE hT gN gT hF
theorem zYe{k:Nat}(hk:k<x.zA.length){c:Vec}(hc:V (suf (exx D x m T) (k+1)) c):∀q,Fm φ (x.zA.length-(k+1)) (pw (mul (suf (exx D x m T) (k+1))) (zeros (suf (exx D x m T) (k+1)).length) c q)=pw (mul (suf (exx D2 x m2 T2) (k+1))) (zeros (suf (exx D2 x m2 T2) (k+1)).length) (Fm φ (x.zA.length-(k+1)) c) q
 |0=>yB8 h hE hT gN gT hF (by omega)
 |q+1=>by have ok:=uG h hE hT (k:=k+1) (by omega);have hq:V (suf (exx D x m T) (k+1)) (pw (mul (suf (exx D x m T) (k+1))) (zeros (suf (exx D x m T) (k+1)).length) c q):=vR (fun w hw=>xH ok hw hc) q (wS ok);have ih:=zYe hk hc q;rw[pw,vH,pw,vH];show Fm φ _ (mul _ (pw _ _ c q) c)=mul _ (pw _ _ (Fm φ _ c) q) (Fm φ _ c);rw[zO7 h hE hT gN gT hF _ (k+1) (by omega:k+1+(x.zA.length-(k+1))=x.zA.length) _ _ hq hc,ih]
theorem zZ4{k j:Nat}(hk:k≤j)(hj:j<x.zA.length):V (suf (exx D x m T) (k+1)) (((exx D x m T).zS.getD j []).drop (k+1))∧Fm φ (x.zA.length-(k+1)) (((exx D x m T).zS.getD j []).drop (k+1))=((exx D2 x m2 T2).zS.getD j []).drop (k+1):=by have hn:=hE.hn;have hb:=wT x.zA.length (by omega);have hpx:V (suf x (k+1)) ((x.zS.getD j []).drop (k+1)):=jZ (zKX (qK h hj) hk) (by omega);rw[zEu h hE hT hk hj,zEu h gN gT hk hj];exact⟨zDA h hE hT (by omega) hpx (zCh h hE hT hj),by rw[zAL (vD h (by omega) hpx),hF.t _ (by omega)]⟩
theorem zZ5{k i j:Nat}(hk:k≤i)(hi:i<j)(hj:j<x.zA.length):V (suf (exx D x m T) (k+1)) ((((exx D x m T).zG.getD i []).getD (j-(i+1)) []).drop (k+1))∧Fm φ (x.zA.length-(k+1)) ((((exx D x m T).zG.getD i []).getD (j-(i+1)) []).drop (k+1))=(((exx D2 x m2 T2).zG.getD i []).getD (j-(i+1)) []).drop (k+1):=by have hn:=hE.hn;have hb:=zAX x.zA.length (by omega) i (by omega);have bX:V (suf x (k+1)) ((lcj x i j).drop (k+1)):=jZ (zKX (uB h hi hj) hk) (by omega);rw[zGg h hE hT hk hi hj,zGg h gN gT hk hi hj];exact⟨zDA h hE hT (by omega) bX (zDQ h hE hT hi hj),by rw[zAL (vD h (by omega) bX),hF.t _ (by omega)]⟩
theorem zW8{k j:Nat}(h1:k+1≤j)(h2:j<x.zA.length):Fm φ (x.zA.length-(k+1)) (xM ((exx D x m T).zA.length-(k+1)) (j-(k+1)))=xM ((exx D2 x m2 T2).zA.length-(k+1)) (j-(k+1)):=by rw[zRl h hE hT h1 h2,zRl h gN gT h1 h2,zAL (by simp[xM,zeros]),hF.z]
theorem zQm{k:Nat}(hk:k<x.zA.length):LCQ (fun k a b=>Fm φ (x.zA.length-k) a=Fm φ (x.zA.length-k) b) x (exx D x m T) k↔LCn x (exx D2 x m2 T2) k:=by
 have hl:=wF h hE hT;have ok:=uG h hE hT (k:=k+1) (by omega);have p5:=zO7 h hE hT gN gT hF _ (k+1) (by omega:k+1+(x.zA.length-(k+1))=x.zA.length);have eu:=fun v hv=>zTM h hE hT gN gT hF hk p5 (v:=v) hv
 have fW:=zRm h hE hT hk;have e1:∀j,k+1≤j→j<x.zA.length→(c1Q (fun k a b=>Fm φ (x.zA.length-k) a=Fm φ (x.zA.length-k) b) (exx D x m T) k j↔c1E (exx D2 x m2 T2) k j):=fun j h1 h2=>by obtain⟨p1,p2⟩:=zZ4 h hE hT gN gT hF (k:=k) (j:=j) (by omega) h2;unfold c1Q c1E;show Fm φ _ _=Fm φ _ _↔_;rw[zYe h hE hT gN gT hF hk (zMS h hE hT hk h1 h2),zQl h hE hT gN gT hF h1 h2,eu _ p1,p2,tF h hE hT h2,tF h gN gT h2]
 have e2:∀i j,k+1≤i→i<j→j<x.zA.length→(c2Q (fun k a b=>Fm φ (x.zA.length-k) a=Fm φ (x.zA.length-k) b) (exx D x m T) k i j↔c2E (exx D2 x m2 T2) k i j):=fun i j h1 gO h2=>by obtain⟨p1,p2⟩:=zZ5 h hE hT gN gT hF (k:=k) (by omega) gO h2;have ci:=zMS h hE hT hk h1 (show i<x.zA.length by omega);have cj:=zMS h hE hT hk (show k+1≤j by omega) h2;unfold c2Q c2E;show Fm φ _ _=Fm φ _ _↔_;rw[p5 _ _ cj ci,p5 _ _ ci (zAK h hE hT hk p1),zQl h hE hT gN gT hF h1 (by omega),zQl h hE hT gN gT hF (by omega) h2,eu _ p1,p2]
 have e3:Fm φ (x.zA.length-(k+1)) (sig (suf (exx D x m T) (k+1)) (lvl (exx D x m T) k) (lvl (exx D x m T) k).w)=Fm φ (x.zA.length-(k+1)) (lvl (exx D x m T) k).w↔sig (suf (exx D2 x m2 T2) (k+1)) (lvl (exx D2 x m2 T2) k) (lvl (exx D2 x m2 T2) k).w=(lvl (exx D2 x m2 T2) k).w:=by rw[eu _ fW,zZ3 h hE hT gN gT hF hk]
 have e4:∀j,k+1≤j→j<x.zA.length→(c4Q (fun k a b=>Fm φ (x.zA.length-k) a=Fm φ (x.zA.length-k) b) (exx D x m T) k j↔c4E (exx D2 x m2 T2) k j):=fun j h1 h2=>by have hg:=zDb h hE hT h1 h2;unfold c4Q c4E;show Fm φ _ _=Fm φ _ _↔_;rw[p5 _ _ fW (zO6 h hE hT hk _ hg),p5 _ _ hg fW,zKZ h hE hT gN gT hF hk p5 _ hg,zW8 h hE hT gN gT hF h1 h2,zZ3 h hE hT gN gT hF hk,zBB h hE hT hk,zBB h gN gT hk]
 constructor
 ·intro g
  exact⟨fun j h1 h2=>(e1 j h1 h2).1 (g.c1 j h1 h2),fun i h1 hi j gO h2=>(e2 i j h1 (by omega) h2).1 (g.c2 i h1 hi j gO h2),e3.1 g.c3,fun j h1 h2=>(e4 j h1 h2).1 (g.c4 j h1 h2)⟩
 ·intro g
  exact⟨fun j h1 h2=>(e1 j h1 h2).2 (g.c1 j h1 h2),fun i h1 hi j gO h2=>(e2 i j h1 (by omega) h2).2 (g.c2 i h1 hi j gO h2),e3.2 g.c3,fun j h1 h2=>(e4 j h1 h2).2 (g.c4 j h1 h2)⟩
theorem zTN{m0:zB}(hM:Mv D x.zA.length m0 m)(hx:wO (suf x 0))(hr:zCv x m2 D2):∃L,f_O ⟨x,m0,T⟩=iG L∧L.length≤1000∧(∀r∈L,Row m.Prime D r)∧((∀r∈L,φ r=zeros D2)↔wO (suf (exx D2 x m2 T2) 0)):=by
 have hp:=hE.m.p.pos;have ax:=gN.m.p.pos;obtain⟨L,e,g⟩:=zTC h hE hT hM (Z:=fun r=>φ r=zeros D2) (Q:=fun k a b=>Fm φ (x.zA.length-k) a=Fm φ (x.zA.length-k) b) (fun k hk a b ha hb e=>by
  obtain⟨y,u,rfl,hy,hu,_,e7⟩:=prV h hE hT hk ha;obtain⟨z,v,rfl,hz,hv,_,pW⟩:=prV h hE hT hk hb;rw[Jp e7,Jp pW]at e;subst e;rw[K0 e7,K0 e7,zAL e7,zAL e7,List.append_cancel_left_eq];have ha:=zAf (p:=m.Prime) (D:=D) (r:=u) (s:=v) (k:=-1) hE.m.p;have hs:adv m.Prime D (vW m.Prime D u (-1) v) v=u:=by refine Eq.trans (zZ (g:=fun j=>at0 u j) fun j hj=>?_) (vC hu.1).symm;have hr:=hu.2 j hj;rw[vW,yB hj,Jcc,show at0 u j+ -1*at0 v j+at0 v j=at0 u j from by omega,Jy (by omega) (by omega)]
  have hφ:=hF.add _ _ ha hv;rw[hs]at hφ;have hra:=hF.row _ ha;have hrv:=hF.row _ hv;constructor
  ·intro g
   rw[hφ,g,vZ hrv]
  ·intro g
   rw[hφ,tN]at g;have:=(zWx (u:=φ v) hra (xQ (p:=m.Prime) (D:=D2) (by omega))).1 (by rw[g,zAI hrv]);exact this) hx
 refine⟨L,e,g.len,g.row,g.iff.trans ?_⟩;rw[zKM h gN gT hr];exact⟨fun a k hk=>(zQm h hE hT gN gT hF hk).1 (a k hk),fun a k hk=>(zQm h hE hT gN gT hF hk).2 (a k hk)⟩
end
end Go.Pl

namespace Go.Pl
open Go Go.Ab Go.Wk Go.Pc
theorem zFt{D:Nat}{f:Nat→Int}:∀B:Nat,S (B*D) f=S B fun q=>S D fun l=>f (q*D+l)
 |0=>by rw[Hz];rfl
 |B+1=>by rw[K1,zGV,zFt B];rfl
def blk(D:Nat)(w:Vec)(q:Nat):Vec:=mkv D fun j=>at0 w (q*D+j)
theorem kN{D B q l:Nat}(hq:q<B)(hl:l<D):q*D+l<B*D:=by have:=Kb D (show q+1≤B by omega);rw[K1]at this;omega
theorem zQn{p:Int}{D B:Nat}{w:Vec}(hw:Row p (B*D) w){q:Nat}(hq:q<B):Row p D (blk D w q):=
 ⟨zY _ _,fun j hj=>by rw[blk,yB hj];exact hw.2 _ (kN hq hj)⟩
theorem vL{D q l:Nat}(hl:l<D):(q*D+l)/D=q∧(q*D+l)%D=l:=by
 have hD:0<D:=by omega
 constructor
 ·rw[Hh,Nat.mul_add_div hD,Nat.div_eq_of_lt hl];rfl
 ·rw[Hh,Nat.mul_add_mod,Nat.mod_eq_of_lt hl]
def ABk(B D:Nat)(A:Mx):Mx:=gl (B*D) fun i=>mkv (B*D) fun j=>if i/D=j/D then ent A (i%D) (j%D)else 0
theorem zQo{B D:Nat}{A:Mx}{i j:Nat}(hi:i<B*D)(hj:j<B*D):ent (ABk B D A) i j=if i/D=j/D then ent A (i%D) (j%D)else 0:=by show at0 ((gl (B*D) _).getD i []) j=_;rw[xN hi,yB hj]
theorem zW9{p:Int}{B D:Nat}{A:Mx}(hp:2≤p)(hD:0<D)(hA:Mat p D A):Mat p (B*D) (ABk B D A):=by
 refine⟨wN,fun i hi=>?_⟩;rw[ABk,xN hi];refine⟨zY _ _,fun j hj=>?_⟩;rw[yB hj];split
 ·exact(hA.2 (i%D) (Hk _ hD)).2 _ (Hk _ hD)
 ·omega
theorem zMU{p:Int}{B D:Nat}{u:Vec}{A:Mx}{q l:Nat}(hq:q<B)(hl:l<D):at0 (xY p (B*D) u (ABk B D A)) (q*D+l)=S D (fun i=>at0 u (q*D+i)*ent A i l)%p:=by
 rw[xY,yB (kN hq hl),zFt]
 congr 1
 rw[jR (k:=q) hq fun i hi gf=>?_]
 ·refine xI fun i hi=>?_
  rw[zQo (kN hq hi) (kN hq hl),(vL hi).1,(vL hi).2,(vL hl).1,(vL hl).2,if_pos rfl]
 ·rw[xI (g:=fun _=>0) fun j hj=>?_,sY]
  rw[zQo (kN hi hj) (kN hq hl),(vL hj).1,(vL hl).1,if_neg gf,Kw]
theorem zWA{p:Int}{B D:Nat}{u:Vec}{A:Mx}{q:Nat}(hq:q<B):blk D (xY p (B*D) u (ABk B D A)) q=xY p D (blk D u q) A:=by
 refine zZ fun l hl=>?_
 rw[zMU hq hl]
 congr 1
 exact xI fun i hi=>by rw[blk,yB hi]
theorem zMV{D B:Nat}{w:Vec}(hw:w.length=B*D){q:Nat}(hq:q<B):(w.drop (q*D)).take D=blk D w q:=by
 have h1:=Kb D (show q+1≤B by omega);rw[K1]at h1;apply U7
 ·rw[Kc,K3,blk,zY];omega
 ·intro i a b
  rw[Kc,K3]at a;rw[List.getElem_take,List.getElem_drop];simp only[blk,mkv,Jby,Ut,at0];rw[J2,J3 (by omega)];rfl
theorem zTO{D B:Nat}{w:Vec}(hw:w.length=B*D){q:Nat}(hq:q<B):w.take (q*D)++blk D w q=w.take ((q+1)*D):=by rw[←zMV hw hq,K1,List.take_add]
def mBk(B D n:Nat)(m:zB):zB:=⟨m.Prime,((B*D:Nat):Int),(Jg n).map fun k=>ABk B D (m.zF.getD k [])⟩
theorem zLa{B D n:Nat}{m:zB}{k:Nat}(hk:k<n):(mBk B D n m).zF.getD k []=ABk B D (m.zF.getD k []):=by simp[mBk,J2,hk]
theorem zZ6{B D n:Nat}{m:zB}(hm:MOk n m D)(hB:1≤B)(h2:B*D≤200):zTi n (mBk B D n m) (B*D):=by have h1:=hm.d1;have hp:=hm.p.pos;refine⟨hm.p,Jbh (by omega) (by omega),h2,by simp[mBk],fun i hi=>?_⟩;rw[zLa hi];exact zW9 (by show 2≤m.Prime;omega) (by omega) (hm.mat i hi)
theorem zZ7{B D n:Nat}{m:zB}(hm:MOk n m D)(h2:B*D≤200):Mv (B*D) n m (mBk B D n m):=by
 refine⟨rfl,fun k hk u hu=>?_⟩;have h1:=hm.d1;have h3:=hm.d3;have eY:=hu.1;have uz:=hm.len;have hA:=hm.mat k hk;rw[zLa hk];have hR:(xY m.Prime (B*D) u (ABk B D (m.zF.getD k []))).length=B*D:=by rw[xY,zY]
 unfold f_W;have:=zX (body:=zLq m u (k:Int)) (r:=xY m.Prime (B*D) u (ABk B D (m.zF.getD k []))) (fun i=>((xY m.Prime (B*D) u (ABk B D (m.zF.getD k []))).take (i*D),((i*D:Nat):Int))) B (fun i hi=>by
  have gQ:=Kb D (show i+1≤B by omega);rw[K1]at gQ;unfold zLq;simp only
  rw[iM (by omega),zK,hm.d,zC (by omega) (by omega),bs];have p8:yD u ((i*D:Nat):Int) (((i*D:Nat):Int)+(D:Int))=iG (blk D u i):=by
   unfold yD;rw[if_pos ⟨by omega,by omega,by omega⟩]
   congr 1
   rw[show(((i*D:Nat):Int)+(D:Int)).toNat=i*D+D from by omega,J8,H1];exact zMV eY hi
  rw[p8,bs,yO [] (by omega),bs,zBY hm.p (by omega) (zQn hu hi) hA,bs,←zWA (B:=B) hi,yI (by rw[Kc,blk,zY];omega),bs,zTO hR hi,bs,K1];rfl) (by
  unfold zLq;simp only
  rw[iL (by omega),zM,Jt (by omega)])
 rw[Hz,Ka]at this;rw[show((0:Nat):Int)=0 from rfl]at this;rw[this,bs];rfl
def phi(p:Int)(B D:Nat)(c w:Vec):Vec:=mkv D fun j=>S B (fun q=>at0 c q*at0 w (q*D+j))%p
theorem zWB{p:Int}{B D:Nat}{c w:Vec}(hp:2≤p):Row p D (phi p B D c w):=⟨zY _ _,fun j hj=>by rw[phi,yB hj];exact⟨L4 _ (show p≠0 by omega),by have:=Kk (S B fun q=>at0 c q*at0 w (q*D+j)) (show 0<p by omega);omega⟩⟩
def Tc(N D:Nat)(c:Vec):Mx:=gl N fun i=>blk D c i
theorem zZ8{n B D N:Nat}{m:zB}{TB:Mx}{c:Vec}(hm:MOk n m D)(hN:B=N*D)(hb:base n n=N)(hc:Row m.Prime B c)(ht:∀i,i<N→TB.getD i []=mkv (B*D) fun j=>if j/D=i*D+j%D then 1 else 0):Fh n (B*D) D (mBk B D n m) m TB (Tc N D c) (phi m.Prime B D c):=by
 have hp:=hm.p.pos;have h1:=hm.d1;refine⟨rfl,fun u _=>zWB (by show 2≤m.Prime;omega),?_,fun u v hu hv=>?_,fun k hk u hu=>?_,fun r hr=>?_⟩
 ·rw[show zeros D=mkv D fun _=>0 from uA D]
  refine zZ fun j hj=>?_
  rw[xI (g:=fun _=>0) fun q hq=>by rw[uQ,Kw],sY];simp
 ·refine zZ fun j hj=>?_
  rw[phi,phi,yB hj,yB hj];show _%m.Prime=(_%m.Prime+_%m.Prime)%m.Prime;rw[←Kh,←zCT];refine zAe fun q hq=>?_
  rw[yB (kN hq hj),←Qt];show(at0 c q*((at0 u (q*D+j)+at0 v (q*D+j))%m.Prime))%m.Prime=_;rw[Jw,K7,←Jw]
 ·rw[zLa hk]
  refine zZ fun j hj=>?_
  show S B (fun q=>at0 c q*at0 (xY m.Prime (B*D) u (ABk B D (m.zF.getD k []))) (q*D+j))%m.Prime=S D (fun l=>at0 (phi m.Prime B D c u) l*ent (m.zF.getD k []) l j)%m.Prime;rw[zAe (g:=fun q=>at0 c q*S D (fun i=>at0 u (q*D+i)*ent (m.zF.getD k []) i j)) fun q hq=>by rw[zMU hq hj,Jw,K7,←Jw]];rw[zAe (f:=fun l=>at0 (phi m.Prime B D c u) l*ent (m.zF.getD k []) l j) (g:=fun l=>S B (fun q=>at0 c q*at0 u (q*D+l))*ent (m.zF.getD k []) l j) fun l hl=>by rw[phi,yB hl,Jw,K7,←Jw]]
  congr 1
  rw[xI (g:=fun q=>S D (fun i=>at0 c q*(at0 u (q*D+i)*ent (m.zF.getD k []) i j))) fun q _=>(zCU _ D).symm,zIg];refine xI fun l hl=>?_
  rw[←zMu];exact xI fun q _=>(Hy _ _ _).symm
 ·rw[hb]at hr
  rw[ht r hr,Tc,xN hr];refine zZ fun j hj=>?_
  have gQ:r*D+j<B:=by rw[hN];exact kN hr hj
  rw[jR (k:=r*D+j) gQ fun q hq gf=>?_]
  ·rw[yB (kN gQ hj),(vL hj).1,(vL hj).2,if_pos rfl,Lz]
   have:=hc.2 _ gQ;exact Jy this.1 (by omega)
  ·rw[yB (kN hq hj),(vL hj).1,(vL hj).2,if_neg gf,Kw]
end Go.Pl

namespace Go.Pl
open Go Go.Ab Go.Wk Go.Pc
def uT(N D:Nat):Mx:=gl N fun i=>mkv (N*D*D) fun j=>if j/D=i*D+j%D then 1 else 0
section
variable {x:SPr}{m:zB}{D:Nat} (hx:zAb x) (hD:MOk x.zA.length m D)
 include hx hD
theorem zTP{D2:Nat}{m2:zB}{T:Mx}(hm:zTi x.zA.length m2 D2)(ht:T.length=base x.zA.length x.zA.length):ExB x.zA.length D2 x m2 T:=by have _:=hD;refine⟨hx.n6,rfl,hx.pl,hx.cl,fun i hi=>?_,ht,hm⟩;have:=(hx.tl i hi).2.1;omega
theorem zYf{y:Vec}(hy:Row m.Prime (base x.zA.length x.zA.length*D) y):ExB x.zA.length D x m (Tc (base x.zA.length x.zA.length) D y)∧ ∀i,i<(Tc (base x.zA.length x.zA.length) D y).length→Row m.Prime D ((Tc (base x.zA.length x.zA.length) D y).getD i []):=by refine⟨zTP hx hD hD.b wN,fun i hi=>?_⟩;rw[Tc,wN]at hi;rw[Tc,xN hi];exact zQn hy hi
theorem zTQ(h0:0<x.zA.length)(hc:wO (suf x 0))(hr:zCv x m D):∃L,f_O ⟨x,m,uT (base x.zA.length x.zA.length) D⟩=iG L∧L.length≤1000∧(∀r∈L,Row m.Prime (base x.zA.length x.zA.length*D*D) r)∧
  ∀y,Row m.Prime (base x.zA.length x.zA.length*D) y→((∀r∈L,phi m.Prime (base x.zA.length x.zA.length*D) D y r=zeros D)↔wO (suf (exx D x m (Tc (base x.zA.length x.zA.length) D y)) 0)):=by
 have h6:=hx.n6;have hb:=wT x.zA.length (by omega);have h1:=hD.d1;have h3:=hD.d3;have hp:=hD.p.pos;have hB:base x.zA.length x.zA.length*D≤21*3:=Jr hb.2.1 h3;have hB1:1≤base x.zA.length x.zA.length*D:=Jbh (by omega) (by omega);have hBD:base x.zA.length x.zA.length*D*D≤63*3:=Jr (by omega) h3;have hE:=zTP hx hD (T:=uT (base x.zA.length x.zA.length) D) (zZ6 hD hB1 (by omega)) wN;have hT:∀i,i<(uT (base x.zA.length x.zA.length) D).length→Row (mBk (base x.zA.length x.zA.length*D) D x.zA.length m).Prime (base x.zA.length x.zA.length*D*D) ((uT (base x.zA.length x.zA.length) D).getD i []):=fun i hi=>by rw[uT,wN]at hi;rw[uT,xN hi];refine⟨zY _ _,fun j hj=>?_⟩;rw[yB hj];show _∧_≤m.Prime-1;split<;>omega
 have hM:=zZ7 (B:=base x.zA.length x.zA.length*D) hD (by omega);have key:∀y,Row m.Prime (base x.zA.length x.zA.length*D) y→ ∃L,f_O ⟨x,m,uT (base x.zA.length x.zA.length) D⟩=iG L∧L.length≤1000∧(∀r∈L,Row m.Prime (base x.zA.length x.zA.length*D*D) r)∧((∀r∈L,phi m.Prime (base x.zA.length x.zA.length*D) D y r=zeros D)↔wO (suf (exx D x m (Tc (base x.zA.length x.zA.length) D y)) 0)):=fun y hy=>by obtain⟨e1,e2⟩:=zYf hx hD hy;exact zTN hx.toPres hE hT e1 e2 (zZ8 hD rfl rfl hy fun i hi=>by rw[uT,xN hi]) hM hc hr
 obtain⟨L,l1,l2,l3,_⟩:=key (zeros (base x.zA.length x.zA.length*D)) (xQ (by omega));refine⟨L,l1,l2,l3,fun y hy=>?_⟩;obtain⟨L2,k1,_,_,k4⟩:=key y hy;rw[l1]at k1;cases k1;exact k4
end
def zDB(D k:Nat)(L:Mx):List Int:=(L.map fun r=>blk D r k).flatten
theorem zMW{D k:Nat}:∀L:Mx,(zDB D k L).length=L.length*D
 | []=>by rw[zDB];simp
 |r::L=>by have ih:=zMW (D:=D) (k:=k) L;simp only[zDB]at ih;simp only[zDB,Jn,Ku,J5,J7];rw[ih,blk,zY,K1];omega
theorem zLb{D k:Nat}:∀(L:Mx)(i j:Nat),i<L.length→j<D→at0 (zDB D k L) (i*D+j)=at0 (L.getD i []) (k*D+j)
 | [],i,j,hi,_=>by simp at hi
 |r::L,i,j,hi,hj=>by
  have hl:(blk D r k).length=D:=zY _ _;simp only[zDB,Jn,Ku];cases i with
  |zero=>
   rw[Hz,Jc,Gu,at0,J2,Jx (by omega),←J2];show at0 (blk D r k) j=_;rw[blk,yB hj]
  |succ i=>
   have ih:=zLb (D:=D) (k:=k) L i j (by simpa using hi) hj;simp only[zDB]at ih;rw[Jc9,←ih,at0,J2,Ja (by rw[hl,K1];omega),hl,K1,show i*D+D+j-D=i*D+j from by omega,←J2]
theorem zTR{p:Int}{B D:Nat}{L:Mx}{y:Vec}:(∀c,c<L.length*D→(S B fun k=>at0 y k*ent (gl B fun k=>zDB D k L) k c)%p=0)↔ ∀r∈L,phi p B D y r=zeros D:=by
 have e:∀i j,i<L.length→j<D→(S B fun k=>at0 y k*ent (gl B fun k=>zDB D k L) k (i*D+j))%p=at0 (phi p B D y (L.getD i [])) j:=fun i j hi hj=>by
  rw[phi,yB hj]
  congr 1
  refine xI fun k hk=>?_
  show at0 y k*at0 ((gl B fun k=>zDB D k L).getD k []) (i*D+j)=_;rw[xN hk,zLb L i j hi hj]
 constructor
 ·intro g r hr
  obtain⟨i,hi,rfl⟩:=Ke.1 hr;rw[show zeros D=mkv D fun _=>0 from uA D,vC (D:=D) (v:=phi p B D y L[i]) (zY _ _)];refine zZ fun j hj=>?_
  have:=e i j hi hj;rw[J2,J3 hi]at this;rw[←g _ (kN hi hj),this];rfl
 ·intro g c hc
  have hD:0<D:=by
   rcases Gv D with h|h
   ·rw[h,Jc8]at hc;omega
   ·exact h
  have hi:c/D<L.length:=(Lt hD).2 hc;have hj:c%D<D:=Hk _ hD;rw[show c=c/D*D+c%D from by rw[Hh];exact(Lg c D).symm,e _ _ hi hj,g _ (by rw[J2,J3 hi];exact K8 hi),uQ]
end Go.Pl

namespace Go.Pl
open Go Go.Ab Go.Wk Go.Pc
def zBn(p:Int)(D:Nat)(m:zB):List (Nat×List Nat)→Nat→Nat→Nat→Int
 | [],_,_,_=>0
 |(q,s)::t,r,i,j=>(if q=r then ent (wM p D m.zF s (idM D)) i j else 0)+zBn p D m t r i j
section
variable {p:Int}{D N:Nat}{m:zB}{y:Vec}
theorem zTS{j:Nat}(hj:j<D):∀t:List (Nat×List Nat),(∀q∈t,q.1<N)→at0 (tv p D m (Tc N D y) t) j=(S N fun r=>S D fun i=>at0 y (r*D+i)*zBn p D m t r i j)%p
 | [],_=>by
  show at0 (zeros D) j=_;rw[uQ,xI (g:=fun _=>0) fun r _=>by rw[xI (g:=fun _=>0) fun i _=>by rw[zBn,Kw],sY],sY]
  rfl
 |(q,s)::t,h=>by
  have hq:q<N:=h (q,s) (by simp);have ih:=zTS hj t fun q hq=>h q (by simp[hq])
  show at0 (adv p D (xY p D ((Tc N D y).getD q []) (wM p D m.zF s (idM D))) (tv p D m (Tc N D y) t)) j=_;rw[show adv p D=fun u v=>mkv D fun j=>(at0 u j+at0 v j)%p from rfl];show at0 (mkv D _) j=_;rw[yB hj,ih,xY,yB hj,←Kh]
  congr 1
  have e:(S N fun r=>S D fun i=>at0 y (r*D+i)*zBn p D m ((q,s)::t) r i j)=
    (S N fun r=>S D fun i=>at0 y (r*D+i)*(if q=r then ent (wM p D m.zF s (idM D)) i j else 0))+S N fun r=>S D fun i=>at0 y (r*D+i)*zBn p D m t r i j:=by
   rw[←zCT];refine xI fun r _=>?_
   rw[←zCT];refine xI fun i _=>?_
   rw[zBn,Qt]
  rw[e]
  congr 1
  rw[jR (k:=q) hq fun r _ hr=>by rw[xI (g:=fun _=>0) fun i _=>by rw[if_neg (Ne.symm hr),Kw],sY]]
  refine xI fun l hl=>?_
  rw[if_pos rfl,Tc,xN hq,blk,yB hl]
end
def prR(p:Int)(D:Nat)(m:zB)(t1 t2:List (Nat×List Nat))(k:Nat):List Int:=mkv D fun j=>(zBn p D m t1 (k/D) (k%D) j-zBn p D m t2 (k/D) (k%D) j)%p
section
variable {p:Int}{D N:Nat}{m:zB}{y:Vec}
theorem zQp(hp:2≤p){t1 t2:List (Nat×List Nat)}(h1:∀q∈t1,q.1<N)(h2:∀q∈t2,q.1<N):
  (∀j,j<D→(S (N*D) fun k=>at0 y k*at0 (prR p D m t1 t2 k) j)%p=0)↔tv p D m (Tc N D y) t1=tv p D m (Tc N D y) t2:=by
 have e:∀j,j<D→(S (N*D) fun k=>at0 y k*at0 (prR p D m t1 t2 k) j)%p=(at0 (tv p D m (Tc N D y) t1) j-at0 (tv p D m (Tc N D y) t2) j)%p:=fun j hj=>by
  rw[zTS hj t1 h1,zTS hj t2 h2,←Qk,zFt];have e1:((S N fun r=>S D fun i=>at0 y (r*D+i)*zBn p D m t1 r i j)-S N fun r=>S D fun i=>at0 y (r*D+i)*zBn p D m t2 r i j)=S N fun r=>S D fun i=>at0 y (r*D+i)*(zBn p D m t1 r i j-zBn p D m t2 r i j):=by
   have:(S N fun r=>S D fun i=>at0 y (r*D+i)*zBn p D m t1 r i j)=(S N fun r=>S D fun i=>at0 y (r*D+i)*(zBn p D m t1 r i j-zBn p D m t2 r i j))+S N fun r=>S D fun i=>at0 y (r*D+i)*zBn p D m t2 r i j:=by
    rw[←zCT];refine xI fun r _=>?_
    rw[←zCT];refine xI fun i _=>?_
    rw[←Qt];congr 1;omega
   omega
  rw[e1];refine zAe fun r _=>zAe fun i hi=>?_
  have hd:=vL (q:=r) hi;rw[prR,yB hj,hd.1,hd.2,Jw,K7,←Jw]
 constructor
 ·intro g
  have r1:=zKT (D:=D) (m:=m) (T:=Tc N D y) hp t1;have r2:=zKT (D:=D) (m:=m) (T:=Tc N D y) hp t2;rw[vC r1.1,vC r2.1];refine zZ fun j hj=>?_
  have k:=e j hj;rw[g j hj]at k;have b1:=r1.2 j hj;have b2:=r2.2 j hj;have:=Int.emod_emod_of_dvd (at0 (tv p D m (Tc N D y) t1) j-at0 (tv p D m (Tc N D y) t2) j) (Int.dvd_refl p);have io:p∣at0 (tv p D m (Tc N D y) t1) j-at0 (tv p D m (Tc N D y) t2) j:=Int.dvd_of_emod_eq_zero k.symm;obtain⟨c,hc⟩:=io;have:c=0:=by
   rcases Jcb c 0 with gF|h0|hgt
   ·have:p*c≤p*(-1):=H7 (by omega) (by omega)
    omega
   ·exact h0
   ·have:p*1≤p*c:=H7 (by omega) (by omega)
    omega
  rw[this,Kw]at hc;omega
 ·intro g j hj
  rw[e j hj,g,Int.sub_self];rfl
end
end Go.Pl

namespace Go.Pl
open Go Go.Ab Go.Wk Go.Pc
abbrev Trc:=List (Nat×List Nat)
structure PD where
 k:Nat
 wd:List Nat
 t:Nat
 r1:Nat
 s1:List Nat
 w1:List Nat
 r2:Nat
 s2:List Nat
 w2:List Nat
section
variable (x:SPr)
abbrev PD.B(d:PD)(t1 t2:Trc):Prop:=zKY x d.k d.r1 d.s1 d.w1 d.r2 d.s2 d.w2 t1 t2
def ups(n i:Nat):List Nat:=Kx (i+1) (n-(i+1))
def pd2(i j k:Nat):PD:=⟨i,[k,j,i],1,base x.zA.length j+(k-(j+1)),[i],j::(nw 0 (lcj x j k)++[i]),base x.zA.length i+(j-(i+1)),[],k::i::nw 0 (lcj x i j)⟩
def pd1(i j:Nat):PD:=⟨i,J1 (yH x j) j++[i],yH x j-1,j,[i],nw 0 (x.zS.getD j [])++[i],base x.zA.length i+(j-(i+1)),[],J1 (yH x j-1) j++i::nw 0 (lcj x i j)⟩
def pd4(i j:Nat):PD:=⟨i,j::J1 (yH x i) i,1,base x.zA.length i+(j-(i+1)),J1 (yH x i-1) i,i::(nw 0 (lcj x i j)++J1 (yH x i-1) i),i,[],j::nw 0 (x.zS.getD i [])⟩
def pd3(i:Nat):PD:=⟨i,J1 (yH x i+1) i,1,i,[i],nw 0 (x.zS.getD i [])++[i],i,[],i::nw 0 (x.zS.getD i [])⟩
def cps:List PD:=
 ((Jg x.zA.length).flatMap fun i=>(ups x.zA.length i).flatMap fun j=>(ups x.zA.length j).map fun k=>pd2 x i j k)++
 (((Jg x.zA.length).flatMap fun i=>(ups x.zA.length i).map fun j=>pd1 x i j)++
 (((Jg x.zA.length).flatMap fun i=>(ups x.zA.length i).map fun j=>pd4 x i j)++
 (Jg x.zA.length).map fun i=>pd3 x i))
end
theorem zFu{n i j:Nat}:j∈ups n i↔i<j∧j<n:=by grind[ups]
section
variable {x:SPr}
theorem zBa{φ:PD→Prop}:(∀d∈cps x,φ d)↔(∀i j k,i<j→j<k→k<x.zA.length→φ (pd2 x i j k))∧(∀i j,i<j→j<x.zA.length→φ (pd1 x i j))∧(∀i j,i<j→j<x.zA.length→φ (pd4 x i j))∧ ∀i,i<x.zA.length→φ (pd3 x i):=by
 constructor
 ·intro g
  refine⟨fun i j k h1 h2 h3=>g _ ?_,fun i j h1 h2=>g _ ?_,fun i j h1 h2=>g _ ?_,fun i h1=>g _ ?_⟩
  ·exact Ud _ (Lr.2 ⟨i,by grind,Lr.2 ⟨j,by grind[zFu],Jl.2 ⟨k,zFu.2 ⟨h2,h3⟩,rfl⟩⟩⟩)
  ·exact Hu _ (Ud _ (Lr.2 ⟨i,by grind,Jl.2 ⟨j,zFu.2 ⟨h1,h2⟩,rfl⟩⟩))
  ·exact Hu _ (Hu _ (Ud _ (Lr.2 ⟨i,by grind,Jl.2 ⟨j,zFu.2 ⟨h1,h2⟩,rfl⟩⟩)))
  ·exact Hu _ (by grind)
 ·rintro⟨g2,g1,g4,g3⟩ d hd
  simp only[cps,Jd,Lr,Jl,Kn,zFu]at hd
  grind
theorem zRp{D:Nat}{m:zB}{T:Mx}:zYd x D m T↔ ∀d∈cps x,∀t1 t2,d.B x t1 t2→tv m.Prime D m T t1=tv m.Prime D m T t2:=by
 rw[zBa (φ:=fun d=> ∀t1 t2,d.B x t1 t2→tv m.Prime D m T t1=tv m.Prime D m T t2)];constructor
 ·intro g
  exact⟨fun i j k h1 h2 h3=>g.p2 i j k h1 h2 h3,fun i j h1 h2=>g.p1 i j h1 h2,fun i j h1 h2=>g.p4 i j h1 h2,fun i h1=>g.p3 i h1⟩
 ·rintro⟨g2,g1,g4,g3⟩
  exact⟨fun k j h1 h2=>g1 k j h1 h2,fun k i j h1 h2 h3=>g2 k i j h1 h2 h3,fun k hk=>g3 k hk,fun k j h1 h2=>g4 k j h1 h2⟩
theorem zYg(h6:x.zA.length≤6){w:List Nat}{r:zEx}(hw:∀a∈w,a<x.zA.length)(h:hdS x w=iG r):r.1<base x.zA.length x.zA.length:=by
 unfold hdS at h;have hb:=wT x.zA.length (by omega)
 match w,h with
 | [],h=>cases h
 | [a],h=>
  grind[swp,pws]
 |a::b::w,h=>
  have ha:=hw a (by simp);simp only[swp]at h
  by_cases g:b<a
  ·rw[if_pos g]at h
   cases h;have:=zAX x.zA.length (by omega) b (by omega);omega
  ·rw[if_neg g]at h
   grind[pws]
theorem zYh(h6:x.zA.length≤6):∀{w:List Nat}{r:zEx},(∀a∈w,a<x.zA.length)→stS x w=iG r→r.1<base x.zA.length x.zA.length
 | [],_,_,h=>by cases h
 |a::w,r,hw,h=>by
  simp only[stS]at h;cases e:hdS x (a::w)with
  |some q=>
   rw[e]at h;cases h;exact zYg h6 hw e
  |none=>
   rw[e]at h;cases e2:stS x w with
   |none=>grind
   |some q=>
    rw[e2]at h;cases h;have:=zYh (w:=w) (r:=q) h6 (by grind) e2;exact this
theorem Col.lt(h6:x.zA.length≤6){k:Nat}{w w':List Nat}{tr:Trc}(hc:Col x k w tr w'):∀q∈tr,q.1<base x.zA.length x.zA.length:=by
 induction hc with
 |refl w=>simp
 |step hw hs _ ih=>
  intro q hq;rcases J9.1 hq with rfl|hq
  ·exact zYh h6 (by grind) hs
  grind
end
section
variable {x:SPr} (h:Pres x) (h6:x.zA.length≤6)
 include h
theorem zMX{d:PD}{t1 t2 u1 u2:Trc}(hk:d.k≤x.zA.length)(a:d.B x t1 t2)(b:d.B x u1 u2):t1=u1∧t2=u2:=by
 obtain⟨⟨v1,y1,rfl,k1⟩,⟨v2,y2,rfl,k2⟩⟩:=a;obtain⟨⟨v3,y3,rfl,k3⟩,⟨v4,y4,rfl,k4⟩⟩:=b;have nn:=fun(y:Vec)(hy:V (suf x d.k) y)=>zGj h (x.zA.length-d.k) d.k (by omega) y hy
 exact⟨by rw[(Col.det k1.col k3.col (nn _ k1.v) (nn _ k3.v)).1],by rw[(Col.det k2.col k4.col (nn _ k2.v) (nn _ k4.v)).1]⟩
 include h6
theorem zHb:∀d∈cps x,d.k<x.zA.length∧(∀a∈d.wd,a<x.zA.length)∧ ∃t1 t2,d.B x t1 t2∧(∀q∈t1,q.1<base x.zA.length x.zA.length)∧ ∀q∈t2,q.1<base x.zA.length x.zA.length:=by
 have eH:∀i j,i<j→j<x.zA.length→ ∀a∈nw 0 (lcj x i j),i+1≤a∧a<x.zA.length:=fun i j hi hj=>(tB h (uB h hi hj) (by omega)).2
 have eP:∀i,i<x.zA.length→ ∀a∈nw 0 (x.zS.getD i []),i+1≤a∧a<x.zA.length:=fun i hi=>(tB h (qK h hi) hi).2
 have cS:=wT x.zA.length (by omega);have cR:=fun i(hi:i<x.zA.length)=>zAX x.zA.length (by omega) i hi
 have key:∀(d:PD),d.k<x.zA.length→(∀a∈d.wd,a<x.zA.length)→d.r1<base x.zA.length x.zA.length→d.r2<base x.zA.length x.zA.length→(∀a∈d.w1,d.k≤a∧a<x.zA.length)→(∀a∈d.w2,d.k≤a∧a<x.zA.length)→d.k<x.zA.length∧(∀a∈d.wd,a<x.zA.length)∧ ∃t1 t2,d.B x t1 t2∧(∀q∈t1,q.1<base x.zA.length x.zA.length)∧ ∀q∈t2,q.1<base x.zA.length x.zA.length:=by
  intro d hk mL b1 b2 c1 c2;obtain⟨u1,y1,k1⟩:=zW7 h (x.zA.length-d.k) d.k (by omega) d.w1 c1;obtain⟨u2,y2,k2⟩:=zW7 h (x.zA.length-d.k) d.k (by omega) d.w2 c2;refine⟨hk,mL,_,_,⟨⟨u1,y1,rfl,k1⟩,⟨u2,y2,rfl,k2⟩⟩,fun q hq=>?_,fun q hq=>?_⟩
  ·rcases J9.1 hq with rfl|hq
   ·exact b1
   ·exact k1.col.lt h6 q hq
  ·rcases J9.1 hq with rfl|hq
   ·exact b2
   ·exact k2.col.lt h6 q hq
 refine zBa.2 ⟨fun i j k h1 h2 h3=>key _ ?_ ?_ ?_ ?_ ?_ ?_,fun i j h1 h2=>key _ ?_ ?_ ?_ ?_ ?_ ?_,fun i j h1 h2=>key _ ?_ ?_ ?_ ?_ ?_ ?_,fun i h1=>key _ ?_ ?_ ?_ ?_ ?_ ?_⟩
 ·show i<_;omega
 ·intro a ha
  simp only[pd2,J9,Q5,or_false]at ha;omega
 ·have:=cR j (by omega);show base _ j+(k-(j+1))<_;omega
 ·have:=cR i (by omega);show base _ i+(j-(i+1))<_;omega
 ·intro a ha
  simp only[pd2,J9,Jd,Q5,or_false]at ha ⊢
  rcases ha with rfl|ha|rfl
  ·omega
  ·grind
  ·omega
 ·intro a ha
  simp only[pd2,J9]at ha ⊢
  rcases ha with rfl|rfl|ha
  ·omega
  ·omega
  grind
 ·show i<_;omega
 ·intro a ha
  simp only[pd1,Jd,List.mem_singleton]at ha;rcases ha with ha|rfl
  ·grind
  ·omega
 ·show j<_;omega
 ·have:=cR i (by omega);show base _ i+(j-(i+1))<_;omega
 ·intro a ha
  simp only[pd1,Jd,List.mem_singleton]at ha ⊢
  rcases ha with ha|rfl
  ·grind
  ·omega
 ·intro a ha
  simp only[pd1,Jd,J9]at ha ⊢
  rcases ha with ha|rfl|ha
  ·grind
  ·omega
  grind
 ·show i<_;omega
 ·intro a ha
  simp only[pd4,J9]at ha;rcases ha with rfl|ha
  ·omega
  grind
 ·have:=cR i (by omega);show base _ i+(j-(i+1))<_;omega
 ·show i<_;omega
 ·intro a ha
  simp only[pd4,J9,Jd]at ha ⊢
  rcases ha with rfl|ha|ha
  ·omega
  ·grind
  grind
 ·intro a ha
  simp only[pd4,J9]at ha ⊢
  rcases ha with rfl|ha
  ·omega
  grind
 ·exact h1
 ·intro a ha
  have:=K9 (show a∈J1 _ i from ha);omega
 ·show i<_;omega
 ·show i<_;omega
 ·intro a ha
  simp only[pd3,Jd,List.mem_singleton]at ha ⊢
  rcases ha with ha|rfl
  ·grind
  ·omega
 ·intro a ha
  simp only[pd3,J9]at ha ⊢
  rcases ha with rfl|ha
  ·omega
  grind
end
end Go.Pl

namespace Go.Pl
open Go Go.Ab Go.Wk Go.Pc
theorem zGk{α:Type}{F:α→Vec}{D:Nat}(hF:∀a,(F a).length=D):∀L:List α,((L.map F).flatten).length=L.length*D
 | []=>by simp
 |a::L=>by rw[Jn,Ku,J5,hF,zGk hF L,J7,K1];omega
theorem zFv{α:Type}{F:α→Vec}{D:Nat}(hF:∀a,(F a).length=D):∀(L:List α)(i j:Nat)(hi:i<L.length),j<D→at0 ((L.map F).flatten) (i*D+j)=at0 (F L[i]) j
 | [],i,j,hi,_=>by simp at hi
 |a::L,i,j,hi,hj=>by
  have hl:=hF a;rw[Jn,Ku];cases i with
  |zero=>
   rw[Hz,Jc,List.getElem_cons_zero,at0,J2,Jx (by omega),←J2]
  |succ i=>
   have ih:=zFv hF L i j (by simpa using hi) hj;rw[List.getElem_cons_succ,←ih,at0,J2,Ja (by rw[hl,K1];omega),hl,K1,show i*D+D+j-D=i*D+j from by omega,←J2]
def zAn(p:Int)(D:Nat)(m:zB)(prs:List (Trc×Trc))(k:Nat):List Int:=(prs.map fun q=>prR p D m q.1 q.2 k).flatten
theorem zIB{p:Int}{D k:Nat}{m:zB}(prs:List (Trc×Trc)):(zAn p D m prs k).length=prs.length*D:=zGk (F:=fun q:Trc×Trc=>prR p D m q.1 q.2 k) (fun _=>zY _ _) prs
theorem zTT{p:Int}{D N:Nat}{m:zB}{y:Vec}(hp:2≤p){prs:List (Trc×Trc)}(hl:∀q∈prs,(∀r∈q.1,r.1<N)∧ ∀r∈q.2,r.1<N):
  (∀c,c<prs.length*D→(S (N*D) fun k=>at0 y k*ent (gl (N*D) fun k=>zAn p D m prs k) k c)%p=0)↔ ∀q∈prs,tv p D m (Tc N D y) q.1=tv p D m (Tc N D y) q.2:=by
 have e:∀i j(hi:i<prs.length),j<D→(S (N*D) fun k=>at0 y k*ent (gl (N*D) fun k=>zAn p D m prs k) k (i*D+j))=S (N*D) fun k=>at0 y k*at0 (prR p D m prs[i].1 prs[i].2 k) j:=fun i j hi hj=>by
  refine xI fun k hk=>?_
  show at0 y k*at0 ((gl (N*D) fun k=>zAn p D m prs k).getD k []) (i*D+j)=_;rw[xN hk,zAn,zFv (F:=fun q:Trc×Trc=>prR p D m q.1 q.2 k) (fun _=>zY _ _) prs i j hi hj]
 constructor
 ·intro g q hq
  obtain⟨i,hi,rfl⟩:=Ke.1 hq;refine(zQp hp (hl _ hq).1 (hl _ hq).2).1 fun j hj=>?_
  rw[←e i j hi hj];exact g _ (kN hi hj)
 ·intro g c hc
  have hD:0<D:=by
   rcases Gv D with h|h
   ·rw[h,Jc8]at hc;omega
   ·exact h
  have hi:c/D<prs.length:=(Lt hD).2 hc;have hj:c%D<D:=Hk _ hD;have hm:=K8 hi;rw[show c=c/D*D+c%D from by rw[Hh];exact(Lg c D).symm,e _ _ hi hj];exact(zQp hp (hl _ hm).1 (hl _ hm).2).2 (g _ hm) _ hj
def qC(x:SPr):List PD→List (Trc×Trc)→Prop
 | [],[]=>True
 |d::ds,q::qs=>d.B x q.1 q.2∧qC x ds qs
 |_,_=>False
theorem qC.len{x:SPr}:{ds:List PD}→{qs:List (Trc×Trc)}→qC x ds qs→ds.length=qs.length
 | [],[],_=>rfl
 |d::ds,q::qs,h=>by rw[J7,J7,qC.len h.2]
 | [],_::_,h=>by simp[qC]at h
 |_::_,[],h=>by simp[qC]at h
theorem qC.all{x:SPr}{φ:Trc×Trc→Prop}:{ds:List PD}→{qs:List (Trc×Trc)}→qC x ds qs→(∀d∈ds,∀t1 t2,d.B x t1 t2→φ (t1,t2))→ ∀q∈qs,φ q
 | [],[],_,_,q,hq=>by cases hq
 |d::ds,q::qs,h,g,r,hr=>by
  rcases J9.1 hr with rfl|hr
  ·exact g d (by simp) _ _ h.1
  ·exact qC.all h.2 (fun d hd=>g d (Gi _ hd)) r hr
 | [],_::_,h,_,_,_=>by simp[qC]at h
 |_::_,[],h,_,_,_=>by simp[qC]at h
theorem qC.of{x:SPr}{φ:Trc×Trc→Prop}:{ds:List PD}→{qs:List (Trc×Trc)}→qC x ds qs→(∀q∈qs,φ q)→ ∀d∈ds,∃t1 t2,d.B x t1 t2∧φ (t1,t2)
 | [],[],_,_,d,hd=>by cases hd
 |d::ds,q::qs,h,g,r,hr=>by
  rcases J9.1 hr with rfl|hr
  ·exact⟨q.1,q.2,h.1,g q (by simp)⟩
  ·exact qC.of h.2 (fun q hq=>g q (Gi _ hq)) r hr
 | [],_::_,h,_,_,_=>by simp[qC]at h
 |_::_,[],h,_,_,_=>by simp[qC]at h
section
variable {x:SPr}{m:zB}{D:Nat} (hx:zAb x) (hD:MOk x.zA.length m D)
 include hx hD
theorem zTU{prs:List (Trc×Trc)}(hq:qC x (cps x) prs)(hc:wO (suf x 0))(hr:zCv x m D){y:Vec}(hy:Row m.Prime (base x.zA.length x.zA.length*D) y):
  (∀c,c<prs.length*D→(S (base x.zA.length x.zA.length*D) fun k=>at0 y k*ent (gl (base x.zA.length x.zA.length*D) fun k=>zAn m.Prime D m prs k) k c)%m.Prime=0)↔wO (suf (exx D x m (Tc (base x.zA.length x.zA.length) D y)) 0):=by
 have hp:=hD.p.pos;have cP:=zHb hx.toPres hx.n6;have gF:∀q∈prs,(∀r∈q.1,r.1<base x.zA.length x.zA.length)∧ ∀r∈q.2,r.1<base x.zA.length x.zA.length:=hq.all fun d hd t1 t2 hb=>by obtain⟨hk,_,u1,u2,pV,l1,l2⟩:=cP d hd;obtain⟨rfl,rfl⟩:=zMX hx.toPres (by omega) hb pV;exact⟨l1,l2⟩
 obtain⟨e1,e2⟩:=zYf hx hD hy;rw[zTT (by omega) gF,←zRo hx.toPres e1 e2 hc hr,zRp];constructor
 ·intro g d hd t1 t2 hb
  obtain⟨u1,u2,pV,e⟩:=hq.of (φ:=fun q=>tv m.Prime D m (Tc (base x.zA.length x.zA.length) D y) q.1=tv m.Prime D m (Tc (base x.zA.length x.zA.length) D y) q.2) g d hd;obtain⟨rfl,rfl⟩:=zMX hx.toPres (by have:=(cP d hd).1;omega) hb pV;exact e
 ·intro g
  exact hq.all fun d hd t1 t2 hb=>g d hd t1 t2 hb
theorem zZ9:∃prs,qC x (cps x) prs:=by
 have _:=hD;have cP:=zHb hx.toPres hx.n6
 revert cP
 generalize cps x=ds
 intro cP
 induction ds with
 |nil=>exact⟨[],trivial⟩
 |cons d ds ih=>
  obtain⟨qs,hq⟩:=ih fun d hd=>cP d (Gi _ hd)
  obtain⟨_,_,t1,t2,hb,_⟩:=cP d (by simp);exact⟨(t1,t2)::qs,hb,hq⟩
end
end Go.Pl

namespace Go.Pl
open Go Go.Ab Go.Wk Go.Pc
section
variable {x:SPr}{m:zB}{D:Nat} (hD:MOk x.zA.length m D)
 include hD
theorem zRq{N i:Nat}(hi:i<N)(hN:N≤21){T:Mx}:zI (zRG m (T,(i:Int))) (J1 (N*D*D) (0:Int),0)=iG (mkv (N*D*D) fun j=>if j/D=i*D+j%D then 1 else 0):=by
 have h1:=hD.d1;have h3:=hD.d3;have iD:N*D≤21*3:=Jr hN h3;have hB:N*D*D≤63*3:=Jr iD h3;have:=zX (body:=zRG m (T,(i:Int))) (r:=mkv (N*D*D) fun j=>if j/D=i*D+j%D then(1:Int)else 0)
  (fun c=>(mkv (N*D*D) fun j=>if j/D=i*D+j%D∧j%D<c then(1:Int)else 0,(c:Int))) D (fun c hc=>by
  unfold zRG;simp only
  have a1:i*D+D≤N*D:=by rw[←K1];exact Kb _ hi
  have a2:(i*D+c)*D+D≤N*D*D:=by rw[←K1];exact Kb _ (by omega)
  have b1:(i:Int)*(D:Int)=((i*D:Nat):Int):=by rw[Ld]
  have b2:((i*D+c:Nat):Int)*(D:Int)=(((i*D+c)*D:Nat):Int):=by rw[Ld]
  have b3:((i*D:Nat):Int)+(c:Int)=((i*D+c:Nat):Int):=by omega
  have b4:(((i*D+c)*D:Nat):Int)+(c:Int)=(((i*D+c)*D+c:Nat):Int):=by omega
  rw[hD.d,yR hc,zK,b1,zC (by omega) (by omega),bs,b3,zC (by omega) (by omega),bs,b2,zC (by omega) (by omega),bs,b4,zC (by omega) (by omega),bs,yO 0 (by rw[zY];omega),bs,zC (by omega) (by omega),bs,J8,qH,cs]
  congr 3
  refine zZ fun j hj=>?_
  have mf:=Lg j D
  by_cases g:j=(i*D+c)*D+c
  ·have e:=vL (q:=i*D+c) hc
   rw[if_pos g,g,e.1,e.2,if_pos ⟨rfl,by omega⟩]
  ·rw[if_neg g]
   by_cases g2:j/D=i*D+j%D
   ·by_cases g3:j%D<c
    ·rw[if_pos ⟨g2,g3⟩,if_pos ⟨g2,by omega⟩]
    ·rw[if_neg fun z=>g3 z.2]
     refine(if_neg fun z=>g ?_).symm;have:j%D=c:=by omega
     rw[g2,this,Hh]at mf;exact mf.symm
   ·rw[if_neg fun z=>g2 z.1,if_neg fun z=>g2 z.1]) (by
  unfold zRG;simp only
  rw[hD.d,vE,zM]
  congr 2
  refine zZ fun j _=>?_
  have:=Hk j (show 0<D by omega)
  by_cases g2:j/D=i*D+j%D
  ·rw[if_pos ⟨g2,this⟩,if_pos g2]
  ·rw[if_neg fun z=>g2 z.1,if_neg g2])
 rw[show(mkv (N*D*D) fun j=>if j/D=i*D+j%D∧j%D<0 then(1:Int)else 0)=J1 (N*D*D) 0 from by rw[show J1 (N*D*D) (0:Int)=mkv (N*D*D) fun _=>0 from uA _];exact zZ fun j _=>if_neg fun z=>Qf _ z.2]at this
 exact this
theorem zIC{N:Nat}(hN:N≤21):zI (zV3 m (N:Int) ((N*D:Nat):Int)) ([],0)=iG (uT N D):=by
 have h1:=hD.d1;have h3:=hD.d3;have iD:N*D≤21*3:=Jr hN h3;have hB:N*D*D≤63*3:=Jr iD h3;refine vB N (fun i=>mkv (N*D*D) fun j=>if j/D=i*D+j%D then(1:Int)else 0) (fun i acc hi ha=>?_) (fun acc=>?_)
 ·unfold zV3
  simp only
  have b1:((N*D:Nat):Int)*(D:Int)=((N*D*D:Nat):Int):=by rw[Ld (N*D)]
  rw[hD.d,yR hi,zK,b1,zC (by omega) (by omega),bs,xC (by omega),bs,zRq hD hi hN,bs,yI (by simp;omega),bs,zC (by omega) (by omega),bs,cs]
 ·unfold zV3
  simp only
  rw[vE,zM]
theorem zJT{B:Nat}(hB:B≤63){L:Mx}(hL:L.length≤1000)(hr:∀r∈L,r.length=B*D):zI (zV4 m ((B:Nat):Int) L) ([],0)=iG (gl B fun k=>zDB D k L):=by
 have h1:=hD.d1;have h3:=hD.d3;have hLD:L.length*D≤1000*3:=Jr hL h3;have hBD:B*D≤63*3:=Jr hB h3;refine vB B (fun k=>zDB D k L) (fun k acc hk ha=>?_) (fun acc=>?_)
 ·unfold zV4
  simp only
  have a1:k*D+D≤B*D:=by rw[←K1];exact Kb _ hk
  have inner:zI (zRH m L (acc,(k:Int))) ([],0)=iG (zDB D k L):=by
   have:=zTs (body:=zRH m L (acc,(k:Int))) L.length D (fun i=>blk D (L.getD i []) k) [] (fun i hi=>zY _ _) (fun i acc2 hi ha2=>by
    unfold zRH;simp only
    have b0:i*D+D≤L.length*D:=by rw[←K1];exact Kb _ hi
    have b1:(k:Int)*(D:Int)=((k*D:Nat):Int):=by rw[Ld]
    have b2:((k+1:Nat):Int)*(D:Int)=((k*D+D:Nat):Int):=by rw[←Ld,K1]
    have gj:(L.getD i []).length=B*D:=by rw[J2,J3 hi];exact hr _ (K8 hi)
    simp only[Jq,Jc]at ha2;rw[hD.d,yR hi,zK,yO [] hi,bs,b1,zC (by omega) (by omega),bs,show(k:Int)+1=((k+1:Nat):Int)from by omega,zC (by omega) (by omega),bs,b2,zC (by omega) (by omega),bs,zGe (by omega),bs,yI (by rw[zY];omega),bs,zC (by omega) (by omega),bs,cs];rfl) (fun acc2=>by
    unfold zRH;simp only
    rw[vE,zM])
   rw[this,Jv,zDB]
   congr 2
   rw[gl];refine U7 (by simp) fun j h1 h2=>?_
   simp only[Ji,Le]at h1;simp only[Jby,Ut];rw[J2,J3 h1];rfl
  rw[yR hk,zK,inner,bs,yI (by simp;omega),bs,zC (by omega) (by omega),bs,cs]
 ·unfold zV4
  simp only
  rw[vE,zM]
end
section
variable {x:SPr}{m:zB}{D:Nat} (hx:zAb x) (hD:MOk x.zA.length m D)
 include hx hD
theorem zGC(h0:0<x.zA.length)(hc:wO (suf x 0))(hr:zCv x m D):∃K pk,f_m x m=iG K∧Red m.Prime (base x.zA.length x.zA.length*D) K pk∧
  ∀y,Row m.Prime (base x.zA.length x.zA.length*D) y→(Sp m.Prime (base x.zA.length x.zA.length*D) K y↔wO (suf (exx D x m (Tc (base x.zA.length x.zA.length) D y)) 0)):=by
 have h6:=hx.n6;have hb:=wT x.zA.length (by omega);have h1:=hD.d1;have h3:=hD.d3;have hB:base x.zA.length x.zA.length*D≤21*3:=Jr hb.2.1 h3;obtain⟨L,l1,l2,l3,l4⟩:=zTQ hx hD h0 hc hr;have hLD:L.length*D≤1000*3:=Jr l2 h3;obtain⟨K,pk,k1,_,k3,k4⟩:=zGc hD.p (c:=L.length*D) (N:=base x.zA.length x.zA.length*D) (A:=gl (base x.zA.length x.zA.length*D) fun k=>zDB D k L) (by omega) (fun k hk=>by rw[xN hk];refine⟨zMW L,fun j hj=>?_⟩;have hi:j/D<L.length:=(Lt (by omega)).2 hj;have hm:j%D<D:=Hk _ (by omega);have e:=zLb (D:=D) (k:=k) L (j/D) (j%D) hi hm;rw[show j/D*D+j%D=j from by rw[Hh];exact Lg j D]at e;rw[e];have eO:=l3 (L.getD (j/D) []) (by rw[J2,J3 hi];exact K8 hi);exact eO.2 _ (kN hk hm)) wN
 refine⟨K,pk,?_,k3,fun y hy=>?_⟩
 ·unfold f_m
  have b1:((base x.zA.length x.zA.length:Nat):Int)*(D:Int)=((base x.zA.length x.zA.length*D:Nat):Int):=by rw[Ld]
  rw[zEs rfl h6,bs,hD.d,b1,zC (by omega) (by omega),bs,zIC hD hb.2.1,bs,l1,bs,zJT hD (by omega) l2 (fun r hr=>(l3 r hr).1),bs,show((L.length:Nat):Int)*(D:Int)=((L.length*D:Nat):Int)from by rw[Ld],zC (by omega) (by omega),bs,k1,bs]
 ·rw[k4 y,←l4 y hy,←zTR (L:=L)]
end
end Go.Pl

namespace Go.Pl
open Go Go.Ab Go.Wk Go.Pc
theorem tX{w:List Nat}{t:Nat}(h:t<w.length):ixO (enW w) (t:Int)=iG (((w.getD t 0:Nat):Int)+1):=by rw[yO 0 (by simpa using h)];simp only[J2,K5,J3 h];rfl
theorem qW{w:List Nat}{t:Nat}(h:t<w.length):w.drop t=w.getD t 0::w.drop (t+1):=by rw[Uk h,J2,J3 h];rfl
theorem zD0{w:List Nat}{a b:Nat}(h1:a≤b)(h2:b≤w.length):yD (enW w) (a:Int) (b:Int)=iG (enW ((w.drop a).take (b-a))):=by unfold yD;rw[if_pos ⟨by omega,by omega,by simp;omega⟩];simp only[J8,enW,Jb9,Jcl]
theorem zTV{w:List Nat}{t o:Nat}{L:Int→Option (Int⊕(Unit⊕Bool))}(hL:L=zPb (enW w) (t:Int) (enW ((w.drop t).take o))∨L=zPc (enW w) (t:Int) (enW ((w.drop t).take o)))(ht:t<w.length)(ho:t+o≤w.length)(hl:w.length≤1000000):
  zI L 0=iG (if decide ((w.drop t).take o=J1 o (w.getD t 0))then .inl ()else .inr iJ):=by
 have gj:((w.drop t).take o).length=o:=by rw[Kc,K3];omega
 have pN:(enW ((w.drop t).take o)).length=o:=by rw[enW,Ji,gj]
 have fx:∀i,i<o→((w.drop t).take o).getD i 0=w.getD (t+i) 0:=fun i hi=>by simp only[J2,Jcd,Hi];rw[if_pos hi]
 have hb:∀i,i<o→L (i:Int)=iG (if(w.getD (t+i) 0==w.getD t 0)then .inl ((i+1:Nat):Int)else .inr (.inr iJ)):=fun i hi=>by
  have e1:ixO (enW ((w.drop t).take o)) (i:Int)=iG (((w.getD (t+i) 0:Nat):Int)+1):=by rw[tX (by omega),fx i hi]
  have e2:(((w.getD (t+i) 0:Nat):Int)+1 != ((w.getD t 0:Nat):Int)+1)= !(w.getD (t+i) 0==w.getD t 0):=by
   by_cases g:w.getD (t+i) 0=w.getD t 0
   ·rw[g];simp
   ·have:(w.getD (t+i) 0==w.getD t 0)=iJ:=by simpa using g
    rw[this];have g2:((w.getD (t+i) 0:Nat):Int)+1≠((w.getD t 0:Nat):Int)+1:=by omega
    simpa using g2
  rcases hL with rfl|rfl<;>
  ·first|unfold zPb|unfold zPc
   rw[pN,yR hi,zK,e1,bs,tX ht,bs,e2]
   by_cases g:(w.getD (t+i) 0==w.getD t 0)=iI
   ·rw[g,Jo,zM,zC (by omega) (by omega),bs,cs];rfl
   ·have g':(w.getD (t+i) 0==w.getD t 0)=iJ:=by simpa using g
    rw[g',Kd,zK];rfl
 have he:L (o:Int)=iG (.inr (.inl ())):=by
  rcases hL with rfl|rfl
  ·unfold zPb
   rw[pN,vE,zM]
  ·unfold zPc
   rw[pN,vE,zM]
 rw[zJ9 o (fun i=>w.getD (t+i) 0==w.getD t 0) (fun i hi _=>hb i hi) (fun _=>he)]
 congr 1
 have cx:(Jg o).all (fun i=>w.getD (t+i) 0==w.getD t 0)=decide ((w.drop t).take o=J1 o (w.getD t 0)):=by
  rw[Bool.eq_iff_iff,Ki,decide_eq_true_iff];constructor
  ·intro g
   refine U7 (by rw[gj,Jb]) fun i h1 h2=>?_
   have:=g i (Kn.2 (by omega));have e:=fx i (by omega);rw[J2,J3 h1]at e;rw[List.getElem_replicate];simp only[Qc]at e;rw[e];simpa using this
  ·intro g i hi
   have e:=fx i (Kn.1 hi);rw[g,J2,Qm (Kn.1 hi)]at e;simp only[Qc]at e;rw[←e];simp
 rw[cx]
section
variable {x:SPr} (h:Pres x)
 include h
theorem jF{a:Nat}(ha:a<x.zA.length):ixO x.zA (a:Int)=iG ((yH x a:Nat):Int)∧2≤yH x a∧yH x a≤7:=by
 have hp:=(h.os.2 a ha).pos;rw[yO 0 ha];refine⟨?_,zKU h ha,?_⟩
 ·show iG (at0 x.zA a)=iG (((at0 x.zA a).toNat:Nat):Int)
  rw[Jcx (by omega)]
 ·show(at0 x.zA a).toNat≤7
  omega
theorem zTW{w:List Nat}{t:Nat}(ht:t<w.length):(pws x (w.drop t)).isSome=decide (t+yH x (w.getD t 0)≤w.length∧(w.drop t).take (yH x (w.getD t 0))=J1 (yH x (w.getD t 0)) (w.getD t 0)):=by
 have _:=h;have hd:=qW ht
 by_cases g:(w.drop t).take (yH x (w.getD t 0))=J1 (yH x (w.getD t 0)) (w.getD t 0)
 ·have hl:=zBC g
  rw[K3]at hl;rw[iM ⟨by omega,g⟩];rw[hd]at g ⊢
  simp only[pws];rw[if_pos g];rfl
 ·rw[iL fun z=>g z.2]
  rw[hd]at g ⊢
  simp only[pws];rw[if_neg g];rfl
theorem zID{w:List Nat}(hw:∀a∈w,a<x.zA.length)(hl:w.length≤1000000){t:Nat}(ht:t<w.length):f_I x (enW w) (t:Int)=iG (hdS x (w.drop t)).isSome:=by
 have ha:w.getD t 0<x.zA.length:=hw _ (by rw[J2,J3 ht];exact K8 ht);obtain⟨o1,o2,o3⟩:=jF h ha;have gj:(enW w).length=w.length:=by simp
 have hd:=qW ht;have a1:((w.getD t 0:Nat):Int)+1-1=((w.getD t 0:Nat):Int):=by omega
 have a2:(t:Int)+((yH x (w.getD t 0):Nat):Int)=((t+yH x (w.getD t 0):Nat):Int):=by omega
 have h9:=h.os.1;have fin:∀L:List Int→Int→Option (Int⊕(Unit⊕Bool)),(∀o,L (enW ((w.drop t).take o))=zPb (enW w) (t:Int) (enW ((w.drop t).take o))∨L (enW ((w.drop t).take o))=zPc (enW w) (t:Int) (enW ((w.drop t).take o)))→
   (cond (decide (((t+yH x (w.getD t 0):Nat):Int)> ((w.length:Nat):Int))) (iG iJ) ((iG ((t+yH x (w.getD t 0):Nat):Int)).bind fun v9=>(yD (enW w) (t:Int) v9).bind fun v10=>(zI (L v10) 0).bind fun r14=>match r14 with|(.inl _)=>iG iI|(.inr r14)=>iG r14))=iG (pws x (w.drop t)).isSome:=by
  intro L hL;rw[zTW h ht]
  by_cases g:t+yH x (w.getD t 0)≤w.length
  ·rw[iL (by omega),zM,bs,zD0 (by omega) g,bs,H1,zTV (hL _) ht g hl,bs]
   by_cases g2:(w.drop t).take (yH x (w.getD t 0))=J1 (yH x (w.getD t 0)) (w.getD t 0)
   ·rw[iM g2,iM ⟨g,g2⟩];rfl
   ·rw[iL g2,iL fun z=>g2 z.2];rfl
  ·rw[iM (by omega),zK,iL fun z=>g z.1]
 unfold f_I;rw[gj,zC (by omega) (by omega),bs]
 by_cases g:t+1<w.length
 ·have pO:=qW g
  rw[iM (by omega),zK,tX ht,bs,bs,show(t:Int)+1=((t+1:Nat):Int)from by omega,tX g,bs]
  by_cases g2:w.getD (t+1) 0<w.getD t 0
  ·rw[iM (by omega),zK,hd,pO]
   unfold hdS;simp only[swp];rw[if_pos g2];rfl
  ·rw[iL (by omega),zM,bs,a1,zC (by omega) (by omega),bs,o1,bs,a2,zC (by omega) (by omega),bs]
   refine(fin (fun v=>zPb (enW w) (t:Int) v) fun o=>.inl rfl).trans ?_;have:swp x (w.drop t)=iH:=by rw[hd,pO];simp only[swp];rw[if_neg g2]
   unfold hdS;rw[this]
 ·rw[iL (by omega),zM,tX ht,bs,a1,zC (by omega) (by omega),bs,o1,bs,a2,zC (by omega) (by omega),bs]
  refine(fin (fun v=>zPc (enW w) (t:Int) v) fun o=>.inr rfl).trans ?_;have:swp x (w.drop t)=iH:=by rw[hd,Ly (by omega)];rfl
  unfold hdS;rw[this]
end
end Go.Pl

namespace Go.Pl
open Go Go.Ab Go.Wk Go.Pc
def stI(x:SPr):List Nat→Option (Nat×zEx)
 | []=>iH
 |a::w=>match hdS x (a::w)with
  |some r=>iG (0,r)
  |none=>(stI x w).map fun z=>(z.1+1,z.2)
section
variable {x:SPr}
theorem zLc:∀w:List Nat,stS x w=(stI x w).map fun z=>(z.2.1,z.2.2.1,w.take z.1++z.2.2.2)
 | []=>rfl
 |a::w=>by
  simp only[stS,stI];cases hdS x (a::w)with
  |some r=>rfl
  |none=>
   rw[zLc w];cases stI x w with
   |none=>rfl
   |some z=>rfl
theorem zQq:∀{w:List Nat}{z:Nat×zEx},stI x w=iG z→z.1<w.length∧hdS x (w.drop z.1)=iG z.2
 | [],_,h=>by cases h
 |a::w,z,h=>by
  simp only[stI]at h;cases e:hdS x (a::w)with
  |some r=>
   rw[e]at h;cases h;exact⟨by simp,e⟩
  |none=>
   rw[e]at h;cases e2:stI x w with
   |none=>rw[e2]at h;cases h
   |some q=>
    rw[e2]at h;cases h;obtain⟨h1,h2⟩:=zQq e2;exact⟨by simpa using h1,by simpa using h2⟩
theorem zMY:∀(k i:Nat)(w:List Nat),i+k=w.length→(Kx i k).findSome? (fun j=>if(hdS x (w.drop j)).isSome then iG (j:Int)else iH)=(stI x (w.drop i)).map fun z=>((i+z.1:Nat):Int)
 |0,i,w,h=>by rw[Ly (by omega)];rfl
 |k+1,i,w,h=>by
  rw[Jcw,Jbf,qW (show i<w.length by omega)];simp only[stI];cases e:hdS x (w.getD i 0::w.drop (i+1))with
  |some r=>rfl
  |none=>
   simp only[Ur,Hx,if_false];rw[zMY k (i+1) w (by omega)];cases stI x (w.drop (i+1))with
   |none=>rfl
   |some z=>
    simp only[H3]
    congr 2;omega
section
variable (h:Pres x)
 include h
theorem zBD{w:List Nat}(hw:∀a∈w,a<x.zA.length)(hl:w.length≤1000000):f_X x (enW w)=iG (match stI x w with|some z=>(z.1:Int)|none=> -1):=by
 have gj:(enW w).length=w.length:=by simp
 unfold f_X;have:=zJ8 (body:=zV8 x (enW w)) w.length (fun j=>if(hdS x (w.drop j)).isSome then iG (j:Int)else iH) 0 (Kg _) (fun i _ hi _=>by
  unfold zV8;rw[gj,yR hi,zK,zID h hw hl hi,bs];cases hdS x (w.drop i)with
  |some r=>rfl
  |none=>
   simp only[Ur];rw[zM,zC (by omega) (by omega),bs,cs];rfl) (fun _=>by
  unfold zV8;rw[gj,vE,zM])
 rw[show((0:Nat):Int)=0 from rfl,Ui,zMY w.length 0 w (by omega),Ge]at this;rw[this,bs];cases stI x w with
 |none=>rfl
 |some z=>simp only[H3,zMf,Jc]
theorem zIE{v:List Int}(hn:x.zA.length≤6)(hv:zZb x.zA v):f_y v=iG (enW (nw 0 v))∧(nw 0 v).length≤36:=by
 have hb:∀i,i<v.length→0≤at0 v i∧at0 v i≤6:=fun i hi=>by have h1:=hv.2 i hi;have h2:=(h.os.2 i (by have:=hv.1;omega)).pos;omega
 have:=zGa 0 v fun i hi=>(hb i hi).2
 have hl:=hv.1;exact⟨zAm (by omega) hb,by omega⟩
theorem zDc(hn:x.zA.length≤6){w:List Nat}(hw:∀a∈w,a<x.zA.length)(hl:w.length≤900000){t:Nat}{r:zEx}(ht:t<w.length)(hr:hdS x (w.drop t)=iG r):zPa x (enW w) (t:Int)=iG (enW (w.take t++r.2.2)):=by
 have gr:∀i,i<w.length→w.getD i 0<x.zA.length:=fun i hi=>hw _ (by rw[J2,J3 hi];exact K8 hi)
 have ha:=gr t ht;obtain⟨o1,o2,o3⟩:=jF h ha;have gj:(enW w).length=w.length:=by simp
 have hd:=qW ht;have a1:((w.getD t 0:Nat):Int)+1-1=((w.getD t 0:Nat):Int):=by omega
 have a2:(t:Int)+((yH x (w.getD t 0):Nat):Int)=((t+yH x (w.getD t 0):Nat):Int):=by omega
 obtain⟨p1,p2⟩:=zIE h hn (h.tl _ ha).1.1;have h0:yD (enW w) 0 (t:Int)=iG (enW (w.take t)):=by have:=zD0 (w:=w) (Kg t) (by omega);rw[show((0:Nat):Int)=0 from rfl,Ge,Ui]at this;exact this
 have hs:∀q,q≤w.length→yD (enW w) (q:Int) (w.length:Int)=iG (enW (w.drop q)):=fun q hq=>by rw[zD0 hq (Jh _),Jt (by rw[K3];omega)]
 have pw:swp x (w.drop t)=iH→(rng (((w.getD t 0:Nat):Int)+1-1)).bind (fun v3=>(yD (enW w) 0 (t:Int)).bind fun v4=>(ixO x.zS v3).bind fun v5=>(f_y v5).bind fun r6=>(ixO x.zA v3).bind fun v7=>(rng ((t:Int)+v7)).bind fun v8=>(yD (enW w) v8 (w.length:Int)).bind fun v9=>(f_q [v4,r6,v9]).bind fun r10=>iG r10)=iG (enW (w.take t++r.2.2)):=fun mo=>by
  unfold hdS at hr;rw[mo]at hr;simp only at hr;rw[hd]at hr;simp only[pws]at hr;split at hr
  ·rename_i g
   have eB:=zBC g;rw[←hd,K3]at eB;cases hr;rw[a1,zC (by omega) (by omega),bs,h0,bs,yO [] (by rw[h.pl];exact ha),bs,p1,bs,o1,bs,a2,zC (by omega) (by omega),bs,hs _ (by omega),bs,sZ (by simp) (by simp only[Ku,G1,J5,Ji,Kc,K3,Jq,J7,enW];omega),bs];simp only[Ku,G1,Je,enW,L8];rw[←hd,Jbi]
  ·cases hr
 unfold zPa;rw[gj,zC (by omega) (by omega),bs]
 by_cases g:t+1<w.length
 ·have pO:=qW g
  have hb:=gr _ g;rw[iM (by omega),zK,tX ht,bs,bs,show(t:Int)+1=((t+1:Nat):Int)from by omega,tX g,bs]
  by_cases g2:w.getD (t+1) 0<w.getD t 0
  ·rw[hd,pO]at hr
   unfold hdS at hr;simp only[swp]at hr;rw[if_pos g2]at hr;cases hr;have fL:=h.tl _ hb;have bY:=fL.2.2 (w.getD t 0-(w.getD (t+1) 0+1)) (by have:=fL.2.1;omega);obtain⟨q1,q2⟩:=zIE h hn bY.1;have b1:((w.getD (t+1) 0:Nat):Int)+1-1=((w.getD (t+1) 0:Nat):Int):=by omega
   have b2:((w.getD t 0:Nat):Int)-((w.getD (t+1) 0:Nat):Int)-1=((w.getD t 0-(w.getD (t+1) 0+1):Nat):Int):=by omega
   rw[iM (by omega),zK,bs,a1,zC (by omega) (by omega),bs,bs,tX g,bs,b1,zC (by omega) (by omega),bs,h0,bs,zC (by omega) (by omega),bs,yO [] (by rw[h.cl];exact hb),bs,zC (by omega) (by omega),bs,b2,zC (by omega) (by omega),bs,yO [] (by have:=fL.2.1;omega),bs,q1,bs,zC (by omega) (by omega),bs,show(t:Int)+2=((t+2:Nat):Int)from by omega,hs _ (by omega),bs,sZ (by simp) (by simp only[Ku,G1,J5,Ji,Kc,K3,Jq,J7,enW];omega),bs];simp only[Ku,G1,Je,enW,L8,Jn,K6,Jv]
  ·rw[iL (by omega),zM,bs]
   exact pw (by rw[hd,pO];simp only[swp];rw[if_neg g2])
 ·rw[iL (by omega),zM,tX ht,bs]
  exact pw (by rw[hd,Ly (by omega)];rfl)
end
end
end Go.Pl

namespace Go.Pl
open Go Go.Ab Go.Wk Go.Pc
def smx(p:Int)(D N:Nat)(F:Nat→Nat→Nat→Int):List zQ:=gl N fun r=>zQ.mk p (D:Int) (gl D fun i=>mkv D fun j=>F r i j%p)
def upd(F:Nat→Nat→Nat→Int)(s:Int)(r0:Nat)(A:Mx)(c:Nat):Nat→Nat→Nat→Int:=fun r i j=>F r i j+if r=r0∧i<c then s*ent A i j else 0
theorem zBE{β:Type}{n:Nat}{f g:Nat→β}(h:∀i,i<n→f i=g i):gl n f=gl n g:=by simp only[gl];exact Qd fun i hi=>h i (Kn.1 hi)
section
variable {x:SPr}{m:zB}{D N:Nat}{s:Int}{r0:Nat}{A:Mx}{T0:List zQ}
theorem zGl(hp:Prime m.Prime)(hD:D≤3)(hN:N≤100)(hs:-7≤s∧s≤7)(hr:r0<N)(hA:Mat m.Prime D A){F:Nat→Nat→Nat→Int}{L:(List zQ)×Int→Option (((List zQ)×Int)⊕(List zQ))}
  (hL:L=zV5 ⟨x,m,T0⟩ s (r0:Int) (zQ.mk m.Prime (D:Int) A)∨L=zV6 ⟨x,m,T0⟩ s (r0:Int) (zQ.mk m.Prime (D:Int) A)∨L=zV7 ⟨x,m,T0⟩ s (r0:Int) (zQ.mk m.Prime (D:Int) A)):
  zI L (smx m.Prime D N F,0)=iG (smx m.Prime D N (upd F s r0 A D)):=by
 have ax:=hp.pos;have fS:=hA.1;have gD:∀c,c<D→ ∀(k:Nat),(c:Int)+1=(k:Int)→((ixO A (c:Int)).bind fun v10=>(ixO (smx m.Prime D N (upd F s r0 A c)) (r0:Int)).bind fun v11=>(ixO v11.Rows (c:Int)).bind fun v12=>(f_v v12 v10 s m.Prime).bind fun r13=>(rng ((c:Int)+1)).bind fun v14=>
   (iG (.inl ((smx m.Prime D N (upd F s r0 A c)).set (r0:Int).toNat (zQ.mk v11.Prime v11.xJ (v11.Rows.set (c:Int).toNat r13)),v14)):Option (((List zQ)×Int)⊕(List zQ))))=iG (.inl (smx m.Prime D N (upd F s r0 A (c+1)),((c+1:Nat):Int))):=fun c hc k _=>by
  have eO:Row m.Prime D (mkv D fun j=>upd F s r0 A c r0 c j%m.Prime):=⟨zY _ _,fun j hj=>by rw[yB hj];exact⟨L4 _ (show m.Prime≠0 by omega),by have:=Kk (upd F s r0 A c r0 c j) (show 0<m.Prime by omega);omega⟩⟩
  rw[yO [] (by omega),bs,smx,zAh hr,bs];simp only
  rw[zAh hc,bs,zB8 hp eO (hA.2 c hc) hs (by omega),bs,zC (by omega) (by omega),bs,J8,J8,zCW,zCW,cs]
  congr 3
  refine zBE fun r _=>?_
  by_cases g:r=r0
  ·rw[if_pos g,g]
   congr 1
   refine zBE fun i _=>?_
   by_cases g2:i=c
   ·rw[if_pos g2,g2,vW]
    refine zZ fun j hj=>?_
    rw[yB hj,upd,upd,if_neg (fun z=>absurd z.2 (Jbk c)),if_pos ⟨rfl,Nat.lt_succ_self c⟩,H0];show(F r0 c j%m.Prime+s*ent A c j)%m.Prime=_;rw[Jcc]
   ·rw[if_neg g2]
    refine zZ fun j hj=>?_
    rw[upd,upd]
    by_cases g3:i<c
    ·rw[if_pos ⟨rfl,g3⟩,if_pos ⟨rfl,by omega⟩]
    ·rw[if_neg (fun z=>g3 z.2),if_neg (fun z=>g3 (by omega))]
  ·rw[if_neg g]
   congr 1
   refine zBE fun i _=>zZ fun j _=>?_
   rw[upd,upd,if_neg (fun z=>g z.1),if_neg (fun z=>g z.1)]
 have:=zX (body:=L) (r:=smx m.Prime D N (upd F s r0 A D)) (fun c=>(smx m.Prime D N (upd F s r0 A c),(c:Int))) D (fun c hc=>by
  rcases hL with rfl|rfl|rfl
  ·unfold zV5
   simp only
   rw[show((A.length:Nat):Int)=(D:Int)from by rw[fS],yR hc,zK];exact gD c hc (c+1) (by omega)
  ·unfold zV6
   simp only
   rw[show((A.length:Nat):Int)=(D:Int)from by rw[fS],yR hc,zK];exact gD c hc (c+1) (by omega)
  ·unfold zV7
   simp only
   rw[show((A.length:Nat):Int)=(D:Int)from by rw[fS],yR hc,zK];exact gD c hc (c+1) (by omega)) (by
  rcases hL with rfl|rfl|rfl
  ·unfold zV5
   simp only
   rw[show((A.length:Nat):Int)=(D:Int)from by rw[fS],vE,zM]
  ·unfold zV6
   simp only
   rw[show((A.length:Nat):Int)=(D:Int)from by rw[fS],vE,zM]
  ·unfold zV7
   simp only
   rw[show((A.length:Nat):Int)=(D:Int)from by rw[fS],vE,zM])
 rw[show smx m.Prime D N (upd F s r0 A 0)=smx m.Prime D N F from zBE fun r _=>by
  congr 1
  refine zBE fun i _=>zZ fun j _=>?_
  rw[upd,if_neg (fun z=>Qf _ z.2),H0]]at this
 exact this
end
theorem zTX:∀n:Nat,n<7→ ∀j:Nat,j<n→ ∀i:Nat,i<j→((rng ((n:Int)-1)).bind fun v10=>(rng ((i:Int)*v10)).bind fun v11=>(rng ((n:Int)+v11)).bind fun v12=>(rng ((i:Int)-1)).bind fun v13=>(rng ((i:Int)*v13)).bind fun v14=>(sH v14 2).bind fun v15=>(rng (v12-v15)).bind fun v16=>(rng (v16+(j:Int))).bind fun v17=>(rng (v17-(i:Int))).bind fun v18=>(rng (v18-1)).bind fun v19=>iG v19)=iG ((base n i+(j-(i+1)):Nat):Int):=by decide+kernel
end Go.Pl

namespace Go.Pl
open Go Go.Ab Go.Wk Go.Pc
section
variable {x:SPr}{m:zB}{D:Nat}{T0:List zQ} (h:Pres x) (hn:x.zA.length≤6) (hD:MOk x.zA.length m D)
 include h hn
theorem zGI{w:List Nat}(hw:∀a∈w,a<x.zA.length)(hl:w.length≤900000){t:Nat}{r:zEx}(ht:t<w.length)(hr:hdS x (w.drop t)=iG r):zXn ⟨x,m,T0⟩ (enW w) (t:Int)=iG (r.1:Int):=by
 have _:=h;have gr:∀i,i<w.length→w.getD i 0<x.zA.length:=fun i hi=>hw _ (by rw[J2,J3 hi];exact K8 hi)
 have ha:=gr t ht;have gj:(enW w).length=w.length:=by simp
 have hd:=qW ht;have a1:((w.getD t 0:Nat):Int)+1-1=((w.getD t 0:Nat):Int):=by omega
 have pw:swp x (w.drop t)=iH→(rng (((w.getD t 0:Nat):Int)+1-1)).bind (fun v3=>iG v3)=iG (r.1:Int):=fun mo=>by
  unfold hdS at hr;rw[mo]at hr;simp only at hr;rw[hd]at hr;simp only[pws]at hr;split at hr
  ·cases hr
   rw[a1,zC (by omega) (by omega),bs]
  ·cases hr
 unfold zXn;rw[gj,zC (by omega) (by omega),bs]
 by_cases g:t+1<w.length
 ·have pO:=qW g
  have hb:=gr _ g;rw[iM (by omega),zK,tX ht,bs,bs,show(t:Int)+1=((t+1:Nat):Int)from by omega,tX g,bs]
  by_cases g2:w.getD (t+1) 0<w.getD t 0
  ·rw[hd,pO]at hr
   unfold hdS at hr;simp only[swp]at hr;rw[if_pos g2]at hr;cases hr;have b1:((w.getD (t+1) 0:Nat):Int)+1-1=((w.getD (t+1) 0:Nat):Int):=by omega
   rw[iM (by omega),zK,bs,a1,zC (n:=((w.getD t 0:Nat):Int)) (by omega) (by omega),bs,bs,tX g,bs,b1,zC (n:=((w.getD (t+1) 0:Nat):Int)) (by omega) (by omega),bs];exact zTX x.zA.length (by omega) (w.getD t 0) ha (w.getD (t+1) 0) g2
  ·rw[iL (by omega),zM,bs]
   exact pw (by rw[hd,pO];simp only[swp];rw[if_neg g2])
 ·rw[iL (by omega),zM,tX ht,bs]
  exact pw (by rw[hd,Ly (by omega)];rfl)
 include hD
theorem zGm{w:List Nat}(hw:∀a∈w,a<x.zA.length)(hl:w.length≤60000){t:Nat}{r:zEx}(ht:t<w.length)(hr:hdS x (w.drop t)=iG r){s:Int}(hs:-7≤s∧s≤7){F:Nat→Nat→Nat→Int}:
  f_k ⟨x,m,smx m.Prime D (base x.zA.length x.zA.length) F⟩ (enW w) (t:Int) s=iG (enW (w.take t++r.2.2),⟨x,m,smx m.Prime D (base x.zA.length x.zA.length) (upd F s r.1 (wM m.Prime D m.zF r.2.1 (idM D)) D)⟩):=by
 have hp:=hD.p.pos;have h3:=hD.d3;have cS:=wT x.zA.length (by omega);have gr:∀i,i<w.length→w.getD i 0<x.zA.length:=fun i hi=>hw _ (by rw[J2,J3 hi];exact K8 hi)
 have ha:=gr t ht;obtain⟨o1,o2,o3⟩:=jF h ha;have gj:(enW w).length=w.length:=by simp
 have hd:=qW ht;have a1:((w.getD t 0:Nat):Int)+1-1=((w.getD t 0:Nat):Int):=by omega
 have a2:(t:Int)+((yH x (w.getD t 0):Nat):Int)=((t+yH x (w.getD t 0):Nat):Int):=by omega
 have u7:=zYg hn (fun a ha=>hw a (Us ha)) hr;have hA:∀z,Mat m.Prime D (wM m.Prime D m.zF z (idM D)):=fun z=>zBZ (by omega) _ (tA (by omega))
 have gJ:∀q,q≤w.length→yD (enW w) (q:Int) (w.length:Int)=iG (enW (w.drop q)):=fun q hq=>by rw[zD0 hq (Jh _),Jt (by rw[K3];omega)]
 have bE:∀q,q≤w.length→f_H m (enW (w.drop q))=iG (zQ.mk m.Prime (D:Int) (wM m.Prime D m.zF (w.drop q) (idM D))):=fun q hq=>
  zBl hD (by omega) (fun a ha=>hw a (Us ha)) (by rw[K3];omega)
 have pw:swp x (w.drop t)=iH→r.2.1=w.drop (t+yH x (w.getD t 0))∧t+yH x (w.getD t 0)≤w.length:=fun mo=>by
  unfold hdS at hr;rw[mo]at hr;simp only at hr;rw[hd]at hr;simp only[pws]at hr;split at hr
  ·rename_i g
   have eB:=zBC g;rw[←hd,K3]at eB;cases hr;exact⟨by rw[←hd,Jbi],by omega⟩
  ·cases hr
 unfold f_k;rw[zGI h hn hw (by omega) ht hr,bs,zDc h hn hw (by omega) ht hr,bs,gj,zC (by omega) (by omega),bs]
 by_cases g:t+1<w.length
 ·have pO:=qW g
  have hb:=gr _ g;rw[iL (by omega),zM,tX ht,bs,bs,show(t:Int)+1=((t+1:Nat):Int)from by omega,tX g,bs]
  by_cases g2:w.getD (t+1) 0<w.getD t 0
  ·rw[hd,pO]at hr
   unfold hdS at hr;simp only[swp]at hr;rw[if_pos g2]at hr;cases hr;rw[iL (by omega),zM,zC (by omega) (by omega),bs,show(t:Int)+2=((t+2:Nat):Int)from by omega,gJ _ (by omega),bs,bE _ (by omega),bs,zGl hD.p h3 (by omega) hs u7 (hA _) (.inr (.inr rfl)),bs]
  ·obtain⟨e1,e2⟩:=pw (by rw[hd,pO];simp only[swp];rw[if_neg g2])
   rw[iM (by omega),zK,bs,a1,zC (by omega) (by omega),bs,o1,bs,a2,zC (by omega) (by omega),bs,gJ _ e2,bs,bE _ e2,bs,zGl hD.p h3 (by omega) hs u7 (hA _) (.inr (.inl rfl)),bs,e1]
 ·obtain⟨e1,e2⟩:=pw (by rw[hd,Ly (by omega)];rfl)
  rw[iM (by omega),zK,tX ht,bs,a1,zC (by omega) (by omega),bs,o1,bs,a2,zC (by omega) (by omega),bs,gJ _ e2,bs,bE _ e2,bs,zGl hD.p h3 (by omega) hs u7 (hA _) (.inl rfl),bs,e1]
end
end Go.Pl

namespace Go.Pl
open Go Go.Ab Go.Wk Go.Pc
inductive Cb (x:SPr) (M:Nat):List Nat→Trc→List Nat→Prop where
 |refl (w:List Nat) (hl:w.length≤M) (hw:∀a∈w,a<x.zA.length):Cb x M w [] w
 |step {w w1 w' s:List Nat}{r:Nat}{tr:Trc} (hl:w.length≤M) (hw:∀a∈w,a<x.zA.length) (hs:stS x w=iG (r,s,w1)) (h:Cb x M w1 tr w'):Cb x M w ((r,s)::tr) w'
theorem Cb.st{x:SPr}{M:Nat}{w w':List Nat}{tr:Trc}(h:Cb x M w tr w'):w.length≤M∧ ∀a∈w,a<x.zA.length:=by
 cases h with
 |refl _ hl hw=>exact⟨hl,hw⟩
 |step hl hw _ _=>exact⟨hl,hw⟩
def zDC(m:zB)(D:Nat)(s:Int):(Nat→Nat→Nat→Int)→Trc→Nat→Nat→Nat→Int
 |F,[]=>F
 |F,(r,z)::tr=>zDC m D s (upd F s r (wM m.Prime D m.zF z (idM D)) D) tr
theorem zLd{m:zB}{D:Nat}{s:Int}{r i j:Nat}(hi:i<D):∀(tr:Trc)(F:Nat→Nat→Nat→Int),zDC m D s F tr r i j=F r i j+s*zBn m.Prime D m tr r i j
 | [],F=>by rw[zDC,zBn,Kw,H0]
 |(q,z)::tr,F=>by
  rw[zDC,zLd hi tr,upd,zBn,Qt,Int.add_assoc]
  congr 2
  by_cases g:q=r
  ·rw[if_pos g,if_pos ⟨g.symm,hi⟩]
  ·rw[if_neg g,if_neg fun z=>g z.1.symm,Kw]
abbrev zO8(x:SPr)(w:List Nat):Int:=match stI x w with
 |some z=>(z.1:Int)
 |none=> -1
section
variable {x:SPr}{m:zB}{D:Nat} (h:Pres x) (hn:x.zA.length≤6) (hD:MOk x.zA.length m D)
 include h hn hD
theorem zLe{s:Int}(hs:-7≤s∧s≤7){w w':List Nat}{tr:Trc}(hc:Cb x 60000 w tr w')(eK:stS x w'=iH):∀F:Nat→Nat→Nat→Int,
  zI (zRQ s) (x,m,smx m.Prime D (base x.zA.length x.zA.length) F,enW w,zO8 x w)=iG (x,m,smx m.Prime D (base x.zA.length x.zA.length) (zDC m D s F tr)):=by
 induction hc with
 |refl w hl hw=>
  intro F;have e:zO8 x w= -1:=by
   rw[zLc]at eK;unfold zO8;cases g:stI x w with
   |none=>rfl
   |some z=>rw[g]at eK;cases eK
  rw[xK,e];unfold zRQ;simp only
  rw[iL (by omega),zM];rfl
 |step hl hw gD hc ih=>
  rename_i w w1 w2 z r tr;intro F;rw[zLc]at gD;cases g:stI x w with
  |none=>rw[g]at gD;cases gD
  |some q=>
   rw[g]at gD;obtain⟨t,q⟩:=q;simp only[H3,Lu.injEq,Jal.injEq]at gD;obtain⟨e1,e2,e3⟩:=gD;obtain⟨ht,hh⟩:=zQq g;simp only at ht hh;have fj:=hc.st;have e:zO8 x w=(t:Int):=by unfold zO8;rw[g]
   have h1:=zGm h hn hD hw hl ht hh hs (F:=F);rw[e3,e1,e2]at h1;have h2:=zBD h fj.2 (by omega);rw[xK,e];have hb:zRQ s (x,m,smx m.Prime D (base x.zA.length x.zA.length) F,enW w,(t:Int))=iG (.inl (x,m,smx m.Prime D (base x.zA.length x.zA.length) (upd F s r (wM m.Prime D m.zF z (idM D)) D),enW w1,zO8 x w1)):=by
    unfold zRQ;simp only
    rw[iM (by omega),zK];refine(congrArg (fun o=>Hw o _) h1).trans ?_;rw[bs];simp only
    rw[h2,bs]
    try rfl
   rw[hb];simp only
   exact ih eK _
theorem zFw{s:Int}(hs:-7≤s∧s≤7){w w':List Nat}{tr:Trc}(hc:Cb x 60000 w tr w')(eK:stS x w'=iH)(F:Nat→Nat→Nat→Int):
  f_s ⟨x,m,smx m.Prime D (base x.zA.length x.zA.length) F⟩ (enW w) s=iG ⟨x,m,smx m.Prime D (base x.zA.length x.zA.length) (zDC m D s F tr)⟩:=by
 have fj:=hc.st;unfold f_s;rw[show f_X (xR.p ⟨x,m,smx m.Prime D (base x.zA.length x.zA.length) F⟩) (enW w)=iG (zO8 x w)from zBD h fj.2 (by omega),bs];have:=zLe h hn hD hs hc eK F;refine(congrArg (fun o=>Hw o _) this).trans ?_;rw[bs]
end
end Go.Pl

namespace Go.Pl
open Go Go.Ab Go.Wk Go.Pc
inductive Cl (x:SPr) (k M:Nat):List Nat→Trc→List Nat→Prop where
 |refl (w:List Nat) (hl:w.length≤M) (hw:∀a∈w,k≤a∧a<x.zA.length):Cl x k M w [] w
 |step {w w1 w' s:List Nat}{r:Nat}{tr:Trc} (hl:w.length≤M) (hw:∀a∈w,k≤a∧a<x.zA.length) (hs:stS x w=iG (r,s,w1)) (h:Cl x k M w1 tr w'):Cl x k M w ((r,s)::tr) w'
theorem Cl.trans{x:SPr}{k M:Nat}{w w1 w2:List Nat}{t1 t2:Trc}(h:Cl x k M w t1 w1)(h2:Cl x k M w1 t2 w2):Cl x k M w (t1++t2) w2:=by
 induction h with
 |refl w=>exact h2
 |step hl hw hs _ ih=>exact .step hl hw hs (ih h2)
theorem Cl.mono{x:SPr}{k M M2:Nat}(hM:M≤M2){w w':List Nat}{tr:Trc}(h:Cl x k M w tr w'):Cl x k M2 w tr w':=by
 induction h with
 |refl w hl hw=>exact .refl _ (by omega) hw
 |step hl hw hs _ ih=>exact .step (by omega) hw hs ih
theorem Cl.cb{x:SPr}{k M:Nat}{w w':List Nat}{tr:Trc}(h:Cl x k M w tr w'):Cb x M w tr w':=by
 induction h with
 |refl w hl hw=>exact .refl _ hl fun a ha=>(hw a ha).2
 |step hl hw hs _ ih=>exact .step hl (fun a ha=>(hw a ha).2) hs ih
theorem Cl.col{x:SPr}{k M:Nat}{w w':List Nat}{tr:Trc}(h:Cl x k M w tr w'):Col x k w tr w':=by
 induction h with
 |refl w hl hw=>exact .refl _
 |step hl hw hs _ ih=>exact .step hw hs ih
section
variable {x:SPr} (h:Pres x)
 include h
theorem zQr:∀(d k:Nat),k+d=x.zA.length→ ∀y,V (suf x k) y→(nw k y).length≤6*d
 |0,k,hk,y,hy=>by
  rw[vT (x:=x) (k:=k) (by omega)]at hy;cases y with
  |nil=>simp[nw]
  |cons b y=>cases hy
 |d+1,k,hk,y,hy=>by
  have hp:=(h.os.2 k (by omega)).pos;rw[yG (x:=x) (by omega)]at hy;cases y with
  |nil=>exact hy.elim
  |cons b y=>
   obtain⟨⟨h1,h2⟩,h3⟩:=hy;have ih:=zQr d (k+1) (by omega) y h3;have cD:b<at0 x.zA k:=h2;simp only[nw,J5,Jb];omega
theorem Cl.ctx{i a M:Nat}(hi:i<x.zA.length)(ha:a<yH x i){s:List Nat}(hs:∀b∈s,i≤b∧b<x.zA.length){w w':List Nat}{tr:Trc}(hc:Cl x (i+1) M w tr w'):
  Cl x i (a+M+s.length) (J1 a i++(w++s)) (tr.map fun q=>(q.1,q.2++s)) (J1 a i++(w'++s)):=by
 have mem:∀{w:List Nat},(∀b∈w,i+1≤b∧b<x.zA.length)→ ∀b∈J1 a i++(w++s),i≤b∧b<x.zA.length:=fun hw b hb=>by
  simp only[Jd]at hb;rcases hb with hb|hb|hb
  ·have:=K9 hb;omega
  ·have:=hw b hb;omega
  ·exact hs b hb
 induction hc with
 |refl w hl hw=>exact .refl _ (by simp;omega) (mem hw)
 | @step w w1 w' s1 r tr hl hw gD _ ih=>
  refine .step (by simp;omega) (mem hw) ?_ ih;rw[zEy ha a (Jh _) fun b hb=>?_,zKR (fun b hb=>zKU h (hw b hb).2) gD]
  ·rfl
  ·cases w with
   |nil=>cases gD
   |cons c w=>
    simp only[K6,Qn,Lu.injEq]at hb;have:=hw c (by simp);omega
theorem zLf(hn:x.zA.length≤6){i j:Nat}(hi:i<j)(hj:j<x.zA.length):(nw 0 (lcj x i j)).length≤36:=(zIE h hn (uB h hi hj).1).2
theorem zQs(hn:x.zA.length≤6){i:Nat}:∀{ur:List Nat},(∀b∈ur,i+1≤b∧b<x.zA.length)→(cwd x i ur).length≤36*ur.length
 | [],_=>by simp[cwd]
 |l::ur,hu=>by
  have h1:=hu l (by simp);have h2:=zLf h hn (show i<l by omega) h1.2;have ih:=zQs hn (ur:=ur) fun b hb=>hu b (by simp[hb])
  simp only[cwd,J5,J7];omega
theorem Cl.move(hn6:x.zA.length≤6){i a:Nat}(hi:i<x.zA.length)(ha:a<yH x i):∀{ur:List Nat},(∀b∈ur,i+1≤b∧b<x.zA.length)→stS x ur.reverse=iH→ ∀{z:List Nat},(∀b∈z,i≤b∧b<x.zA.length)→
  Cl x i (a+1+37*ur.length+z.length) (J1 a i++(ur.reverse++i::z)) (mtr x i ur z) (J1 (a+1) i++(cwd x i ur++z))
 | [],_,_,z,hz=>by
  have e:J1 a i++(([]:List Nat).reverse++i::z)=J1 (a+1) i++(cwd x i []++z):=by rw[Lw];simp[cwd]
  rw[e];refine .refl _ (by simp[cwd]) fun b hb=>?_
  simp only[Jd,cwd,Jv]at hb;rcases hb with hb|hb
  ·have:=K9 hb;omega
  ·exact hz b hb
 |l::ur,hu,hn,z,hz=>by
  obtain⟨l1,l2⟩:=hu l (by simp);have fU:∀b∈ur,i+1≤b∧b<x.zA.length:=fun b hb=>hu b (by simp[hb])
  have cZ:=tB h (uB h (show i<l by omega) l2) hi;have bj:=zLf h hn6 (show i<l by omega) l2;rw[Ul]at hn ⊢
  have bg:=zGA (fun b hb=>zKU h (fU b (by simpa using hb)).2) hn;have eR:∀b∈nw 0 (lcj x i l)++z,i≤b∧b<x.zA.length:=fun b hb=>by
   simp only[Jd]at hb;rcases hb with hb|hb
   ·have:=cZ.2 b hb;omega
   ·exact hz b hb
  have ih:=(Cl.move hn6 hi ha fU bg eR).mono (M2:=a+1+37*(l::ur).length+z.length) (by rw[J5,J7];omega);rw[show cwd x i (l::ur)++z=cwd x i ur++(nw 0 (lcj x i l)++z)from by simp[cwd]];have e1:ur.reverse++[l]++i::z=ur.reverse++l::i::z:=by simp
  rw[e1];refine .step (by simp;omega) (fun b hb=>?_) ?_ ih
  ·simp only[Jd,J9,Jbx]at hb
   rcases hb with hb|hb|hb|hb|hb
   ·have:=K9 hb;omega
   ·have:=fU b hb;omega
   ·omega
   ·omega
   ·exact hz b hb
  ·rw[zEy ha a (Jh _) fun b hb=>?_,zTE (fun b hb=>by have:=fU b (by simpa using hb);omega) (by omega) hn]
   ·rfl
   ·have:b∈ur.reverse++l::i::z:=Jaz (by rw[hb];rfl)
    cases e:ur.reverse with
    |nil=>rw[e]at hb;simp only[Jv,Qn,Lu.injEq]at hb;omega
    |cons c t=>
     rw[e]at hb;simp only[K6,Qn,Lu.injEq]at hb;have:=fU c (by rw[←Jbx,e];simp);omega
end
end Go.Pl

namespace Go.Pl
open Go Go.Ab Go.Wk Go.Pc
section
variable {x:SPr} (h:Pres x) (hn:x.zA.length≤6)
 include h hn
theorem zLg{k M W L:Nat}(hk:k<x.zA.length)(P:∀v:List Nat,v.length≤W→(∀a∈v,k+1≤a∧a<x.zA.length)→ ∃tr y,Cl x (k+1) M v tr (nw (k+1) y)∧V (suf x (k+1)) y):∀(z:List Nat),z.length≤L→(∀a∈z,k≤a∧a<x.zA.length)→ ∀(a:Nat),a<yH x k→ ∀(v:List Nat),v.length+z.length≤W→1400+z.length≤W→(∀a∈v,k+1≤a∧a<x.zA.length)→
  ∃tr y,Cl x k (M+L+1500) (J1 a k++(v++z)) tr (nw k y)∧V (suf x k) y
 | [],_,_,a,ha,v,pi,_,hv=>by
  obtain⟨tr,y,c1,c2⟩:=P v (by simpa using pi) hv;have ho:=(jF h hk).2.2;have hc:=(Cl.ctx h hk ha (s:=[]) (fun b hb=>by simp at hb) c1).mono (M2:=M+L+1500) (by simp;omega);rw[show(fun q:Nat×List Nat=>(q.1,q.2++[]))=id from by funext q;simp,List.map_id,Je,Je]at hc;refine⟨tr,(a:Int)::y,?_,?_⟩
  ·simp only[nw,J8];rw[Je];exact hc
  ·rw[yG hk]
   refine⟨⟨by omega,?_⟩,c2⟩;show(a:Int)<at0 x.zA k;have:a<(at0 x.zA k).toNat:=ha;omega
 |l::z,pW,hz,a,ha,v,pi,hW,hv=>by
  have ho:=(jF h hk).2.2;have hzl2:z.length+1≤L:=by simpa using pW
  have pX:v.length+(z.length+1)≤W:=by simpa using pi
  have hW2:1400+(z.length+1)≤W:=by simpa using hW
  have eR:∀b∈z,k≤b∧b<x.zA.length:=fun b hb=>hz b (by simp[hb])
  obtain⟨l1,l2⟩:=hz l (by simp);rcases Jj k l with g|g
  ·obtain⟨tr,y,c1,c2⟩:=zLg (L:=L) hk P z (by omega) eR a ha (v++[l]) (by simp;omega) (by omega) (fun b hb=>by
    simp only[Jd,List.mem_singleton]at hb;rcases hb with hb|rfl
    ·exact hv b hb
    ·omega)
   exact⟨tr,y,by rw[Jf]at c1;exact c1,c2⟩
  ·obtain rfl:l=k:=by omega
   obtain⟨tr1,y1,c1,c2⟩:=P v (by omega) hv;have gQ:=zQg h (show l+1≤x.zA.length by omega) c2;have p6:∀b∈(nw (l+1) y1).reverse,l+1≤b∧b<x.zA.length:=fun b hb=>gQ b (by simpa using hb)
   have fq:(nw (l+1) y1).length≤36:=by have:=zQr h (x.zA.length-(l+1)) (l+1) (by omega) y1 c2;omega
   have gC:(cwd x l (nw (l+1) y1).reverse).length≤1296:=by have:=zQs h hn p6;rw[Jan]at this;omega
   have k1:=(Cl.ctx h hk ha (s:=l::z) hz c1).mono (M2:=M+L+1500) (by simp;omega);have k2:=(Cl.move h hn hk ha p6 (by rw[Km];exact zGj h _ _ (by omega:l+1+(x.zA.length-(l+1))=x.zA.length) y1 c2) eR).mono (M2:=M+L+1500) (by rw[Jan];omega);rw[Km]at k2;have pf:=zKV h p6;rcases Jj (a+1) (yH x l)with g2|g2
   ·obtain⟨tr2,y2,d1,d2⟩:=zLg (L:=L) hk P z (by omega) eR (a+1) g2 (cwd x l (nw (l+1) y1).reverse) (by omega) (by omega) pf
    exact⟨_,y2,k1.trans (k2.trans d1),d2⟩
   ·have g4:a+1=yH x l:=by omega
    have pd:=qK h hk;have pI:=tB h pd hk;have cX:=(zIE h hn pd.1).2;have d6:∀b∈nw 0 (x.zS.getD l [])++cwd x l (nw (l+1) y1).reverse,l+1≤b∧b<x.zA.length:=fun b hb=>by
     simp only[Jd]at hb;rcases hb with hb|hb
     ·exact pI.2 b hb
     ·exact pf b hb
    obtain⟨tr2,y2,d1,d2⟩:=zLg (L:=L) hk P z (by omega) eR 0 (by omega) _ (by rw[J5];omega) (by omega) d6;rw[H2,Jv,Jf]at d1;have k3:Cl x l (M+L+1500) (J1 (a+1) l++(cwd x l (nw (l+1) y1).reverse++z)) ((l,cwd x l (nw (l+1) y1).reverse++z)::tr2) (nw l y2):=by
     refine .step (by rw[J5,J5,Jb];omega) (fun b hb=>?_) (by rw[g4];exact zXS (zKU h hk) _) d1;simp only[Jd]at hb;rcases hb with hb|hb|hb
     ·have:=K9 hb;omega
     ·have:=pf b hb;omega
     ·exact eR b hb
    exact⟨_,y2,k1.trans (k2.trans k3),d2⟩
def lnB:Nat→Nat→Nat
 |0,l=>l
 |d+1,l=>lnB d (l+1400)+l+1500
theorem zYi:∀(d k:Nat),k+d=x.zA.length→ ∀(L:Nat)(z:List Nat),z.length≤L→(∀a∈z,k≤a∧a<x.zA.length)→ ∃tr y,Cl x k (lnB d L) z tr (nw k y)∧V (suf x k) y
 |0,k,hk,L,z,_,hz=>by
  have:z=[]:=by
   cases z with
   |nil=>rfl
   |cons a z=>have:=hz a (by simp);omega
  subst this;exact⟨[],[],.refl _ (by simp) (by simp),by rw[vT (x:=x) (k:=k) (by omega)];rfl⟩
 |d+1,k,hk,L,z,hl,hz=>by have ho:=zKU h (show k<x.zA.length by omega);obtain⟨tr,y,c1,c2⟩:=zLg h hn (M:=lnB d (L+1400)) (W:=L+1400) (L:=L) (show k<x.zA.length by omega) (fun v hv hvm=>zYi d (k+1) (by omega) (L+1400) v hv hvm) z hl hz 0 (by omega) [] (by simp;omega) (by omega) (fun b hb=>by simp at hb);exact⟨tr,y,by simpa[lnB]using c1,c2⟩
theorem zQt{k L:Nat}(hk:k≤x.zA.length){z:List Nat}(hl:z.length≤L){tr:Trc}{y:Vec}(hc:qR x k z tr y)(hz:∀a∈z,k≤a∧a<x.zA.length):Cb x (lnB (x.zA.length-k) L) z tr (nw k y)∧stS x (nw k y)=iH:=by obtain⟨tr2,y2,c1,c2⟩:=zYi h hn (x.zA.length-k) k (by omega) L z hl hz;have n1:=zGj h (x.zA.length-k) k (by omega) y hc.v;have n2:=zGj h (x.zA.length-k) k (by omega) y2 c2;obtain⟨e1,e2⟩:=Col.det hc.col c1.col n1 n2;rw[e1,e2];exact⟨c1.cb,n2⟩
end
theorem zZA:∀d:Nat,d<7→lnB d 100≤60000:=by decide
end Go.Pl

namespace Go.Pl
open Go Go.Ab Go.Wk Go.Pc
structure PD.Ok (x:SPr) (d:PD):Prop where
 h1:hdS x (d.wd.drop 0)=iG (d.r1,d.s1,d.w1)
 ht:d.t<d.wd.length
 h2:∃q,hdS x (d.wd.drop d.t)=iG (d.r2,d.s2,q)∧d.w2=d.wd.take d.t++q
 l:d.wd.length≤9
 l1:d.w1.length≤100
 l2:d.w2.length≤100
 m1:∀a∈d.w1,d.k≤a∧a<x.zA.length
 m2:∀a∈d.w2,d.k≤a∧a<x.zA.length
section
variable {x:SPr} (h:Pres x) (hn:x.zA.length≤6)
 include h hn
theorem zQu{a b:Nat}{s:List Nat}(bZ:b<a):hdS x (a::b::s)=iG (base x.zA.length b+(a-(b+1)),s,b::(nw 0 (lcj x b a)++s)):=by have _:=h;have _:=hn;unfold hdS;simp only[swp];rw[if_pos bZ]
theorem zQv{a:Nat}{s:List Nat}(ha:a<x.zA.length):hdS x (J1 (yH x a) a++s)=iG (a,s,nw 0 (x.zS.getD a [])++s):=by
 have _:=hn;obtain⟨q,hq⟩:∃q,yH x a=q+2:=⟨yH x a-2,by have:=(jF h ha).2.1;omega⟩;have e:swp x (J1 (yH x a) a++s)=iH:=by rw[hq,Ju,Ju];simp only[K6,swp];rw[if_neg (Jbk a)]
 unfold hdS;rw[e];have e2:J1 (yH x a) a++s=a::(J1 (q+1) a++s):=by rw[hq,Ju];rfl
 have e3:(J1 (yH x a) a++s).take (yH x a)=J1 (yH x a) a:=Jp (Jb);have e4:(J1 (yH x a) a++s).drop (yH x a)=s:=K0 (Jb);rw[e2]at e3 e4;rw[e2];simp only[pws];rw[if_pos e3,e4]
theorem zLh:∀d∈cps x,d.Ok x:=by
 have eH:∀i j,i<j→j<x.zA.length→ ∀a∈nw 0 (lcj x i j),i+1≤a∧a<x.zA.length:=fun i j hi hj=>(tB h (uB h hi hj) (by omega)).2
 have eP:∀i,i<x.zA.length→ ∀a∈nw 0 (x.zS.getD i []),i+1≤a∧a<x.zA.length:=fun i hi=>(tB h (qK h hi) hi).2
 have lcon:∀i j,i<j→j<x.zA.length→(nw 0 (lcj x i j)).length≤36:=fun i j hi hj=>zLf h hn hi hj
 have lpow:∀i,i<x.zA.length→(nw 0 (x.zS.getD i [])).length≤36:=fun i hi=>(zIE h hn (qK h hi).1).2
 have od:∀i,i<x.zA.length→2≤yH x i∧yH x i≤7:=fun i hi=>(jF h hi).2
 refine zBa.2 ⟨fun i j k h1 h2 h3=>?_,fun i j h1 h2=>?_,fun i j h1 h2=>?_,fun i h1=>?_⟩
 ·have c1:=lcon j k h2 h3
  have c2:=lcon i j h1 (by omega);refine⟨zQu h hn h2,by simp[pd2],⟨i::(nw 0 (lcj x i j)++[]),zQu h hn h1,by simp[pd2]⟩,by simp[pd2],by simp only[pd2,J7,J5,Jq];omega,by simp only[pd2,J7];omega,fun a ha=>?_,fun a ha=>?_⟩
  ·simp only[pd2,J9,Jd,Q5,or_false]at ha ⊢
   rcases ha with rfl|ha|rfl
   ·omega
   ·have:=eH j k (by omega) h3 a ha;omega
   ·omega
  ·simp only[pd2,J9]at ha ⊢
   rcases ha with rfl|rfl|ha
   ·omega
   ·omega
   ·have:=eH i j (by omega) (by omega) a ha;omega
 ·have c1:=lpow j h2
  have c2:=lcon i j h1 h2;have o:=od j h2;have e:J1 (yH x j) j++[i]=J1 (yH x j-1) j++[j,i]:=by obtain⟨q,hq⟩:∃q,yH x j=q+1:=⟨yH x j-1,by omega⟩;rw[hq,Lw,Jax,Jf];rfl
  refine⟨zQv h hn h2,by simp only[pd1,J5,Jb,J7,Jq];omega,⟨i::(nw 0 (lcj x i j)++[]),?_,?_⟩,by simp only[pd1,J5,Jb,J7,Jq];omega,by simp only[pd1,J7,J5,Jq];omega,by simp only[pd1,J5,Jb,J7];omega,fun a ha=>?_,fun a ha=>?_⟩
  ·show hdS x ((J1 (yH x j) j++[i]).drop (yH x j-1))=_
   rw[e,K0 (Jb)];exact zQu h hn h1
  ·show _=(J1 (yH x j) j++[i]).take (yH x j-1)++_
   rw[e,Jp (Jb),Je];rfl
  ·simp only[pd1,Jd,List.mem_singleton]at ha ⊢
   rcases ha with ha|rfl
   ·have:=eP j h2 a ha;omega
   ·omega
  ·simp only[pd1,Jd,J9]at ha ⊢
   rcases ha with ha|rfl|ha
   ·have:=K9 ha;omega
   ·omega
   ·have:=eH i j h1 h2 a ha;omega
 ·have c1:=lpow i (by omega)
  have c2:=lcon i j h1 h2;have o:=od i (by omega);have e:J1 (yH x i) i=i::J1 (yH x i-1) i:=by obtain⟨q,hq⟩:∃q,yH x i=q+1:=⟨yH x i-1,by omega⟩;rw[hq,Ju,Jax]
  refine⟨?_,by simp only[pd4,Jb,J7];omega,⟨nw 0 (x.zS.getD i [])++[],?_,by simp[pd4]⟩,by simp only[pd4,Jb,J7];omega,by simp only[pd4,J7,J5,Jb];omega,by simp only[pd4,J7];omega,fun a ha=>?_,fun a ha=>?_⟩
  ·show hdS x (j::J1 (yH x i) i)=_
   rw[e];exact zQu h hn h1
  ·show hdS x (J1 (yH x i) i)=_
   have:=zQv h hn (s:=[]) (show i<x.zA.length by omega);rw[Je]at this;exact this
  ·simp only[pd4,J9,Jd]at ha ⊢
   rcases ha with rfl|ha|ha
   ·omega
   ·have:=eH i j h1 h2 a ha;omega
   ·have:=K9 ha;omega
  ·simp only[pd4,J9]at ha ⊢
   rcases ha with rfl|ha
   ·omega
   ·have:=eP i (by omega) a ha;omega
 ·have c1:=lpow i h1
  have o:=od i h1;refine⟨?_,by simp only[pd3,Jb];omega,⟨nw 0 (x.zS.getD i [])++[],?_,?_⟩,by simp only[pd3,Jb];omega,by simp only[pd3,J7,J5,Jq];omega,by simp only[pd3,J7];omega,fun a ha=>?_,fun a ha=>?_⟩
  ·show hdS x (J1 (yH x i+1) i)=_
   rw[Lw];exact zQv h hn h1
  ·show hdS x ((J1 (yH x i+1) i).drop 1)=_
   rw[Ju,List.drop_succ_cons,Ge];have:=zQv h hn (s:=[]) h1;rw[Je]at this;exact this
  ·show i::nw 0 (x.zS.getD i [])=(J1 (yH x i+1) i).take 1++_
   rw[Ju,Je];rfl
  ·simp only[pd3,Jd,List.mem_singleton]at ha ⊢
   rcases ha with ha|rfl
   ·have:=eP i h1 a ha;omega
   ·omega
  ·simp only[pd3,J9]at ha ⊢
   rcases ha with rfl|ha
   ·omega
   ·have:=eP i h1 a ha;omega
end
end Go.Pl

namespace Go.Pl
open Go Go.Ab Go.Wk Go.Pc
section
variable {x:SPr}{m:zB}{D:Nat} (h:Pres x) (hn:x.zA.length≤6) (hD:MOk x.zA.length m D)
 include h hn hD
theorem zRr{d:PD}(hd:d∈cps x){t1 t2:Trc}(hb:d.B x t1 t2)(F:Nat→Nat→Nat→Int):
  ((f_k ⟨x,m,smx m.Prime D (base x.zA.length x.zA.length) F⟩ (enW d.wd) ((0:Nat):Int) 1).bind fun r=>(f_s r.2 r.1 1).bind fun k2=>(f_k k2 (enW d.wd) (d.t:Int) (-1)).bind fun r3=>f_s r3.2 r3.1 (-1))=
   iG ⟨x,m,smx m.Prime D (base x.zA.length x.zA.length) (zDC m D (-1) (zDC m D 1 F t1) t2)⟩:=by
 have ok:=zLh h hn d hd;obtain⟨hk,mL,_⟩:=zHb h hn d hd;obtain⟨⟨u1,y1,rfl,k1⟩,⟨u2,y2,rfl,k2⟩⟩:=hb;obtain⟨q,q1,q2⟩:=ok.h2;have hl:=ok.l;have ht:=ok.ht;obtain⟨c1,n1⟩:=zQt h hn (by omega) ok.l1 k1 ok.m1;obtain⟨c2,n2⟩:=zQt h hn (by omega) ok.l2 k2 ok.m2;have up:∀{w w':List Nat}{tr:Trc},Cb x (lnB (x.zA.length-d.k) 100) w tr w'→Cb x 60000 w tr w':=fun{w w' tr} hc=>by
  have hM:=zZA (x.zA.length-d.k) (by omega)
  generalize lnB (x.zA.length-d.k) 100=M at hc hM
  induction hc with
  |refl w hl hw=>exact .refl _ (by omega) hw
  |step hl hw hs _ ih=>exact .step (by omega) hw hs ih
 rw[zGm h hn hD mL (by omega) (by omega) ok.h1 (s:=1) (by omega) (F:=F),bs];simp only[Ka,Jv];rw[zFw h hn hD (by omega) (up c1) n1,bs,zGm h hn hD mL (by omega) ht q1 (s:=-1) (by omega),bs];simp only
 rw[←q2,zFw h hn hD (by omega) (up c2) n2];rfl
end
theorem zTY{p:Int}{m:zB}{D r i:Nat}(hi:i<D){t1 t2:Trc}(hp:m.Prime=p):(mkv D fun j=>zDC m D (-1) (zDC m D 1 (fun _ _ _=>0) t1) t2 r i j%m.Prime)=prR p D m t1 t2 (r*D+i):=by
 subst hp;have e:=vL (q:=r) hi;rw[prR,e.1,e.2];refine zZ fun j _=>?_
 rw[zLd hi,zLd hi]
 congr 1
 omega
end Go.Pl

namespace Go.Pl
open Go Go.Ab Go.Wk Go.Pc
theorem tC{α β:Type}{f:α→List β}{c:Nat}(hf:∀a,(f a).length≤c):∀l:List α,(l.flatMap f).length≤l.length*c
 | []=>by simp
 |a::l=>by have:=tC hf l;have:=hf a;rw[Lo,J5,J7,K1];omega
theorem zHc{x:SPr}(hn:x.zA.length≤6):(cps x).length≤300:=by
 have hu:∀i,(ups x.zA.length i).length≤6:=fun i=>by rw[ups,Jas];omega
 have h1:=tC (c:=36) (f:=fun i=>(ups x.zA.length i).flatMap fun j=>(ups x.zA.length j).map fun k=>pd2 x i j k) (fun i=>by have:=tC (c:=6) (f:=fun j=>(ups x.zA.length j).map fun k=>pd2 x i j k) (fun j=>by rw[Ji];exact hu j) (ups x.zA.length i);have:=hu i;omega) (Jg x.zA.length)
 have h2:=tC (c:=6) (f:=fun i=>(ups x.zA.length i).map fun j=>pd1 x i j) (fun i=>by rw[Ji];exact hu i) (Jg x.zA.length);have h3:=tC (c:=6) (f:=fun i=>(ups x.zA.length i).map fun j=>pd4 x i j) (fun i=>by rw[Ji];exact hu i) (Jg x.zA.length);rw[Le]at h1 h2 h3;rw[cps,J5,J5,J5,Ji,Le];omega
section
variable {x:SPr}{m:zB}{D:Nat} (hx:zAb x) (hD:MOk x.zA.length m D)
 include hx hD
theorem zMZ(h0:0<x.zA.length)(hc:wO (suf x 0))(hr:zCv x m D){prs:List (Trc×Trc)}(hq:qC x (cps x) prs):∃K,f_m x m=iG K∧
  f_N m.Prime (gl (base x.zA.length x.zA.length*D) fun k=>zAn m.Prime D m prs k) ((prs.length*D:Nat):Int)=iG K:=by
 have h6:=hx.n6;have hp:=hD.p.pos;have hb:=wT x.zA.length (by omega);have h3:=hD.d3;have hB:base x.zA.length x.zA.length*D≤21*3:=Jr hb.2.1 h3;have hql:prs.length≤300:=by rw[←hq.len];exact zHc h6
 have hqD:prs.length*D≤300*3:=Jr hql h3;obtain⟨K,pk,k1,k2,k3⟩:=zGC hx hD h0 hc hr;obtain⟨K2,pk2,_,j2,j3,j4⟩:=zGc hD.p (c:=prs.length*D) (N:=base x.zA.length x.zA.length*D) (A:=gl (base x.zA.length x.zA.length*D) fun k=>zAn m.Prime D m prs k) (by omega) (fun k hk=>by rw[xN hk];refine⟨zIB prs,fun j hj=>?_⟩;have aZ:0<D:=hD.d1;have hi:j/D<prs.length:=(Lt aZ).2 hj;have hm:j%D<D:=Hk _ aZ;have e:=zFv (F:=fun q:Trc×Trc=>prR m.Prime D m q.1 q.2 k) (fun _=>zY _ _) prs (j/D) (j%D) hi hm;rw[show j/D*D+j%D=j from by rw[Hh];exact Lg j D]at e;rw[zAn,e,prR,yB hm];exact⟨L4 _ (show m.Prime≠0 by omega),by have:=Kk (zBn m.Prime D m (prs[j/D]).1 (k/D) (k%D) (j%D)-zBn m.Prime D m (prs[j/D]).2 (k/D) (k%D) (j%D)) (show 0<m.Prime by omega);omega⟩) wN
 have key:∀y,Row m.Prime (base x.zA.length x.zA.length*D) y→(Sp m.Prime (base x.zA.length x.zA.length*D) K y↔Sp m.Prime (base x.zA.length x.zA.length*D) K2 y):=fun y hy=>by rw[k3 y hy,j4 y,zTU hx hD hq hc hr hy]
 have e:K=K2:=Red.unique (by omega) k2 j3 ⟨fun i hi=>(key _ (k2.row i hi)).1 (qA hi),fun i hi=>(key _ (j3.row i hi)).2 (qA hi)⟩;exact⟨K,k1,by rw[e];exact j2⟩
end
end Go.Pl

namespace Go.Pl
open Go Go.Ab Go.Wk Go.Pc
section
variable {x:SPr}{m:zB}{D:Nat} (h0:x.zA.length=0) (hD:MOk x.zA.length m D)
 include h0 hD
theorem zRs{T:Mx}:f_O ⟨x,m,T⟩=iG []:=by
 have _:=hD;unfold f_O;rw[xK];unfold zRD;simp only
 rw[h0,show decide ((0:Int)<((0:Nat):Int))=iJ from rfl,zM];rfl
theorem zO9:∃K pk,f_m x m=iG K∧f_N m.Prime [] 0=iG K∧Red m.Prime 0 K pk:=by obtain⟨K,pk,k1,k2,k3,_⟩:=zGc hD.p (c:=0) (N:=0) (A:=[]) (by omega) (fun i hi=>absurd hi (Qf i)) rfl;refine⟨K,pk,?_,k2,k3⟩;unfold f_m;have e1:=zIC hD (N:=0) (by omega);have e2:=zJT hD (B:=0) (L:=[]) (by omega) (by simp) (fun r hr=>by cases hr);rw[Hz]at e1;rw[zEs h0 (by omega),bs,hD.d,show base 0 0=0 from rfl,show((0:Nat):Int)*(D:Int)=((0:Nat):Int)from by simp,zC (by omega) (by omega),bs,e1,bs,zRs h0 hD,bs,e2,bs,show((([]:Mx).length:Nat):Int)*(D:Int)=((0:Nat):Int)from by simp,zC (by omega) (by omega),bs];rw[show gl 0 (fun k=>zDB D k [])=([]:Mx)from rfl,k1,bs]
end
end Go.Pl

namespace Go.Pl
open Go Go.Ab Go.Wk Go.Pc
theorem yCB{v:Int}:f_j [v] 4=iG [v,v,v,v]:=by
 unfold f_j;have h:=zX (body:=jU) (r:=[v,v,v,v]) (fun i=>match i with|0=>([v,0,0,0],1)|1=>([v,v,0,0],2)|_=>([v,v,v,v],4)) 2 (fun i hi=>by
  match i,hi with
  |0,_=>simp[jU,yD,wD,rng,inR]
  |1,_=>simp[jU,yD,wD,rng,inR]) (by simp[jU])
 rw[show decide ((4:Int)<0)=iJ from rfl,zM,zM2 (by decide+kernel),bs];have hl:xG (IntKind.wrap .i64 4)=iG 4:=by decide+kernel
 simp only[hl,bs];rw[show decide ((0:Int)> 0)=iJ from rfl,zM,show decide ((4:Int)> 9223372036854775807)=iJ from by decide,zM];have e2:wD (J1 4 (0:Int)) 0 (([v]:List Int).take ((J1 4 (0:Int)).length-0))=[v,0,0,0]:=by simp[wD,J1]
 have e3:((min ([v]:List Int).length ((J1 4 (0:Int)).length-0):Nat):Int)=1:=by simp
 rw[e2,e3];have h':zI jU ([v,0,0,0],1)=_:=h;rw[h',bs]
theorem yCC{v:Int}:f_j [v] 6=iG [v,v,v,v,v,v]:=by
 unfold f_j;have h:=zX (body:=jU) (r:=[v,v,v,v,v,v]) (fun i=>match i with|0=>([v,0,0,0,0,0],1)|1=>([v,v,0,0,0,0],2)|2=>([v,v,v,v,0,0],4)|_=>([v,v,v,v,v,v],6)) 3 (fun i hi=>by
  match i,hi with
  |0,_=>simp[jU,yD,wD,rng,inR]
  |1,_=>simp[jU,yD,wD,rng,inR]
  |2,_=>simp[jU,yD,wD,rng,inR]) (by simp[jU])
 rw[show decide ((6:Int)<0)=iJ from rfl,zM,zM2 (by decide+kernel),bs];have hl:xG (IntKind.wrap .i64 6)=iG 6:=by decide+kernel
 simp only[hl,bs];rw[show decide ((0:Int)> 0)=iJ from rfl,zM,show decide ((6:Int)> 9223372036854775807)=iJ from by decide,zM];have e2:wD (J1 6 (0:Int)) 0 (([v]:List Int).take ((J1 6 (0:Int)).length-0))=[v,0,0,0,0,0]:=by simp[wD,J1]
 have e3:((min ([v]:List Int).length ((J1 6 (0:Int)).length-0):Nat):Int)=1:=by simp
 rw[e2,e3];have h':zI jU ([v,0,0,0,0,0],1)=_:=h;rw[h',bs]
theorem yCD{v:Int}:f_j [v] 8=iG [v,v,v,v,v,v,v,v]:=by
 unfold f_j;have h:=zX (body:=jU) (r:=[v,v,v,v,v,v,v,v]) (fun i=>match i with|0=>([v,0,0,0,0,0,0,0],1)|1=>([v,v,0,0,0,0,0,0],2)|2=>([v,v,v,v,0,0,0,0],4)|_=>([v,v,v,v,v,v,v,v],8)) 3 (fun i hi=>by
  match i,hi with
  |0,_=>simp[jU,yD,wD,rng,inR]
  |1,_=>simp[jU,yD,wD,rng,inR]
  |2,_=>simp[jU,yD,wD,rng,inR]) (by simp[jU])
 rw[show decide ((8:Int)<0)=iJ from rfl,zM,zM2 (by decide+kernel),bs];have hl:xG (IntKind.wrap .i64 8)=iG 8:=by decide+kernel
 simp only[hl,bs];rw[show decide ((0:Int)> 0)=iJ from rfl,zM,show decide ((8:Int)> 9223372036854775807)=iJ from by decide,zM];have e2:wD (J1 8 (0:Int)) 0 (([v]:List Int).take ((J1 8 (0:Int)).length-0))=[v,0,0,0,0,0,0,0]:=by simp[wD,J1]
 have e3:((min ([v]:List Int).length ((J1 8 (0:Int)).length-0):Nat):Int)=1:=by simp
 rw[e2,e3];have h':zI jU ([v,0,0,0,0,0,0,0],1)=_:=h;rw[h',bs]
theorem zBb{β:Type}{body:List β×Int→Option ((List β×Int)⊕List β)}(s n B:Nat)(F:Nat→List β)(a0:List β)(hB:a0.length+((Kx s n).flatMap F).length≤B)
  (h:∀i acc,s≤i→i<s+n→acc.length+(F i).length≤B→body (acc,((i+1:Nat):Int))=iG (.inl (acc++F i,((i+1+1:Nat):Int))))(he:∀acc,body (acc,((s+n+1:Nat):Int))=iG (.inr acc)):
  zI body (a0,((s+1:Nat):Int))=iG (a0++(Kx s n).flatMap F):=by
 have:=zX (body:=body) (r:=a0++(Kx s n).flatMap F) (fun i=>(a0++(Kx s i).flatMap F,((s+i+1:Nat):Int))) n (fun i hi=>by
  have e:(Kx s (i+1)).flatMap F=(Kx s i).flatMap F++F (s+i):=by rw[List.range'_1_concat,U4,Lo,List.flatMap_nil,Je]
  have hle:((Kx s (i+1)).flatMap F).length≤((Kx s n).flatMap F).length:=by obtain⟨k,rfl⟩:∃k,n=i+1+k:=⟨n-(i+1),by omega⟩;have e3:Kx s (i+1+k)=Kx s (i+1)++Kx (s+(i+1)) k:=List.range'_append_1.symm;rw[e3,U4,J5];omega
  rw[e,J5]at hle;rw[h (s+i) _ (by omega) (by omega) (by rw[J5];omega),e,Jf];rfl) (he _)
 simpa using this
def CPd(d:PD):zL:=⟨enW d.wd,enW d.w1,enW d.w2⟩
section
variable {x:SPr} (h:Pres x) (hn:x.zA.length≤6)
 include h
theorem zNa{v:Int}{a:Nat}(ha:a<x.zA.length):zN8 v ((yH x a:Nat):Int)=iG (J1 (yH x a) v):=by
 have hp:=h.os.2 a ha;have e:=(jF h ha).1;have e2:at0 x.zA a=((yH x a:Nat):Int):=by rw[yN ha]at e;exact Lu.inj e
 rw[e2]at hp;unfold zN8;rw[zCV hp,bs,J8]
theorem zRt{v:Int}{a:Nat}(ha:a<x.zA.length):zN8 v (((yH x a+1:Nat)):Int)=iG (J1 (yH x a+1) v):=by
 have hp:=h.os.2 a ha;have e:=(jF h ha).1;have e2:at0 x.zA a=((yH x a:Nat):Int):=by rw[yN ha]at e;exact Lu.inj e
 rw[e2]at hp;have:yH x a=2∨yH x a=3∨yH x a=5∨yH x a=7:=by rcases hp with g|g|g|g<;>omega
 unfold zN8;rcases this with g|g|g|g<;>rw[g]
 ·exact(congrArg (fun o=>Hw o _) (zCV (v:=v) (o:=3) (.inr (.inl rfl)))).trans rfl
 ·exact(congrArg (fun o=>Hw o _) (yCB (v:=v))).trans rfl
 ·exact(congrArg (fun o=>Hw o _) (yCC (v:=v))).trans rfl
 ·exact(congrArg (fun o=>Hw o _) (yCD (v:=v))).trans rfl
 include hn
theorem zFx{d:PD}(hd:d∈cps x){out:List zL}(ho:out.length≤100000):f_Y (enW d.wd) (d.t:Int) out x=iG (out++[CPd d]):=by have ok:=zLh h hn d hd;obtain⟨_,mL,_⟩:=zHb h hn d hd;obtain⟨q,q1,q2⟩:=ok.h2;have hl:=ok.l;have ht:=ok.ht;unfold f_Y;rw[show(0:Int)=((0:Nat):Int)from rfl,zDc h hn mL (by omega) (by omega) ok.h1,bs,zDc h hn mL (by omega) ht q1,bs,yI (by simp only[J7,Jq];omega),bs];simp only[Ka,Jv];rw[←q2];rfl
end
end Go.Pl

namespace Go.Pl
open Go Go.Ab Go.Wk Go.Pc
theorem zCl{α β:Type}{f:α→β}:∀l:List α,(l.flatMap fun a=>[f a])=l.map f
 | []=>rfl
 |a::l=>by rw[Lo,zCl l];rfl
theorem zA2{N i:Nat}(hN:N≤6):(ups N i).length≤6:=by grind[ups]
section
variable {x:SPr} (h:Pres x) (hn:x.zA.length≤6)
 include h hn
theorem yB9{i j:Nat}(gO:i<j)(hj:j<x.zA.length){o1 o2 out:List zL}(ho:out.length≤3000):
  zI (zRI x (o1,((i+1:Nat):Int)) (o2,((j+1:Nat):Int))) (out,((j+1+1:Nat):Int))=iG (out++(ups x.zA.length j).map fun k=>CPd (pd2 x i j k)):=by
 have hm:=((zBa (x:=x) (φ:=fun d=>d∈cps x)).1 fun d hd=>hd).1;have hu:=zA2 (i:=j) hn;have:=zBb (body:=zRI x (o1,((i+1:Nat):Int)) (o2,((j+1:Nat):Int))) (j+1) (x.zA.length-(j+1)) 4000 (fun k=>[CPd (pd2 x i j k)]) out (by rw[zCl,Ji];grind) (fun k acc hk1 fw hb=>by
  unfold zRI;simp only
  have e:([((k+1:Nat):Int),((j+1:Nat):Int),((i+1:Nat):Int)])=enW (pd2 x i j k).wd:=by rfl
  rw[iM (by omega),zK,e,show(1:Int)=((pd2 x i j k).t:Int)from rfl,zFx h hn (by grind) (by omega),bs,show((k+1:Nat):Int)+((pd2 x i j k).t:Int)=((k+1+1:Nat):Int)from rfl,zC (by omega) (by omega),bs]) (fun acc=>by
  unfold zRI
  grind)
 rw[zCl]at this;exact this
theorem yBA{i:Nat}(hi:i<x.zA.length){o1 out:List zL}(ho:out.length≤2000):
  zI (zRJ x (o1,((i+1:Nat):Int))) (out,((i+1+1:Nat):Int))=iG (out++(ups x.zA.length i).flatMap fun j=>(ups x.zA.length j).map fun k=>CPd (pd2 x i j k)):=by
 have hu:=zA2 (i:=i) hn;have hf:=tC (c:=6) (f:=fun j=>(ups x.zA.length j).map fun k=>CPd (pd2 x i j k)) (by grind[zA2]) (ups x.zA.length i);have:=zBb (body:=zRJ x (o1,((i+1:Nat):Int))) (i+1) (x.zA.length-(i+1)) 3000 (fun j=>(ups x.zA.length j).map fun k=>CPd (pd2 x i j k)) out (by grind[ups]) (fun j acc hj1 pU hb=>by
  unfold zRJ;simp only
  rw[iM (by omega),zK,show((j+1:Nat):Int)+1=((j+1+1:Nat):Int)from by omega,zC (by omega) (by omega),bs,yB9 h hn (by omega) (by omega) (by omega),bs,bs]) (fun acc=>by
  unfold zRJ
  grind)
 exact this
theorem yBB:zI (zRK x) ([],1)=iG ((Jg x.zA.length).flatMap fun i=>(ups x.zA.length i).flatMap fun j=>(ups x.zA.length j).map fun k=>CPd (pd2 x i j k)):=by
 have hf:=tC (c:=36) (f:=fun i=>(ups x.zA.length i).flatMap fun j=>(ups x.zA.length j).map fun k=>CPd (pd2 x i j k)) (fun i=>by
  have:=tC (c:=6) (f:=fun j=>(ups x.zA.length j).map fun k=>CPd (pd2 x i j k)) (by grind[zA2]) (ups x.zA.length i)
  grind[zA2]) (Jg x.zA.length)
 rw[Le]at hf;have:=zBb (body:=zRK x) 0 x.zA.length 2000 (fun i=>(ups x.zA.length i).flatMap fun j=>(ups x.zA.length j).map fun k=>CPd (pd2 x i j k)) [] (by grind[Lm]) (fun i acc aJ eZ hb=>by
  unfold zRK;simp only
  rw[iM (by omega),zK,show((i+1:Nat):Int)+1=((i+1+1:Nat):Int)from by omega,zC (by omega) (by omega),bs,yBA h hn (by omega) (by omega),bs,bs]) (fun acc=>by
  unfold zRK
  grind)
 grind[Lm]
theorem yBC{i:Nat}(hi:i<x.zA.length){o1 out:List zL}(ho:out.length≤3000):
  zI (zRL x (o1,((i+1:Nat):Int))) (out,((i+1+1:Nat):Int))=iG (out++(ups x.zA.length i).map fun j=>CPd (pd1 x i j)):=by
 have hm:=((zBa (x:=x) (φ:=fun d=>d∈cps x)).1 fun d hd=>hd).2.1;have hu:=zA2 (i:=i) hn;have:=zBb (body:=zRL x (o1,((i+1:Nat):Int))) (i+1) (x.zA.length-(i+1)) 4000 (fun j=>[CPd (pd1 x i j)]) out (by rw[zCl,Ji];rw[ups]at hu;omega) (fun j acc hj1 pU hb=>by
  have ho:=jF h (show j<x.zA.length by omega);unfold zRL;simp only
  have e:J1 (yH x j) ((j+1:Nat):Int)++[((i+1:Nat):Int)]=enW (pd1 x i j).wd:=by show _=enW (J1 (yH x j) j++[i]);simp only[enW,L8,List.map_replicate,Jn,U2];rfl
  have et:((yH x j:Nat):Int)-1=((pd1 x i j).t:Int):=by show _=((yH x j-1:Nat):Int);omega
  rw[iM (by omega),zK,show((j+1:Nat):Int)-1=(j:Int)from by omega,zC (n:=(j:Int)) (by omega) (by omega),bs,ho.1,bs,zNa h (by omega),bs,yI (by simp only[Jb,J7,Jq];omega),bs,bs,ho.1,bs,zC (n:=((yH x j:Nat):Int)-1) (by omega) (by omega),bs,e,et,zFx h hn (hm i j (by omega) (by omega)) (by simp only[J7,Jq]at hb;omega),bs,show((j+1:Nat):Int)+1=((j+1+1:Nat):Int)from by omega,zC (by omega) (by omega),bs]) (fun acc=>by
  unfold zRL;simp only
  rw[iL (by omega),zM])
 rw[zCl]at this;exact this
theorem yBD{out:List zL}(ho:out.length≤1000):zI (zRM x) (out,1)=iG (out++(Jg x.zA.length).flatMap fun i=>(ups x.zA.length i).map fun j=>CPd (pd1 x i j)):=by
 have hf:=tC (c:=6) (f:=fun i=>(ups x.zA.length i).map fun j=>CPd (pd1 x i j)) (by grind[zA2]) (Jg x.zA.length);rw[Le]at hf;have:=zBb (body:=zRM x) 0 x.zA.length 2000 (fun i=>(ups x.zA.length i).map fun j=>CPd (pd1 x i j)) out (by grind[Lm]) (fun i acc aJ eZ hb=>by
  unfold zRM;simp only
  rw[iM (by omega),zK,show((i+1:Nat):Int)+1=((i+1+1:Nat):Int)from by omega,zC (by omega) (by omega),bs,yBC h hn (by omega) (by omega),bs,bs]) (fun acc=>by
  unfold zRM
  grind)
 grind[Lm]
theorem yBE{i:Nat}(hi:i<x.zA.length){o1 out:List zL}(ho:out.length≤3000):
  zI (zRN x (o1,((i+1:Nat):Int))) (out,((i+1+1:Nat):Int))=iG (out++(ups x.zA.length i).map fun j=>CPd (pd4 x i j)):=by
 have hm:=((zBa (x:=x) (φ:=fun d=>d∈cps x)).1 fun d hd=>hd).2.2.1;have hu:=zA2 (i:=i) hn;have ho:=jF h hi;have:=zBb (body:=zRN x (o1,((i+1:Nat):Int))) (i+1) (x.zA.length-(i+1)) 4000 (fun j=>[CPd (pd4 x i j)]) out (by rw[zCl,Ji];grind) (fun j acc hj1 pU hb=>by
  unfold zRN;simp only
  have e:[((j+1:Nat):Int)]++J1 (yH x i) ((i+1:Nat):Int)=enW (pd4 x i j).wd:=by show _=enW (j::J1 (yH x i) i);simp
  rw[iM (by omega),zK,show((i+1:Nat):Int)-1=(i:Int)from by omega,zC (n:=(i:Int)) (by omega) (by omega),bs,ho.1,bs,zNa h hi,bs,yI (by simp only[Jb,J7,Jq];omega),bs,e,show(1:Int)=((pd4 x i j).t:Int)from rfl,zFx h hn (hm i j (by omega) (by omega)) (by simp only[J7,Jq]at hb;omega),bs,show((j+1:Nat):Int)+((pd4 x i j).t:Int)=((j+1+1:Nat):Int)from rfl,zC (by omega) (by omega),bs]) (fun acc=>by
  unfold zRN
  grind)
 rw[zCl]at this;exact this
theorem yBF{out:List zL}(ho:out.length≤1000):zI (zRO x) (out,1)=iG (out++(Jg x.zA.length).flatMap fun i=>(ups x.zA.length i).map fun j=>CPd (pd4 x i j)):=by
 have hf:=tC (c:=6) (f:=fun i=>(ups x.zA.length i).map fun j=>CPd (pd4 x i j)) (by grind[zA2]) (Jg x.zA.length);rw[Le]at hf;have:=zBb (body:=zRO x) 0 x.zA.length 2000 (fun i=>(ups x.zA.length i).map fun j=>CPd (pd4 x i j)) out (by grind[Lm]) (fun i acc aJ eZ hb=>by
  unfold zRO;simp only
  rw[iM (by omega),zK,show((i+1:Nat):Int)+1=((i+1+1:Nat):Int)from by omega,zC (by omega) (by omega),bs,yBE h hn (by omega) (by omega),bs,bs]) (fun acc=>by
  unfold zRO
  grind)
 grind[Lm]
theorem yBG{out:List zL}(ho:out.length≤1000):zI (zRP x) (out,1)=iG (out++(Jg x.zA.length).map fun i=>CPd (pd3 x i)):=by
 have hm:=((zBa (x:=x) (φ:=fun d=>d∈cps x)).1 fun d hd=>hd).2.2.2;have:=zBb (body:=zRP x) 0 x.zA.length 2000 (fun i=>[CPd (pd3 x i)]) out (by rw[zCl,Ji,Jas];omega) (fun i acc aJ eZ hb=>by
  have ho:=jF h (show i<x.zA.length by omega);unfold zRP;simp only
  have e:J1 (yH x i+1) ((i+1:Nat):Int)=enW (pd3 x i).wd:=by show _=enW (J1 (yH x i+1) i);simp
  rw[iM (by omega),zK,show((i+1:Nat):Int)-1=(i:Int)from by omega,zC (n:=(i:Int)) (by omega) (by omega),bs,ho.1,bs,show((yH x i:Nat):Int)+1=((yH x i+1:Nat):Int)from by omega,zC (n:=((yH x i+1:Nat):Int)) (by omega) (by omega),bs,zRt h (by omega),bs,e,show(1:Int)=((pd3 x i).t:Int)from rfl,zFx h hn (hm i (by omega)) (by simp only[J7,Jq]at hb;omega),bs,show((i+1:Nat):Int)+((pd3 x i).t:Int)=((i+1+1:Nat):Int)from rfl,zC (by omega) (by omega),bs]) (fun acc=>by
  unfold zRP
  grind)
 grind[zCl,Lm]
theorem zE0:f_e x=iG ((cps x).map CPd):=by
 have hl:=zHc (x:=x) hn;have em:(cps x).map CPd=((Jg x.zA.length).flatMap fun i=>(ups x.zA.length i).flatMap fun j=>(ups x.zA.length j).map fun k=>CPd (pd2 x i j k))++(((Jg x.zA.length).flatMap fun i=>(ups x.zA.length i).map fun j=>CPd (pd1 x i j))++(((Jg x.zA.length).flatMap fun i=>(ups x.zA.length i).map fun j=>CPd (pd4 x i j))++(Jg x.zA.length).map fun i=>CPd (pd3 x i))):=by simp only[cps,L8,List.map_flatMap,Jah];rfl
 have aH:((cps x).map CPd).length≤300:=by grind
 rw[em]at aH;simp only[J5]at aH;unfold f_e;rw[yBB h hn,bs,yBD h hn (by omega),bs,yBF h hn (by grind),bs,yBG h hn (by simp only[J5];omega),bs,em];simp
end
end Go.Pl

namespace Go.Pl
open Go Go.Ab Go.Wk Go.Pc
theorem yCE:zZU=zN9:=rfl
theorem yCF:zZV=zN9:=rfl
theorem qC.get{x:SPr}:{ds:List PD}→{qs:List (Trc×Trc)}→qC x ds qs→ ∀k(h1:k<ds.length)(h2:k<qs.length),(ds[k]).B x (qs[k]).1 (qs[k]).2
 | [],[],_,k,h1,_=>by simp at h1
 |d::ds,q::qs,h,0,_,_=>h.1
 |d::ds,q::qs,h,k+1,h1,h2=>by simpa using qC.get h.2 k (by simpa using h1) (by simpa using h2)
 | [],_::_,h,_,_,_=>by grind
 |_::_,[],h,_,_,_=>by grind
theorem zRu{p:Int}{D:Nat}{m:zB}{prs:List (Trc×Trc)}{k q:Nat}(hk:k<prs.length):zAn p D m (prs.take (k+1)) q=zAn p D m (prs.take k) q++prR p D m (prs[k]).1 (prs[k]).2 q:=by grind[zAn,Jz]
section
variable {x:SPr}{m:zB}{D:Nat} (hD:MOk x.zA.length m D)
 include hD
theorem yBH:zI (zRR ⟨m.Prime,(D:Int),idM D⟩) (idM D,0)=iG (gl D fun _=>mkv D fun _=>0):=by
 have h3:=hD.d3;have:=zX (body:=zRR ⟨m.Prime,(D:Int),idM D⟩) (r:=gl D fun _=>mkv D fun _=>0) (fun i=>(gl D fun a=>mkv D fun j=>if j=a then(if a<i then 0 else 1)else 0,(i:Int))) D (fun i hi=>by
  unfold zRR;simp only
  rw[uI,yR hi,zK,zAh hi,bs,yN (by grind[zY]),bs,zC (by omega) (by omega),bs];simp only[J8];rw[zCW,qH]
  grind) (by
  unfold zRR;simp only
  rw[uI,vE,zM]
  simp_all)
 have e:(gl D fun a=>mkv D fun j=>if j=a then(if a<0 then(0:Int)else 1)else 0)=idM D:=rfl
 grind
theorem yBI{N:Nat}(hN:N≤100):zI (zRS m (N:Int)) ([],0)=iG (smx m.Prime D N fun _ _ _=>0):=by
 refine(vB (body:=zRS m (N:Int)) N (fun _=>zQ.mk m.Prime (D:Int) (gl D fun _=>mkv D fun _=>0)) (fun i acc hi ha=>?_) (fun acc=>?_)).trans ?_
 ·unfold zRS
  simp only
  rw[yR hi,zK,hD.d,zBk hD.p (by have:=hD.d3;omega),bs]
  grind[yBH,yI,zC]
 ·unfold zRS
  simp
 ·rfl
section
variable {N:Nat}{G:Nat→Nat→Nat→Int}{R:Nat→List Int}
abbrev zFy(p:Int)(D:Nat)(G:Nat→Nat→Nat→Int)(R:Nat→List Int)(k:Nat):List Int:=R k++mkv D fun j=>G (k/D) (k%D) j%p
theorem yBJ(hN:N≤100)(hR:∀k,(R k).length≤100000){r:Nat}(hr:r<N){z:Mx}:
  zI (zRT m (z,(r:Int)) ⟨m.Prime,(D:Int),gl D fun i=>mkv D fun j=>G r i j%m.Prime⟩) (gl (N*D) fun k=>if k<r*D then zFy m.Prime D G R k else R k,0)=iG (gl (N*D) fun k=>if k<(r+1)*D then zFy m.Prime D G R k else R k):=by
 have h3:=hD.d3;have h1:=hD.d1;have hb:(r+1)*D≤N*D:=Kb D (by omega);have pV:N*D≤100*3:=Jr hN h3;rw[K1]at hb;have:=zX (body:=zRT m (z,(r:Int)) ⟨m.Prime,(D:Int),gl D fun i=>mkv D fun j=>G r i j%m.Prime⟩) (r:=gl (N*D) fun k=>if k<(r+1)*D then zFy m.Prime D G R k else R k) (fun i=>(gl (N*D) fun k=>if k<r*D+i then zFy m.Prime D G R k else R k,(i:Int))) D (fun i hi=>by
  obtain⟨e1,e2⟩:=vL (q:=r) hi;unfold zRT;simp only
  rw[wN,yR hi,zK,zAh hi,bs,hD.d,←Ld,zC (by omega) (by omega),bs,←Hr,zC (by omega) (by omega),bs,zAh (by omega),bs,if_neg (by omega),yI (by rw[zY];have:=hR (r*D+i);omega),bs,zC (by omega) (by omega),bs];simp only[J8];rw[zCW]
  grind) (by
  unfold zRT
  grind)
 exact this
theorem yBK(hN:N≤100)(hR:∀k,(R k).length≤100000):zI (zN9 m ⟨x,m,smx m.Prime D N G⟩) (gl (N*D) R,0)=iG (gl (N*D) (zFy m.Prime D G R)):=by
 have gj:(smx m.Prime D N G).length=N:=wN;have:=zX (body:=zN9 m ⟨x,m,smx m.Prime D N G⟩) (r:=gl (N*D) (zFy m.Prime D G R)) (fun i=>(gl (N*D) fun k=>if k<i*D then zFy m.Prime D G R k else R k,(i:Int))) N (fun i hi=>by
  unfold zN9;simp only
  rw[gj,yR hi,zK,smx,zAh hi,bs,yBJ hD hN hR hi,bs,zC (by omega) (by omega),bs];rfl) (by
  unfold zN9
  simp_all)
 grind
end
end
theorem yBL{x:SPr}(h:Pres x):∀d∈cps x,2≤d.wd.length∧((d.wd.getD 0 0=d.wd.getD 1 0∧d.wd.getD (d.wd.length-1) 0≠d.wd.getD 0 0∧d.t=d.wd.length-2)∨(d.wd.getD 0 0=d.wd.getD 1 0∧d.wd.getD (d.wd.length-1) 0=d.wd.getD 0 0∧d.t=1)∨(d.wd.getD 0 0≠d.wd.getD 1 0∧d.t=1)):=by
 refine zBa.2 ⟨fun i j k h1 h2 h3=>?_,fun i j h1 h2=>?_,fun i j h1 h2=>?_,fun i h1=>?_⟩
 ·refine⟨by simp[pd2],.inr (.inr ⟨?_,rfl⟩)⟩
  show k≠j;omega
 ·have o:=(jF h h2).2
  obtain⟨q,hq⟩:∃q,yH x j=q+2:=⟨yH x j-2,by omega⟩;simp only[pd1,hq,J5,Jb,J7,Jq];refine⟨by omega,.inl ⟨rfl,?_,by omega⟩⟩;have:(J1 (q+2) j++[i]).getD (q+2+(0+1)-1) 0=i:=by simp
  grind
 ·have o:=(jF h (show i<x.zA.length by omega)).2
  obtain⟨q,hq⟩:∃q,yH x i=q+2:=⟨yH x i-2,by omega⟩;simp only[pd4,hq,Jb,J7]
  grind
 ·have o:=(jF h h1).2
  obtain⟨q,hq⟩:∃q,yH x i=q+2:=⟨yH x i-2,by omega⟩;simp only[pd3,hq,Jb];simp
section
variable {x:SPr}{m:zB}{D:Nat} (h:Pres x) (hn:x.zA.length≤6) (hD:MOk x.zA.length m D)
 include h hn hD
theorem zWC{prs:List (Trc×Trc)}(hq:qC x (cps x) prs){k:Nat}(hk:k<(cps x).length){N:Nat}(hN:N=base x.zA.length x.zA.length):
  zRU x m (N:Int) ((cps x).map CPd) (gl (N*D) (fun q=>zAn m.Prime D m (prs.take k) q),(k:Int))=iG (.inl (gl (N*D) (fun q=>zAn m.Prime D m (prs.take (k+1)) q),((k+1:Nat):Int))):=by
 subst hN;have hl:=hq.len;have hd:=K8 hk;have fw:k<prs.length:=by omega
 have cS:=wT x.zA.length (by omega);have h3:=hD.d3;have h1:=hD.d1;have gC:=zHc (x:=x) hn;have cv:=zRr h hn hD hd (hq.get k hk fw) (fun _ _ _=>0);obtain⟨w2,ht⟩:=yBL h _ hd;have hlw:=(zLh h hn _ hd).l;have fL:=(zLh h hn _ hd).ht;have hR:∀q,(zAn m.Prime D m (prs.take k) q).length≤100000:=fun q=>by rw[zIB,Kc];have:min k prs.length*D≤300*3:=Jr (by omega) h3;omega
 have cK:=yBK (x:=x) (G:=zDC m D (-1) (zDC m D 1 (fun _ _ _=>0) (prs[k]).1) (prs[k]).2) hD (show base x.zA.length x.zA.length≤100 by omega) hR;have erow:gl (base x.zA.length x.zA.length*D) (zFy m.Prime D (zDC m D (-1) (zDC m D 1 (fun _ _ _=>0) (prs[k]).1) (prs[k]).2) (fun q=>zAn m.Prime D m (prs.take k) q))=gl (base x.zA.length x.zA.length*D) fun q=>zAn m.Prime D m (prs.take (k+1)) q:=tM fun q _=>by have hm:q%D<D:=Hk _ (by omega);rw[zRu fw,zFy,zTY hm rfl,show q/D*D+q%D=q from by grind[Lg]]
 rw[erow]at cK;have hix:ixO ((cps x).map CPd) (k:Int)=iG (CPd (cps x)[k]):=by grind[zAU]
 generalize (cps x)[k]=d at*
 have key:∀K:xR→Option ((Mx×Int)⊕Mx),((f_k ⟨x,m,smx m.Prime D (base x.zA.length x.zA.length) fun _ _ _=>0⟩ (enW d.wd) 0 1).bind fun r=>(f_s r.2 r.1 1).bind fun k2=>(f_k k2 (enW d.wd) (d.t:Int) (-1)).bind fun r3=>(f_s r3.2 r3.1 (-1)).bind K)=K ⟨x,m,smx m.Prime D (base x.zA.length x.zA.length) (zDC m D (-1) (zDC m D 1 (fun _ _ _=>0) (prs[k]).1) (prs[k]).2)⟩:=fun K=>by have e:=congrArg (fun o=>Hw o K) cv;simp only[Option.bind_assoc,bs]at e;exact e
 unfold zRU;simp only
 rw[Ji,yR hk,zK,hix,bs,yBI hD (by omega),bs];simp only[CPd];have i0:=tX (w:=d.wd) (t:=0) (by omega);have i1:=tX (w:=d.wd) (t:=1) (by omega);have il:=tX (w:=d.wd) (t:=d.wd.length-1) (by omega);rw[show((0:Nat):Int)=0 from rfl]at i0;rw[show((1:Nat):Int)=1 from rfl]at i1;rw[i0,bs,i1,bs,Ji];rcases ht with⟨t1,t2,t3⟩|⟨t1,t2,t3⟩|⟨t1,t3⟩
 ·rw[show((((d.wd.getD 0 0:Nat):Int)+1)==(((d.wd.getD 1 0:Nat):Int)+1))=iI from by grind,zK,zC (by omega) (by omega),bs,show(d.wd.length:Int)-1=((d.wd.length-1:Nat):Int)from by omega,il,bs,show((((d.wd.getD (d.wd.length-1) 0:Nat):Int)+1) != (((d.wd.getD 0 0:Nat):Int)+1))=iI from by rw[bne_iff_ne];omega,zK,zC (by omega) (by omega),bs,show(d.wd.length:Int)-2=(d.t:Int)from by omega,key,cK,bs,zC (by omega) (by omega),bs]
  rfl
 ·rw[show((((d.wd.getD 0 0:Nat):Int)+1)==(((d.wd.getD 1 0:Nat):Int)+1))=iI from by grind,zK,zC (by omega) (by omega),bs,show(d.wd.length:Int)-1=((d.wd.length-1:Nat):Int)from by omega,il,bs,show((((d.wd.getD (d.wd.length-1) 0:Nat):Int)+1) != (((d.wd.getD 0 0:Nat):Int)+1))=iJ from by rw[t2];exact bne_self_eq_false _,zM]
  rw[t3]at key;rw[show(1:Int)=((1:Nat):Int)from rfl]at*
  rw[key,yCE,cK,bs,zC (by omega) (by omega),bs];rfl
 ·rw[show((((d.wd.getD 0 0:Nat):Int)+1)==(((d.wd.getD 1 0:Nat):Int)+1))=iJ from by grind,zM]
  rw[t3]at key;rw[show(1:Int)=((1:Nat):Int)from rfl]at*
  rw[key,yCF,cK,bs,zC (by omega) (by omega),bs];rfl
end
end Go.Pl

namespace Go.Pl
open Go Go.Ab Go.Wk Go.Pc
section
variable {x:SPr}{m:zB}{D:Nat} (hx:zAb x) (hD:MOk x.zA.length m D)
 include hx hD
theorem zJb(hc:wO (suf x 0))(hr:zCv x m D):∃K pk,f_m x m=iG K∧f_f x m=iG K∧Red m.Prime (base x.zA.length x.zA.length*D) K pk:=by
 have h6:=hx.n6;have h3:=hD.d3;have h1:=hD.d1;have cS:=wT x.zA.length (by omega);have hbD:base x.zA.length x.zA.length*D≤21*3:=Jr cS.2.1 h3;obtain⟨prs,hq⟩:=zZ9 hx hD;have hl:=hq.len;have gC:=zHc (x:=x) h6;have eV:=zX (body:=zRU x m ((base x.zA.length x.zA.length:Nat):Int) ((cps x).map CPd)) (r:=gl (base x.zA.length x.zA.length*D) (fun q=>zAn m.Prime D m prs q)) (fun k=>(gl (base x.zA.length x.zA.length*D) (fun q=>zAn m.Prime D m (prs.take k) q),(k:Int))) (cps x).length (fun k hk=>zWC hx.toPres h6 hD hq hk rfl) (by
  unfold zRU;simp only
  rw[Ji,vE,zM,hl,Ja1])
 have e0:gl (base x.zA.length x.zA.length*D) (fun q=>zAn m.Prime D m (prs.take 0) q)=J1 (base x.zA.length x.zA.length*D) ([]:List Int):=by simp only[Ka,zAn,U2,G1];rw[List.eq_replicate_iff];exact⟨wN,fun b hb=>by obtain⟨i,_,rfl⟩:=Jl.1 hb;rfl⟩
 rw[e0]at eV;have pE:f_f x m=cond (decide (((gl (base x.zA.length x.zA.length*D) (fun q=>zAn m.Prime D m prs q)).length:Int)> 0)) (
   (ixO (gl (base x.zA.length x.zA.length*D) (fun q=>zAn m.Prime D m prs q)) 0).bind fun v32=>(f_N m.Prime (gl (base x.zA.length x.zA.length*D) (fun q=>zAn m.Prime D m prs q)) (v32.length:Int)).bind fun r33=>iG r33) (
   (f_N m.Prime (gl (base x.zA.length x.zA.length*D) (fun q=>zAn m.Prime D m prs q)) 0).bind fun r34=>iG r34):=by
  unfold f_f;rw[zIo rfl h6,bs,hD.d,←Ld,zC (by omega) (by omega),bs,xC (by omega),bs,zE0 hx.toPres h6,bs];rw[show((0:Nat):Int)=0 from rfl]at eV;rw[eV,bs]
 rcases Gv x.zA.length with h0|h0
 ·obtain⟨K,pk,k1,k2,k3⟩:=zO9 h0 hD
  refine⟨K,pk,k1,?_,?_⟩
  ·rw[pE,h0,show base 0 0=0 from rfl,Hz]
   simp only[gl,List.range_zero,U2,Jq];rw[show decide (((0:Nat):Int)> 0)=iJ from rfl,zM,k2,bs]
  ·rw[h0,show base 0 0=0 from rfl,Hz];exact k3
 ·obtain⟨K,pk,k1,k2,_⟩:=zGC hx hD h0 hc hr
  obtain⟨K2,j1,j2⟩:=zMZ hx hD h0 hc hr hq;rw[k1]at j1;cases j1;refine⟨K,pk,k1,?_,k2⟩;have pF:0<base x.zA.length x.zA.length*D:=Jbh (by omega) h1;rw[pE,wN,iM (by omega),zK,show(0:Int)=((0:Nat):Int)from rfl,zAh pF,bs,zIB,j2,bs]
end
end Go.Pl

namespace Go.Pl
open Go Go.Ab Go.Wk Go.Pc
end Go.Pl

namespace Go.Pl
open Go Go.Ab Go.Wk Go.Pc
theorem zTZ{n D:Nat}{v:List Int}(hD:1≤D)(hl:v.length=n*D):(zEt n D v).flatten=v:=by
 have hF:∀i:Nat,(mkv D fun j=>at0 v (i*D+j)).length=D:=fun i=>zY _ _
 have h1:(zEt n D v).flatten.length=n*D:=by have:=zGk (F:=fun i=>mkv D fun j=>at0 v (i*D+j)) hF (Jg n);rw[Le]at this;exact this
 refine(vC h1).trans (((zZ fun k hk=>?_)).trans (vC hl).symm);have hi:k/D<n:=(Lt (by omega)).2 hk;have hm:k%D<D:=Hk _ (by omega);have e:=zFv (F:=fun i=>mkv D fun j=>at0 v (i*D+j)) hF (Jg n) (k/D) (k%D) (by grind) hm;rw[show k/D*D+k%D=k from by grind[Lg]]at e;rw[Ut,yB hm,show k/D*D+k%D=k from by grind[Lg]]at e;exact e
section
variable {x:SPr}{m:zB}{D:Nat} (hx:zAb x) (hD:MOk x.zA.length m D)
 include hx hD
theorem zJU:∃R pv,zN6 x m=iG R∧Red m.Prime (base x.zA.length x.zA.length*D) R pv∧base x.zA.length x.zA.length*D≤63∧ ∀v,Row m.Prime (base x.zA.length x.zA.length*D) v→
  Row m.Prime (base x.zA.length x.zA.length*D) (cl m.Prime (base x.zA.length x.zA.length*D) R pv v R.length)∧zOS m.Prime R v=iG (cl m.Prime (base x.zA.length x.zA.length*D) R pv v R.length)∧
  zRF x m v=iG (zEt (base x.zA.length x.zA.length) D (cl m.Prime (base x.zA.length x.zA.length*D) R pv v R.length)):=by
 have h3:=hD.d3;obtain⟨R,pv,r1,r2,r3,r4,r5,r6⟩:=zO0 hx hD;refine⟨R,pv,r1,r4,r6,fun v hv=>?_⟩;have gC:=zEq hD.p (by omega) r4 hv R.length;refine⟨gC,zEr hD.p (by omega) r4 hv (by omega),?_⟩;unfold zRF zZT;rw[r2,bs,r3,bs,bs,zIp hD.p (by omega) r4 hv (by omega),bs,hD.d,zIr hD.d1 gC.1 (by omega),bs]
theorem zOA{v:List Int}(hv:Row m.Prime (base x.zA.length x.zA.length*D) v):f_q (zEt (base x.zA.length x.zA.length) D v)=iG v:=by have h6:=hx.n6;have h3:=hD.d3;have hb:=wT x.zA.length (by omega);have bQ:base x.zA.length x.zA.length*D≤21*3:=Jr hb.2.1 h3;have e:=zTZ hD.d1 hv.1;rw[sZ (by grind[zEt]) (by rw[e,hv.1];omega),e]
theorem zLi(hc:wO (suf x 0))(hr:zCv x m D):∃C pc K rows,zXq x m=iG C∧f_f x m=iG K∧zI (zNC x m K) ([],0)=iG rows∧f_i m.Prime rows=iG C∧Red m.Prime (base x.zA.length x.zA.length*D) C pc∧base x.zA.length x.zA.length*D≤63:=by
 obtain⟨R,pv,r1,r2,r3,r4⟩:=zJU hx hD;obtain⟨K,pk,k1,k2,k3⟩:=zJb hx hD hc hr;have hK:=k3.len_le;have hl:(gl K.length fun i=>cl m.Prime (base x.zA.length x.zA.length*D) R pv (K.getD i []) R.length).length=K.length:=wN;obtain⟨C,pc,c1,c2,c3,_⟩:=qB hD.p (n:=base x.zA.length x.zA.length*D) (rows:=gl K.length fun i=>cl m.Prime (base x.zA.length x.zA.length*D) R pv (K.getD i []) R.length) (by omega) (by omega) (fun i hi=>by rw[hl]at hi;rw[xN hi];exact(r4 _ (k3.row i hi)).1)
 refine⟨C,pc,K,_,?_,k2,?_,c2,c3,r3⟩
 ·unfold zXq
  rw[r1,bs,k1,bs,vB (body:=zNA m R K) K.length (fun i=>cl m.Prime (base x.zA.length x.zA.length*D) R pv (K.getD i []) R.length) (fun i acc hi ha=>by
   unfold zNA;simp only
   rw[yR hi,zK,yO [] hi,bs,(r4 _ (k3.row i hi)).2.1,bs,yI (by simp only[J7,Jq];omega),bs,zC (by omega) (by omega),bs];rfl) (fun acc=>by
   unfold zNA;simp),bs]
  grind
 ·exact vB (body:=zNC x m K) K.length (fun i=>cl m.Prime (base x.zA.length x.zA.length*D) R pv (K.getD i []) R.length) (fun i acc hi ha=>by
   unfold zNC;simp only
   rw[yR hi,zK,yO [] hi,bs,(r4 _ (k3.row i hi)).2.2,bs,zOA hx hD (r4 _ (k3.row i hi)).1,bs,yI (by simp only[J7,Jq];omega),bs,zC (by omega) (by omega),bs];rfl) (fun acc=>by
   unfold zNC;simp)
end
end Go.Pl

namespace Go.Pl
open Go Go.Ab Go.Wk Go.Pc
end Go.Pl

namespace Go.Pl
open Go Go.Ab Go.Wk Go.Pc
def zRv(x:SPr):Prop:=0<x.zA.length∧ ∀i,i<x.zA.length→at0 x.zA i=at0 x.zA 0
theorem zNb{x:SPr}(h0:0<x.zA.length)(hl:x.zA.length≤1048576){f:Option Bool}{body:Int→Option (Int⊕(Unit⊕Bool))}(hf:f=(zI body 0).bind fun r=>match r with|.inl _=>iG iI|.inr r=>iG r)
  (hb:∀s,body s=cond (decide (s<(x.zA.length:Int))) ((ixO x.zA s).bind fun v2=>(ixO x.zA 0).bind fun v3=>cond (v2 != v3) (iG (.inr (.inr iJ))) ((rng (s+1)).bind fun v4=>iG (.inl v4))) (iG (.inr (.inl ())))):IsB f (zRv x):=by
 refine(sW (body:=body) x.zA.length (fun i=>at0 x.zA i=at0 x.zA 0) hf (fun i hi _=>?_) ?_).iff ⟨fun g=>⟨h0,g⟩,fun g=>g.2⟩
 ·rw[hb,yR hi,zK,yN hi,bs,show(0:Int)=((0:Nat):Int)from rfl,yN h0,bs]
  by_cases g:at0 x.zA i=at0 x.zA 0
  ·rw[jO g,zM,zC (by omega) (by omega),bs]
   grind
  grind
 grind
theorem zJc{x:SPr}(hl:x.zA.length≤1048576):IsB (zXo x) (sX x∧zRv x):=by
 unfold zXo;rcases zIf hl with⟨h1,h2⟩|⟨h1,h2⟩
 ·rw[h1,bs,Jo,zM]
  by_cases h0:0<x.zA.length
  ·rw[show(((x.zA.length:Nat):Int)==0)=iJ from by grind,zM]
   exact(zNb h0 hl rfl (fun _=>rfl)).iff (by grind)
  ·rw[show(((x.zA.length:Nat):Int)==0)=iI from by grind,zK]
   exact .inr ⟨rfl,fun g=>h0 g.2.1⟩
 ·rw[h1,bs,Kd,zK]
  exact .inr (by grind)
theorem zJd{x:SPr}(hl:x.zA.length≤1048576):IsB (zVB x) (sX x∧zRv x):=by
 unfold zVB;rcases jQ hl with⟨h1,h2⟩|⟨h1,h2⟩
 ·rw[h1,bs,Jo,zM]
  by_cases h0:0<x.zA.length
  ·rw[show(((x.zA.length:Nat):Int)==0)=iJ from by grind,zM]
   exact(zNb h0 hl rfl (fun _=>rfl)).iff (by grind)
  ·rw[show(((x.zA.length:Nat):Int)==0)=iI from by grind,zK]
   exact .inr ⟨rfl,fun g=>h0 g.2.1⟩
 ·rw[h1,bs,Kd,zK]
  exact .inr (by grind)
theorem zIF{x:SPr}(hx:zAb x){body:Int×Int→Option ((Int×Int)⊕Int)}
  (hb:∀s:Int×Int,body s=cond (decide (s.2<(x.zA.length:Int))) ((ixO x.zA s.2).bind fun v1=>(rng (s.1*v1)).bind fun v2=>(rng (s.2+1)).bind fun v3=>iG (.inl (v2,v3))) (iG (.inr s.1))):zI body (1,0)=iG (pr x.zA x.zA.length):=by
 have h6:=hx.n6;have hP:∀j,j<x.zA.length→Prime (at0 x.zA j):=fun j hj=>hx.os.2 j hj
 exact zX (body:=body) (r:=pr x.zA x.zA.length) (fun i=>(pr x.zA i,(i:Int))) x.zA.length (fun i hi=>by
  have e1:=zK8 hP (x.zA.length-(i+1)) (by omega);rw[show x.zA.length-(x.zA.length-(i+1))=i+1 from by omega]at e1;have e2:=zFV (os:=x.zA) (i:=i+1) (by grind);have e3:=hx.pr;simp only[pr]at e1 e2;rw[hb];simp only
  rw[yR hi,zK,yN hi,bs,zC (n:=pr x.zA i*at0 x.zA i) (by omega) (by omega),bs,zC (by omega) (by omega),bs];rfl) (by
  grind)
def xS(q:Int)(D n:Nat):zB:=⟨q,(D:Int),gl n fun _=>idM D⟩
theorem zBF{q:Int}{D n i:Nat}(h:i<n):(xS q D n).zF.getD i []=idM D:=by rw[xS,J2,J3 (by grind)];simp[gl]
theorem zRw{x:SPr}{q:Int}{D:Nat}(hq:Prime q)(h6:x.zA.length≤6)(hD:D≤8):f_S x q (D:Int)=iG (xS q D x.zA.length):=by
 unfold f_S;rw[vB (body:=zLr x (D:Int)) x.zA.length (fun _=>idM D) (fun i acc hi ha=>by
  unfold zLr;simp only
  rw[yR hi,zK,zEl hq hD,bs,yI (by grind),bs,zC (by omega) (by omega),bs];rfl) (fun acc=>by
  unfold zLr;simp),bs]
 rfl
theorem zOB{x:SPr}{q:Int}{D:Nat}(hq:Prime q)(h6:x.zA.length≤6)(hD:D≤8):zXt x q (D:Int)=iG (xS q D x.zA.length):=by
 unfold zXt;rw[vB (body:=zNB x q (D:Int)) x.zA.length (fun _=>idM D) (fun i acc hi ha=>by
  unfold zNB;simp only
  rw[yR hi,zK,zBk hq hD,bs,yI (by grind),bs,zC (by omega) (by omega),bs];rfl) (fun acc=>by
  unfold zNB;simp),bs]
 rfl
theorem zQw{q:Int}{D n:Nat}(hq:Prime q)(h1:1≤D)(h3:D≤3):MOk n (xS q D n) D:=
 ⟨hq,rfl,h1,h3,wN,fun i hi=>by rw[zBF hi];exact tA hq.pos.1⟩
theorem zD1{q:Int}{D n:Nat}:∀(w:List Nat){B:Mx},Mat q D B→(∀a∈w,a<n)→wM q D (xS q D n).zF w B=B
 | [],_,_,_=>rfl
 |a::w,B,hB,hw=>by show wM q D (xS q D n).zF w (PM q D B ((xS q D n).zF.getD a []))=B;rw[zBF (hw a (by simp)),zB6 hB];exact zD1 w hB (by grind)
theorem zUa{x:SPr}(h:Pres x){q:Int}{D:Nat}(hq:Prime q):zCv x (xS q D x.zA.length) D:=by
 have hI:Mat q D (idM D):=tA hq.pos.1;intro i hi;refine⟨?_,fun j hj1 pU=>?_⟩
 ·show wM q D _ _ _=wM q D _ _ _
  rw[zD1 _ hI (by grind),zD1 _ hI fun a ha=>((tB h (qK h hi) hi).2 a ha).2]
 ·show PM q D _ _=PM q D _ (wM q D _ _ _)
  have:=tB h (uB h (show i<j by omega) pU) hi;rw[zBF hi,zBF pU,zD1 _ hI (by grind)]
theorem zJe{x:SPr}(hc:sX x)(hp:zRv x):∃C pc,zXr x=iG C∧zXu x=iG C∧Red (at0 x.zA 0) (base x.zA.length x.zA.length) C pc∧base x.zA.length x.zA.length≤21:=by
 have h6:=hc.2.2.n6;have hq:=hc.1.os.2 0 hp.1;have hb:=wT x.zA.length (by omega);obtain⟨C,pc,K,rows,c1,c2,c3,c4,c5,_⟩:=zLi (m:=xS (at0 x.zA 0) 1 x.zA.length) hc.2.2 (by grind[zQw]) hc.2.1 (zUa hc.1 hq);rw[Ht]at c5;refine⟨C,pc,?_,?_,c5,hb.2.1⟩
 ·unfold zXr zVA
  rw[show(0:Int)=((0:Nat):Int)from rfl,yN hp.1,bs,show(1:Int)=((1:Nat):Int)from rfl,zRw hq h6 (by omega),bs,bs,c1,bs]
 ·unfold zXu
  rw[show(0:Int)=((0:Nat):Int)from rfl,yN hp.1,bs,show(1:Int)=((1:Nat):Int)from rfl,zOB hq h6 (by omega),bs,c2,bs];have e:zVD=zNC:=rfl
  grind
end Go.Pl

namespace Go.Pl
open Go Go.Ab Go.Wk Go.Pc
theorem zJV{D i:Nat}:(J1 D (0:Int)).set i 1=mkv D fun j=>if j=i then 1 else 0:=by rw[uA,qH]
theorem zIG{D:Nat}(hD:D≤1000):f_C (D:Int)=iG (idM D):=by
 unfold f_C;rw[vB (body:=zIJ (D:Int)) D (fun i=>mkv D fun j=>if j=i then 1 else 0) (fun i acc hi ha=>by
  unfold zIJ;simp only
  rw[yR hi,zK,xC (by omega),bs,vS,Kf,if_pos hi,bs,J8,zJV,yI (by simp only[J7,Jq];omega),bs,zC (by omega) (by omega),bs];rfl) (fun acc=>by
  unfold zIJ;simp only
  rw[vE,zM]),bs]
 rfl
theorem zIH{p:Int}{D:Nat}(hD:D≤1000):f_G p (D:Int)=iG (zQ.mk p (D:Int) (idM D)):=by
 unfold f_G;rw[vB (body:=zLn (D:Int)) D (fun i=>mkv D fun j=>if j=i then 1 else 0) (fun i acc hi ha=>by
  unfold zLn;simp only
  rw[yR hi,zK,xC (by omega),bs,vS,Kf,if_pos hi,bs,J8,zJV,yI (by simp only[J7,Jq];omega),bs,zC (by omega) (by omega),bs];rfl) (fun acc=>by
  unfold zLn;simp only
  rw[vE,zM]),bs]
 rfl
theorem zOC{x:SPr}{q:Int}{D:Nat}(h6:x.zA.length≤6)(hD:D≤1000):f_S x q (D:Int)=iG (xS q D x.zA.length):=by
 unfold f_S;rw[vB (body:=zLr x (D:Int)) x.zA.length (fun _=>idM D) (fun i acc hi ha=>by
  unfold zLr;simp only
  rw[yR hi,zK,zIG hD,bs,yI (by simp only[J7,Jq];omega),bs,zC (by omega) (by omega),bs];rfl) (fun acc=>by
  unfold zLr;simp only
  rw[vE,zM]),bs]
 rfl
end Go.Pl

namespace Go.Pl
open Go Go.Ab Go.Wk Go.Pc
theorem zUb{body:List Int×Int→Option ((List Int×Int)⊕List Int)}(n:Nat)(F:Nat→Int)(h:∀i acc,i<n→acc.length=i→body (acc,(i:Int))=iG (.inl (acc++[F i],((i+1:Nat):Int))))(he:∀acc,body (acc,(n:Int))=iG (.inr acc)):
  zI body ([],0)=iG (mkv n F):=vB n F h he
end Go.Pl

namespace Go.Pl
open Go Go.Ab Go.Wk Go.Pc
end Go.Pl

namespace Go.Pl
open Go Go.Ab Go.Wk Go.Pc
theorem zWD{p:Int}{D:Nat}{r:List Int}(hr:Row p D r):xY p D r (idM D)=r:=by rw[xY];refine Eq.trans (zZ fun j hj=>?_) (vC hr.1).symm;rw[jR (k:=j) hj fun l hl gf=>by rw[ent,zAV hl,yB hj,if_neg (fun h=>gf h.symm),Kw],ent,zAV hj,yB hj,if_pos rfl,Lz];exact sF (hr.2 j hj)
def zOD(n c:Nat)(u:Mx):Mx:=gl n fun i=>mkv 1 fun _=>at0 (u.getD i []) c
theorem zNc{n c i:Nat}{u:Mx}(h:i<n):(zOD n c u).getD i []=mkv 1 fun _=>at0 (u.getD i []) c:=by rw[zOD,xN h]
theorem zII{q:Int}{D n a:Nat}{u:Mx}{v:List Int}(ha:a<n)(hv:Row q D v):stp (xS q D n) D u v a=vW q D v 1 (u.getD a []):=by
 show vW q D (xY q D v ((xS q D n).zF.getD a [])) 1 (u.getD a [])=_
 grind[zBF,zWD]
section
variable {q:Int} (hq:Prime q) {n D c:Nat} (hc:c<D)
 include hq hc
theorem yCG{v:List Int}(hv:Row q D v):Row q 1 (mkv 1 fun _=>at0 v c):=⟨zY _ _,fun i hi=>by have _:=hq;rw[yB hi];exact hv.2 c hc⟩
theorem zOE{u:Mx}:∀(w:List Nat)(v:List Int),(∀a∈w,a<n)→Row q D v→at0 (ev (xS q D n) D u v w) c=at0 (ev (xS q 1 n) 1 (zOD n c u) (mkv 1 fun _=>at0 v c) w) 0
 | [],v,_,_=>by rfl
 |a::w,v,hw,hv=>by have ha:=hw a (by simp);show at0 (ev (xS q D n) D u (stp (xS q D n) D u v a) w) c=at0 (ev (xS q 1 n) 1 (zOD n c u) (stp (xS q 1 n) 1 (zOD n c u) (mkv 1 fun _=>at0 v c) a) w) 0;have ee:(mkv 1 fun _=>at0 (vW q D v 1 (u.getD a [])) c)=vW q 1 (mkv 1 fun _=>at0 v c) 1 (mkv 1 fun _=>at0 (u.getD a []) c):=zZ (by grind[vW,yB]);rw[zII ha hv,zII ha (yCG hq hc hv),zOE w _ (by grind) (zAf hq),zNc ha,ee]
theorem zWE{u:Mx}{rel:Rl}(h1:∀a∈rel.1,a<n)(h2:∀a∈rel.2,a<n):at0 (dfc (xS q D n) D u rel) c=at0 (dfc (xS q 1 n) 1 (zOD n c u) rel) 0:=by
 have hz:=zEo (p:=q) (D:=D) (by have:=hq.pos;omega);have e0:(mkv 1 fun _=>at0 (z0 D) c)=z0 1:=by
  have:at0 (z0 D) c=0:=by grind
  rw[this];rfl
 have e1:=zOE hq hc (u:=u) rel.1 (z0 D) h1 hz;have e2:=zOE hq hc (u:=u) rel.2 (z0 D) h2 hz;rw[e0]at e1 e2;show at0 (vW q D _ (-1) _) c=at0 (vW q 1 _ (-1) _) 0
 grind[vW,yB]
end
theorem zUc{n D kk i c:Nat}(hi:i<n)(hc:c<D):at0 ((uv n D kk).getD i []) c=if i*D+c=kk then 1 else 0:=by
 have:i*D+c<n*D:=by have:=zCd (D:=D) hi;omega
 grind[uv,zEt,yB,qN]
theorem zLj{q:Int}(hq:Prime q){n:Nat}{u:Mx}(hu:∀i,i<n→u.getD i []=mkv 1 fun _=>0):∀w:List Nat,(∀a∈w,a<n)→ev (xS q 1 n) 1 u (z0 1) w=z0 1
 | [],_=>rfl
 |a::w,hw=>by
  have ha:=hw a (by simp);show ev (xS q 1 n) 1 u (stp (xS q 1 n) 1 u (z0 1) a) w=z0 1;have e:stp (xS q 1 n) 1 u (z0 1) a=z0 1:=by rw[zII ha (zEo (by have:=hq.pos;omega)),hu a ha];rfl
  rw[e];exact zLj hq hu w (by grind)
theorem zZB{x:SPr}(h:Pres x):∀rel∈wC x,(∀a∈rel.1,a<x.zA.length)∧ ∀a∈rel.2,a<x.zA.length:=by
 intro rel hr;simp only[wC,Jd,Jl,Lr,Kn,R2]at hr;rcases hr with⟨i,hi,rfl⟩|⟨i,hi,j,hj,rfl⟩
 ·exact⟨fun a ha=>by rw[K9 ha];exact hi,fun a ha=>((tB h (qK h hi) hi).2 a ha).2⟩
 ·have hl:=(h.tl i hi).2.1
  have bY:=(h.tl i hi).2.2 j hj;refine⟨fun a ha=>?_,fun a ha=>?_⟩
  ·simp only[r2,J9,Q5,or_false]at ha
   omega
  ·simp only[r2,J9]at ha
   rcases ha with rfl|ha
   ·exact hi
   ·exact((tB h bY hi).2 a ha).2
section
variable {x:SPr} (hx:zAb x) {q:Int} (hq:Prime q) {D:Nat} (h1:1≤D) (h3:D≤3)
 include hx hq h1 h3
theorem zUd{i k r c:Nat}(hi:i<x.zA.length)(hk:k<D)(hr:r<base x.zA.length x.zA.length)(hc:c<D):
  ent (tO x (xS q D x.zA.length) D) (i*D+k) (r*D+c)=if c=k then ent (tO x (xS q 1 x.zA.length) 1) i r else 0:=by
 have hl:=zI3 hx.toPres hx.n6;have bp:i*D+k<x.zA.length*D:=by have:=zCd (D:=D) hi;omega
 have c9:r<(wC x).length:=by omega
 have mu:(wC x)[r]? =iG (wC x)[r]:=have _:=h3;by simp
 obtain⟨z1,z2⟩:=zZB hx.toPres _ (K8 c9);have e1:ent (tO x (xS q D x.zA.length) D) (i*D+k) (r*D+c)=at0 (dfc (xS q D x.zA.length) D (uv x.zA.length D (i*D+k)) (wC x)[r]) c:=by show at0 ((zFj _ _ _).getD (i*D+k) []) (r*D+c)=_;rw[zFj,xN bp,zFi hc (wC x) r (wC x)[r] (fun _ _=>zEW) mu]
 have e2:ent (tO x (xS q 1 x.zA.length) 1) i r=at0 (dfc (xS q 1 x.zA.length) 1 (uv x.zA.length 1 i) (wC x)[r]) 0:=by
  have:=zFi (F:=dfc (xS q 1 x.zA.length) 1 (uv x.zA.length 1 i)) (show 0<1 by omega) (wC x) r (wC x)[r] (fun _ _=>zEW) mu;show at0 ((zFj _ _ _).getD i []) r=_
  grind[zFj,xN]
 rw[e1,e2,zWE hq hc z1 z2]
 by_cases e:c=k
 ·subst e
  rw[if_pos rfl]
  congr 2
  refine tM fun i' eI=>zZ fun j hj=>?_
  rw[zUc eI hc,qN,yB (by omega)]
  by_cases g:i'=i
  ·grind
  ·have:¬i'*D+c=i*D+c:=by grind[Nat.eq_of_mul_eq_mul_right]
   omega
 ·rw[if_neg e]
  have hu:∀i',i'<x.zA.length→(zOD x.zA.length c (uv x.zA.length D (i*D+k))).getD i' []=mkv 1 fun _=>0:=fun i' eI=>by
   rw[zNc eI];refine zZ fun _ _=>?_
   rw[zUc eI hc,if_neg]
   grind[vL]
  show at0 (vW q 1 _ (-1) _) 0=0;rw[vW,yB (by omega),zLj hq hu _ z1,zLj hq hu _ z2];rfl
def zGn(N D c:Nat)(v:List Int):List Int:=mkv N fun r=>at0 v (r*D+c)
theorem zZC{v:List Int}(hv:Sp q (base x.zA.length x.zA.length*D) (tO x (xS q D x.zA.length) D) v){c:Nat}(hc:c<D):Sp q (base x.zA.length x.zA.length) (tO x (xS q 1 x.zA.length) 1) (zGn (base x.zA.length x.zA.length) D c v):=by
 obtain⟨cf,fE⟩:=hv;refine⟨fun i=>cf (i*D+c),fun r hr=>?_⟩;have hrc:r*D+c<base x.zA.length x.zA.length*D:=by have:=zCd (D:=D) hr;omega
 have e:=fE (r*D+c) hrc;have hl:(tO x (xS q D x.zA.length) D).length=x.zA.length*D:=wN;have mc:(tO x (xS q 1 x.zA.length) 1).length=x.zA.length:=by rw[show(tO x (xS q 1 x.zA.length) 1).length=x.zA.length*1 from wN,Ht]
 rw[hl,zFt]at e;rw[mc,zGn,yB hr,←e]
 congr 1
 refine xI fun i hi=>?_
 rw[jR (k:=c) hc fun k hk gf=>by rw[zUd hx hq h1 h3 hi hk hr hc,if_neg (fun g=>gf g.symm),Kw],zUd hx hq h1 h3 hi hc hr hc,if_pos rfl]
theorem zZD{y:List Int}(hy:Sp q (base x.zA.length x.zA.length) (tO x (xS q 1 x.zA.length) 1) y){c:Nat}(hc:c<D):Sp q (base x.zA.length x.zA.length*D) (tO x (xS q D x.zA.length) D) (mkv (base x.zA.length x.zA.length*D) fun k=>if k%D=c then at0 y (k/D)else 0):=by
 obtain⟨cf,fE⟩:=hy;have hl:(tO x (xS q D x.zA.length) D).length=x.zA.length*D:=wN;have mc:(tO x (xS q 1 x.zA.length) 1).length=x.zA.length:=by rw[show(tO x (xS q 1 x.zA.length) 1).length=x.zA.length*1 from wN,Ht]
 refine⟨fun kk=>if kk%D=c then cf (kk/D)else 0,fun j hj=>?_⟩;have hD:0<D:=h1;have hr:j/D<base x.zA.length x.zA.length:=(Lt hD).2 hj;have hm:j%D<D:=Hk _ hD;have ej:j/D*D+j%D=j:=by grind[Lg]
 rw[hl,zFt,yB hj];have key:(S x.zA.length fun i=>S D fun k=>(if(i*D+k)%D=c then cf ((i*D+k)/D)else 0)*ent (tO x (xS q D x.zA.length) D) (i*D+k) j)=if j%D=c then S x.zA.length fun i=>cf i*ent (tO x (xS q 1 x.zA.length) 1) i (j/D)else 0:=by
  have e1:∀i,i<x.zA.length→(S D fun k=>(if(i*D+k)%D=c then cf ((i*D+k)/D)else 0)*ent (tO x (xS q D x.zA.length) D) (i*D+k) j)=if j%D=c then cf i*ent (tO x (xS q 1 x.zA.length) 1) i (j/D)else 0:=fun i hi=>by
   rw[jR (k:=c) hc fun k hk gf=>by rw[(vL (q:=i) hk).2,if_neg gf,Q8]];rw[(vL (q:=i) hc).1,(vL (q:=i) hc).2,if_pos rfl];have e2:=zUd hx hq h1 h3 hi hc hr hm
   grind
  rw[xI e1];split
  all_goals grind[sY]
 grind
end
end Go.Pl

namespace Go.Pl
open Go Go.Ab Go.Wk Go.Pc
theorem zOF{p a b s:Int}(h:a%p=(b+s)%p):s%p=(a-b)%p:=by
 have e:s=(b+s)-b:=by omega
 rw[e,Qk,←h,←Qk]
theorem zQx{p:Int}(hp:Prime p){n:Nat}(hn:n≤100000){R:Mx}{pv:Nat→Nat}(h:Red p n R pv){v:List Int}(hv:Row p n v):Sp p n R (mkv n fun j=>at0 (cl p n R pv v R.length) j-at0 v j):=by obtain⟨cf,fE⟩:=zPS hp hn h hv R.length (Jh _);exact⟨cf,fun j hj=>by rw[yB hj];exact zOF (fE j hj)⟩
section
variable {x:SPr} (hx:zAb x) {q:Int} (hq:Prime q) {D:Nat} (h1:1≤D) (h3:D≤3)
 include hx hq h1 h3
theorem zZE{R1 RD:Mx}{p1 pD:Nat→Nat}(k1:Red q (base x.zA.length x.zA.length) R1 p1)(kD:Red q (base x.zA.length x.zA.length*D) RD pD)
  (e1:∀v,Sp q (base x.zA.length x.zA.length) R1 v↔Sp q (base x.zA.length x.zA.length) (tO x (xS q 1 x.zA.length) 1) v)(eD:∀v,Sp q (base x.zA.length x.zA.length*D) RD v↔Sp q (base x.zA.length x.zA.length*D) (tO x (xS q D x.zA.length) D) v)
  {v:List Int}(hv:Row q (base x.zA.length x.zA.length*D) v){r c:Nat}(hr:r<base x.zA.length x.zA.length)(hc:c<D):
  at0 (cl q (base x.zA.length x.zA.length*D) RD pD v RD.length) (r*D+c)=at0 (cl q (base x.zA.length x.zA.length) R1 p1 (zGn (base x.zA.length x.zA.length) D c v) R1.length) r:=by
 have h7:=hq.pos;have hb:=wT x.zA.length (by have:=hx.n6;omega);have hbD:base x.zA.length x.zA.length*D≤21*3:=Jr hb.2.1 h3;have fy:∀r,r<base x.zA.length x.zA.length→r*D+c<base x.zA.length x.zA.length*D:=fun r hr=>by have:=zCd (D:=D) hr;omega
 have d8:Row q (base x.zA.length x.zA.length) (zGn (base x.zA.length x.zA.length) D c v):=⟨zY _ _,fun i hi=>by rw[zGn,yB hi];exact hv.2 _ (fy i hi)⟩;have hw:=zEq hq (by omega) kD hv RD.length;have hu:=zEq hq (by omega) k1 d8 R1.length;have zw:=fun i(hi:i<RD.length)=>zOm hq (by omega) kD hv RD.length (Jh _) i hi
 have zu:=fun i(hi:i<R1.length)=>zOm hq (by omega) k1 d8 R1.length (Jh _) i hi
 have dA:=zZC hx hq h1 h3 ((eD _).1 (zQx hq (by omega) kD hv)) hc;have dC:=zQx hq (by omega) k1 d8
 generalize cl q (base x.zA.length x.zA.length*D) RD pD v RD.length=w at*
 generalize cl q (base x.zA.length x.zA.length) R1 p1 (zGn (base x.zA.length x.zA.length) D c v) R1.length=u at*
 have hE:Sp q (base x.zA.length x.zA.length) R1 (mkv (base x.zA.length x.zA.length) fun r=>at0 w (r*D+c)-at0 u r):=by
  refine zAH (k:=-1) ((e1 _).2 dA) dC fun j hj=>?_
  rw[zGn,yB hj,yB hj,yB hj,zGn,yB hj,yB (fy j hj)]
  congr 1;omega
 refine Decidable.byContradiction fun gf=>?_
 obtain⟨i,hi,_,g2⟩:=k1.lead hE ⟨r,hr,by
  rw[yB hr];have a1:=hw.2 (r*D+c) (fy r hr);have a2:=hu.2 r hr;intro g;rcases Jcb (at0 w (r*D+c)-at0 u r) 0 with h0|h0|h0
  ·have:(at0 w (r*D+c)-at0 u r+q)%q=0:=by rw[Uu];exact g
   rw[Jy (by omega) (by omega)]at this;omega
  ·omega
  ·rw[Jy (by omega) (by omega)]at g
   omega⟩
 have bR:=k1.lt i hi;rw[yB bR,zu i hi]at g2;have hbs:=(eD _).2 (zZD hx hq h1 h3 ((e1 _).1 (qA (p:=q) (n:=base x.zA.length x.zA.length) hi)) hc);have gw:=k1.one i hi;have bat:∀j,j<base x.zA.length x.zA.length*D→at0 (mkv (base x.zA.length x.zA.length*D) fun k=>if k%D=c then at0 (R1.getD i []) (k/D)else 0) j=if j%D=c then ent R1 i (j/D)else 0:=fun j hj=>yB hj
 obtain⟨i',eI,b1,b2⟩:=kD.lead hbs ⟨p1 i*D+c,fy _ bR,by rw[bat _ (fy _ bR),(vL (q:=p1 i) hc).2,if_pos rfl,(vL (q:=p1 i) hc).1,gw,Jy (by omega) (by omega)];omega⟩
 have hj:=kD.lt i' eI;have hpv:pD i'=p1 i*D+c:=by
  rw[bat _ hj]at b2
  by_cases gm:pD i'%D=c
  ·rw[if_pos gm]at b2
   have hge:p1 i≤pD i'/D:=Nat.le_of_not_lt fun gF=>b2 (by rw[k1.low i hi _ gF];simp)
   have ej:pD i'/D*D+pD i'%D=pD i':=by rw[Hh];exact Lg _ D
   have hm:=Kb D hge;rcases Jj (p1 i*D+c) (pD i')with gF|hle
   ·have:=b1 _ gF
    rw[bat _ (fy _ bR),(vL (q:=p1 i) hc).2,if_pos rfl,(vL (q:=p1 i) hc).1,gw,Jy (by omega) (by omega)]at this;omega
   ·omega
  ·rw[if_neg gm]at b2
   simp at b2
 have:=zw i' eI;rw[hpv]at this;rw[this]at g2;simp at g2
end
end Go.Pl

namespace Go.Pl
open Go Go.Ab Go.Wk Go.Pc
def zNd(x:SPr)(m:zB)(D:Nat):Prop:=∀i,i<x.zA.length→m.zF.getD i []=idM D
theorem zWF{x:SPr}{m:zB}{D:Nat}(hD:MOk x.zA.length m D)(hA:zNd x m D):m=xS m.Prime D x.zA.length:=by
 obtain⟨p,d,a⟩:=m;have h2:=hD.d;have h3:=hD.len;simp only at h2 h3;subst h2;rw[xS]
 congr 1
 refine U7 (by simp_all) fun i h1 h2=>?_
 have:=hA i (by omega);simp only at this;rw[J2,J3 h1]at this
 simp_all
theorem yBM{m:zB}{n D:Nat}(hD:MOk n m D){i:Nat}(hi:i<n):(m.zF.getD i []).length≤1000∧ ∀r∈m.zF.getD i [],r.length≤1000:=by
 have h:=hD.mat i hi;have h3:=hD.d3;refine⟨by rw[h.1];omega,fun r hr=>?_⟩;obtain⟨k,hk,rfl⟩:=Ke.1 hr;have:=(h.2 k (by rw[←h.1];exact hk)).1
 grind
section
variable {x:SPr}{m:zB}{D:Nat} (hD:MOk x.zA.length m D) (h6:x.zA.length≤6)
 include hD h6
theorem zJf:(zI (zIK m) 0=iG (.inl ())∧zNd x m D)∨(zI (zIK m) 0=iG (.inr iJ)∧ ¬zNd x m D):=by
 have h3:=hD.d3;rcases chk (body:=zIK m) x.zA.length 0 (Kg _) (fun i=>m.zF.getD i []=idM D) (fun _=>iJ) (fun i _ hi _=>by
  obtain⟨t1,t2⟩:=yBM hD hi;unfold zIK;rw[hD.len,yR hi,zK,yO [] (by rw[hD.len];exact hi),bs,hD.d,zIG (by omega),bs,zEm t1 t2,bs]
  by_cases g:m.zF.getD i []=idM D
  ·rw[show(m.zF.getD i []==idM D)=iI from by simp_all,Jo,zM,zC (by omega) (by omega),bs]
   simp_all
  ·rw[show(m.zF.getD i []==idM D)=iJ from beq_eq_false_iff_ne.2 g,Kd,zK]
   simp_all) (by
  unfold zIK;rw[hD.len,vE,zM])with⟨c1,c2⟩|⟨i,_,hi,c1,c2⟩
 ·exact .inl ⟨c1,fun i hi=>c2 i (Kg _) hi⟩
 ·exact .inr ⟨c1,fun g=>c2 (g i hi)⟩
theorem zDR:(zI (zIL x m) 0=iG (.inl ())∧zNd x m D)∨(zI (zIL x m) 0=iG (.inr 5)∧ ¬zNd x m D):=by
 have h3:=hD.d3;rcases chk (body:=zIL x m) x.zA.length 0 (Kg _) (fun i=>m.zF.getD i []=idM D) (fun _=>(5:Int)) (fun i _ hi _=>by
  obtain⟨t1,t2⟩:=yBM hD hi;unfold zIL;rw[yR hi,zK,yO [] (by rw[hD.len];exact hi),bs,hD.d,zIH (by omega),bs,zDO t1 t2,bs]
  by_cases g:m.zF.getD i []=idM D
  ·rw[show(m.zF.getD i []==idM D)=iI from by simp_all,Jo,zM,zC (by omega) (by omega),bs]
   simp_all
  ·rw[show(m.zF.getD i []==idM D)=iJ from beq_eq_false_iff_ne.2 g,Kd,zK]
   simp_all) (by
  unfold zIL;simp)with⟨c1,c2⟩|⟨i,_,hi,c1,c2⟩
 ·exact .inl ⟨c1,fun i hi=>c2 i (Kg _) hi⟩
 ·exact .inr ⟨c1,fun g=>c2 (g i hi)⟩
end
theorem zUe{x:SPr}{m:zB}{T:Mx}(hx:zES x)(hm:zK6 m)(hT:S2 T):∃c,zXv x m T=iG c∧zXw x m T=iG c∧
  (c=0→sX x∧zRv x∧ ∃D,MOk x.zA.length m D∧m=xS (at0 x.zA 0) D x.zA.length∧zCk x m D T):=by
 have hl:x.zA.length≤1048576:=hx.1;have uz:=S3.len hm;have aX:T.length≤1048576:=hT.len;unfold zXv zXw zZX;rcases(zIX (m:=m) hl).both (zIY (m:=m) hl uz)with⟨s1,i1,hM⟩|⟨s1,i1,_⟩
 ·obtain⟨hc,D,hD,hr⟩:=hM
  have h6:=hc.2.2.n6;simp only[s1,i1,bs,Jo,zM];rcases(zML hc.2.2 hD aX).both (zMM hc.2.2 hD aX)with⟨s2,i2,hF⟩|⟨s2,i2,_⟩
  ·simp only[s2,i2,bs,Jo,zM]
   rcases(zJc hl).both (zJd hl)with⟨s3,i3,_,hp⟩|⟨s3,i3,_⟩
   ·have h0:ixO x.zA 0=iG (at0 x.zA 0):=by
     rw[show(0:Int)=((0:Nat):Int)from rfl,yN hp.1]
    simp only[s3,i3,bs,Jo,zM,h0];have ir:zXs x=iG (if pr x.zA x.zA.length> 81 then 3 else 0):=by
     unfold zXs;have ic:zOO x=iG iI:=by
      rcases jQ hl with⟨h,_⟩|⟨_,h⟩
      all_goals grind
     unfold zZW;rw[ic,bs,Jo,zM,i3,bs,Jo,zM,zIF hc.2.2 (body:=zVC x) (fun _=>rfl),bs,bs]
     by_cases g:pr x.zA x.zA.length> 81
     ·simp_all
     ·rw[iL g,zM,if_neg g]
    have uq:zXp x=iG (pr x.zA x.zA.length):=by unfold zXp;rw[zIF hc.2.2 (body:=zV9 x) (fun _=>rfl),bs]
    simp only[ir,uq,bs];rcases zJf hD h6 with⟨t1,hA⟩|⟨t1,hA⟩
    ·simp only[t1,bs]
     by_cases g:m.Prime=at0 x.zA 0
     ·rw[show(m.Prime==at0 x.zA 0)=iI from by simp_all,jO g,Jo,zM,zM]
      rcases(zW2 hc.1 ((yB6 hc.2.2 hD hF).b hD) hF.2 (Mv.self hD) hc.2.1 hr).both (zQd hc.2.2 hD hF)with⟨s4,i4,_⟩|⟨s4,i4,_⟩
      ·simp only[s4,i4,bs,Jo,zM]
       rcases zDR hD h6 with⟨u1,_⟩|⟨_,hB⟩
       ·simp only[u1,bs]
        have em:=zWF hD hA
        by_cases g2:pr x.zA x.zA.length> 81
        ·rw[iM g2,zK,if_pos g2]
         simp
        ·rw[iL g2,zM,if_neg g2]
         exact⟨_,rfl,rfl,by grind⟩
       grind
      simp_all
     ·rw[show(m.Prime==at0 x.zA 0)=iJ from beq_eq_false_iff_ne.2 g,jP g,Kd,zK,zK]
      simp
    ·simp only[t1,bs,Kd,zK]
     refine⟨5,rfl,?_,fun h=>by cases h⟩
     by_cases g:m.Prime=at0 x.zA 0
     ·rw[jO g,zM]
      rcases zQd hc.2.2 hD hF with⟨i4,_⟩|⟨i4,_⟩
      ·simp only[i4,bs,Jo,zM]
       grind[zDR]
      simp_all
     ·rw[jP g,zK]
   simp_all
  simp_all
 simp_all
def zWG(D:Nat)(w:List Int)(C:Mx)(pc:Nat→Nat):Mx:=gl C.length fun j=>mkv D fun c=>at0 w (pc j*D+c)
theorem zWH{N D:Nat}{T:Mx}(hl:T.length=N)(hT:∀i,i<T.length→(T.getD i []).length=D){r c:Nat}(hr:r<N)(hc:c<D):at0 T.flatten (r*D+c)=at0 (T.getD r []) c:=by
 have:=zFi (F:=fun v:List Int=>v) hc T r (T.getD r []) (fun v hv=>by
  obtain⟨i,hi,rfl⟩:=Ke.1 hv
  grind) (by
  grind)
 grind[List.map_id']
section
variable {x:SPr}{D:Nat}{T:Mx} (hc:sX x) (hp:zRv x) (hD:MOk x.zA.length (xS (at0 x.zA 0) D x.zA.length) D) (hT:zCk x (xS (at0 x.zA 0) D x.zA.length) D T)
 include hc hp hD hT
theorem zOG:∃M,f_t x (xS (at0 x.zA 0) D x.zA.length) T=iG M∧zXx x (xS (at0 x.zA 0) D x.zA.length) T=iG ⟨at0 x.zA 0,(D:Int),M⟩∧M.length≤21∧ ∀i,i<M.length→Row (at0 x.zA 0) D (M.getD i []):=by
 have h6:=hc.2.2.n6;have hq:=hc.1.os.2 0 hp.1;have h7:=hq.pos;have h1:=hD.d1;have h3:=hD.d3;have hb:=wT x.zA.length (by omega);have hbD:base x.zA.length x.zA.length*D≤21*3:=Jr hb.2.1 h3;obtain⟨C,pc,c1,c2,c3,c4⟩:=zJe hc hp;have hCl:=c3.len_le;have hD1:MOk x.zA.length (xS (at0 x.zA 0) 1 x.zA.length) 1:=by grind[zQw]
 obtain⟨R1,p1,a1,a2,a3,a4⟩:=zMN hc.2.2 hD1;obtain⟨RD,pD,b1,b2,b3,b4⟩:=zMN hc.2.2 hD;rw[show(xS (at0 x.zA 0) 1 x.zA.length).Prime=at0 x.zA 0 from rfl,Ht]at a2 a3;rw[show(xS (at0 x.zA 0) D x.zA.length).Prime=at0 x.zA 0 from rfl]at b2 b3;obtain⟨t1,t2,t3⟩:=zO1 hc.2.2 hD hT;rw[show(xS (at0 x.zA 0) D x.zA.length).Prime=at0 x.zA 0 from rfl]at t1;obtain⟨RD',pD',d1,d2,d3,d4⟩:=zJU hc.2.2 hD;rw[b1]at d1;cases d1;rw[show(xS (at0 x.zA 0) D x.zA.length).Prime=at0 x.zA 0 from rfl]at d2 d4;have hw:=d4 _ t1;have gC:=fun r c(hr:r<base x.zA.length x.zA.length)(bz:c<D)=>zZE hc.2.2 hq h1 h3 a2 d2 a3 b3 t1 hr bz
 generalize cl (at0 x.zA 0) (base x.zA.length x.zA.length*D) RD pD' T.flatten RD.length=w at hw gC
 have fy:∀r c,r<base x.zA.length x.zA.length→c<D→r*D+c<base x.zA.length x.zA.length*D:=fun r c hr bz=>by have:=zCd (D:=D) hr;omega
 have aX:∀i,i<T.length→(T.getD i []).length=D:=fun i hi=>(hT.2 i hi).1
 have iv:∀c,c<D→Row (at0 x.zA 0) (base x.zA.length x.zA.length) (zGn (base x.zA.length x.zA.length) D c T.flatten):=fun c bz=>⟨zY _ _,fun i hi=>by rw[zGn,yB hi];exact t1.2 _ (fy i c hi bz)⟩
 have gj:(zWG D w C pc).length=C.length:=wN;refine⟨zWG D w C pc,?_,?_,by omega,fun i hi=>?_⟩
 ·unfold f_t zVA
  have e0:ixO x.zA 0=iG (at0 x.zA 0):=by rw[show(0:Int)=((0:Nat):Int)from rfl,yN hp.1]
  rw[c1,bs,e0,bs,show(1:Int)=((1:Nat):Int)from rfl,zOC h6 (by omega),bs,bs,a1,bs];rw[vB (body:=zVE (xS (at0 x.zA 0) D x.zA.length) C) C.length (fun _=>J1 D (0:Int)) (fun i acc hi ha=>by
   unfold zVE;simp only
   rw[yR hi,zK,hD.d,xC (by omega),bs,yI (by grind),bs,zC (by omega) (by omega),bs];rfl) (fun acc=>by
   unfold zVE;simp),bs]
  have pL:=zX (body:=zVG (xS (at0 x.zA 0) D x.zA.length) T C R1) (r:=zWG D w C pc) (fun k=>(gl C.length fun j=>mkv D fun c=>if c<k then at0 w (pc j*D+c)else 0,(k:Int))) D (fun k hk=>by
   have p7:zI (zRV T (gl C.length fun j=>mkv D fun c=>if c<k then at0 w (pc j*D+c)else 0,(k:Int))) ([],0)=iG (zGn (base x.zA.length x.zA.length) D k T.flatten):=by
    rw[zGn];refine(zUb (body:=zRV T _) (base x.zA.length x.zA.length) (fun r=>at0 T.flatten (r*D+k)) (fun i acc hi ha=>?_) (fun acc=>?_))
    ·unfold zRV
     simp only
     rw[hT.1,yR hi,zK,yO [] (by rw[hT.1];exact hi),bs,yN (by rw[aX i (by rw[hT.1];exact hi)];exact hk),bs,yI (by simp only[J7,Jq];omega),bs,zC (by omega) (by omega),bs,zWH hT.1 aX hi hk];rfl
    ·unfold zRV
     simp only
     rw[hT.1,vE,zM]
   have gK:=zEr hq (by omega) a2 (iv k hk) (by omega);have hu:=zEq hq (by omega) a2 (iv k hk) R1.length;have gQ:=zX (body:=zVF C (gl C.length fun j=>mkv D fun c=>if c<k then at0 w (pc j*D+c)else 0,(k:Int)) (cl (at0 x.zA 0) (base x.zA.length x.zA.length) R1 p1 (zGn (base x.zA.length x.zA.length) D k T.flatten) R1.length)) (r:=gl C.length fun j=>mkv D fun c=>if c<k+1 then at0 w (pc j*D+c)else 0) (fun j=>(gl C.length fun j'=>mkv D fun c=>if c<k∨(c=k∧j'<j)then at0 w (pc j'*D+c)else 0,(j:Int))) C.length (fun j hj=>by
    have ar:=c3.lt j hj;have hld:=zGU (c3.row j hj).1 (by omega) ar (fun i hi=>c3.low j hj i hi) (by have:=c3.one j hj;show ent C j (pc j)≠0;omega)
    unfold zVF;simp only
    rw[yR hj,zK,zAh hj,bs,yO [] hj,bs,hld,bs,yN (by rw[hu.1];exact ar),bs,yN (by rw[zY];exact hk),bs,zC (by omega) (by omega),bs];simp only[J8];rw[qH,zCW,←gC (pc j) k ar hk]
    congr 3
    refine tM fun j' _=>?_
    by_cases e:j'=j
    ·subst e
     rw[if_pos rfl];refine zZ fun c _=>?_
     by_cases e2:c=k
     ·subst e2;simp
     omega
    ·rw[if_neg e]
     refine zZ fun c _=>?_
     omega) (by
    unfold zVF;simp only
    rw[vE,zM]
    congr 2
    refine tM fun j' mD=>zZ fun c _=>?_
    omega)
   have e00:(gl C.length fun j'=>mkv D fun c=>if c<k∨(c=k∧j'<0)then at0 w (pc j'*D+c)else 0)=gl C.length fun j=>mkv D fun c=>if c<k then at0 w (pc j*D+c)else 0:=by simp
   rw[e00,show((0:Nat):Int)=0 from rfl]at gQ;unfold zVG;simp only
   rw[hD.d,yR hk,zK,p7,bs,show(xS (at0 x.zA 0) D x.zA.length).Prime=at0 x.zA 0 from rfl,gK,bs,gQ,bs,zC (by omega) (by omega),bs];rfl) (by
   unfold zVG;simp only
   rw[hD.d,vE,zM]
   congr 2
   exact tM fun j _=>zZ (by omega))
  have ez:(gl C.length fun j=>mkv D fun c=>if c<0 then at0 w (pc j*D+c)else 0)=gl C.length fun _=>J1 D (0:Int):=tM fun j _=>by rw[uA];rfl
  rw[ez,show((0:Nat):Int)=0 from rfl]at pL
  grind
 ·unfold zXx
  rw[t3,bs,hw.2.2,bs,c2,bs,zG8 hq (by omega) c3 (by omega),bs];rw[vB (body:=zKa (zEt (base x.zA.length x.zA.length) D w) (gl C.length fun i=>(pc i:Int))) C.length (fun j=>mkv D fun c=>at0 w (pc j*D+c)) (fun i acc hi ha=>by
   have bR:=c3.lt i hi;unfold zKa;simp only
   rw[wN,yR hi,zK,zAh hi,bs,zEt,zAh bR,bs,kL (by grind[zY]),bs,yI (by simp only[J7,Jq];omega),bs,zC (by omega) (by omega),bs];rfl) (fun acc=>by
   unfold zKa;simp),bs]
  rfl
 ·rw[gj]at hi
  rw[zWG,xN hi];exact⟨zY _ _,fun c bz=>by rw[yB bz];exact hw.1.2 _ (fy _ c (c3.lt i hi) bz)⟩
end
theorem zGJ{x:SPr}{m:zB}{T:Mx}(hx:zES x)(hm:zK6 m)(hT:S2 T):∃g k,zVH x m T=iG (g,k)∧zVI x m T=iG (g,k):=by
 obtain⟨c,e1,e2,e3⟩:=zUe hx hm hT;unfold zVH zVI;rw[e1,e2,bs,bs]
 by_cases g:c=0
 ·obtain⟨hc,hp,D,hD,em,hF⟩:=e3 g
  subst g;rw[em]at hD hF ⊢
  have hq:=hc.1.os.2 0 hp.1;have h3:=hD.d3;obtain⟨M,m1,m2,m3,m4⟩:=zOG hc hp hD hF;obtain⟨R,pv,r1,r2,r3,_⟩:=qB hq (n:=D) (rows:=M) (by omega) (by omega) m4;rw[show((0:Int) != 0)=iJ from rfl,zM,zM,m1,bs,m2,bs];simp only[xS,r1,r2,bs];exact⟨_,_,rfl,rfl⟩
 ·rw[show(c != 0)=iI from by simpa using g,zK,zK]
  exact⟨_,_,rfl,rfl⟩
theorem zJg(x0:SPr)(x1:zB)(x2:Mx)(v0:zPK x0)(v1:zWm x1)(v2:VL (VL VI) x2)
  (h:zES x0→zK6 x1→S2 x2→ ∃g k,zVH x0 x1 x2=iG (g,k)∧zVI x0 x1 x2=iG (g,k)):zXy x0 x1 x2=iG iI:=by
 unfold zXy;rw[zHV v0 (by decide) (by decide),bs];rcases zK7 (c:=zMj x0) (b:=1048576) (by decide) (by decide)with e|⟨e,a0,b0,w0⟩<;>rw[e]
 ·rfl
 rw[zM,zTa v1 a0 b0,bs];rcases zK7 (c:=zWn x1) a0 b0 with e|⟨e,a1,b1,w1⟩<;>rw[e]
 ·rfl
 rw[zM,zFR v2 a1 b1,bs];rcases zK7 (c:=c2 x2) a1 b1 with e|⟨e,a2,b2,w2⟩<;>rw[e]
 ·rfl
 have s0:zES x0:=zES.of w0;have s1:zK6 x1:=zK6.of w1;have s2:S2 x2:=w2;obtain⟨g,k,hs,hi⟩:=h s0 s1 s2;rw[zM,zHW s0,bs,zTb s1,bs,zFS s2,bs];simp only[bs];rw[hs,bs,hi,bs];simp only
 rw[bne_self_eq_false,zM,bne_self_eq_false,zM,zHX s0,bs,Jo,zM,zTc s1,bs,Jo,zM,zFT s2,bs,beq_self_eq_true,Jo,zM]
theorem zGK(x0:SPr)(x1:zB)(x2:Mx)(v0:zPK x0)(v1:zWm x1)(v2:VL (VL VI) x2):zXy x0 x1 x2=iG iI:=
 by grind[zJg,zGJ]
end Go.Pl
