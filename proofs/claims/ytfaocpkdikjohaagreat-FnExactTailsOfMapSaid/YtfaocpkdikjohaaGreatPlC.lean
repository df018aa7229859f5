/- The program's TailsOfMap returns what the reference's returns,for all arguments;no conditions. -/
import Derived.Test.YtfaocpkdikjohaaGreatPlB
open List renaming replicate→J1,getD_eq_getElem?_getD→J2,getElem?_eq_getElem→J3,length_append→J5,length_cons→J6,getElem?_append_right→J8,append_nil→J9,append_assoc→Ja,mem_cons→Jc,length_map→Jd,length_replicate→Jh,nil_append→Ji,mem_append→Jj,range→Jl,getElem?_append_left→Jm,take_left'→Jn,cons_append→Jp,replicate_succ→Jq,take_of_length_le→Jr,mem_map→Js,eq_of_mem_replicate→Jt,length_nil→Ju,map_cons→Jv,length_drop→Jz,getElem?_map→K1,length_take→K3,take_succ_eq_append_getElem→K4,drop_left'→K5,take_zero→K7,getElem_mem→Kf,all_eq_true→Ki,getElem?_drop→Ko,reverse_reverse→Ks,mem_range→Kv,map_append→Kx,length_range→Ky,range'→Lb,flatMap_cons→Ln,take_length→Lo,flatten_cons→Lq,range_eq_range'→Ls,getD_cons_zero→Lv,mem_append_right→Lx,map_nil→Ly,flatMap_append→Lz,reverse_cons→H2,getElem?_take→H5,replicate_succ'→H6,mem_cons_of_mem→H7,drop_eq_nil_of_le→Hb,drop_eq_getElem_cons→Hc,replicate_zero→Hh,flatten_nil→G4,mem_iff_getElem→Ga,drop_zero→Gb,mem_flatMap→Gp,mem_append_left→Gv,head?_cons→U1,getD_cons_succ→Ug,map_replicate→Q6,length_range'→Q7,getElem_range→Q8,range_zero→Q9,map_congr_left→Qp,flatten_append→Qr,map_take→Qu,mem_reverse→Qw,ext_getElem→Qy,getElem?_replicate_of_lt→Qz,flatMap_nil→Jam,length_reverse→Jb4,not_mem_nil→Jb7,mem_of_mem_head?→Jbj,mem_of_mem_drop→Jbr,map_map→Jbs,findSome?_cons→Jc2,drop_drop→Jc4,map_drop→Jd2,range'_succ→Jdc,getElem_map→Jdd
open Int renaming toNat_natCast→Je,mul_emod→Jx,emod_emod→Kc,add_emod→Ke,emod_eq_of_lt→Kj,emod_lt_of_pos→Kr,natCast_mul→L6,emod_nonneg→L7,mul_zero→Le,add_zero→Hd,mul_assoc→Hi,mul_one→Hq,natCast_add→Gf,mul_le_mul_of_nonneg_left→Jab,mul_add→Jac,add_assoc→Jc9,toNat_of_nonneg→Jde
open Nat renaming zero_add→Jg,lt_or_ge→Jk,le_refl→Jo,succ_mul→Jy,mul_le_mul→K6,mul_le_mul_right→Kl,zero_le→Kn,mul_comm→H4,div_add_mod→Ha,add_sub_cancel_left→He,div_lt_iff_lt_mul→Hp,zero_mul→Hr,mod_lt→Gm,sub_zero→Ud,eq_zero_or_pos→Ui,not_lt_zero→Ur,mul_one→Qt,add_sub_cancel→Jbh,mul_pos→Jc3,lt_irrefl→Jc5
open Bool renaming not_true→Ka,not_false→Kg,false_eq_true→Gk
open Option renaming some→L8,map_some→Hk,bind→Gj,isSome_none→Q5,getD_some→Ql
open Prod renaming mk→Jb2
open Option renaming some→ja,none→jb
open Bool renaming true→jc,false→jd
namespace Go.Pl
open Go Go.Ab Go.Wk Go.Pc
section
variable {D D2:Nat}{x:SPr}{m m2:zG}{T T2:Mx}{φ:Vec→Vec} (h:Pres x) (hE:ExB x.zA.length D x m T) (hT:∀i,i<T.length→Row m.Prime D (T.getD i [])) (gO:ExB x.zA.length D2 x m2 T2) (gU:∀i,i<T2.length→Row m2.Prime D2 (T2.getD i [])) (hF:Fh x.zA.length D D2 m m2 T T2 φ)
 include h hE hT gO gU hF
theorem zWM{k:Nat}(hk:k<x.zA.length){c:Vec}(hc:V (suf (exx D x m T) (k+1)) c):∀q,Fm φ (x.zA.length-(k+1)) (pw (mul (suf (exx D x m T) (k+1))) (zeros (suf (exx D x m T) (k+1)).length) c q)=pw (mul (suf (exx D2 x m2 T2) (k+1))) (zeros (suf (exx D2 x m2 T2) (k+1)).length) (Fm φ (x.zA.length-(k+1)) c) q
 |0=>yAk h hE hT gO gU hF (by omega)
 |q+1=>by have ok:=uG h hE hT (k:=k+1) (by omega);have hq:V (suf (exx D x m T) (k+1)) (pw (mul (suf (exx D x m T) (k+1))) (zeros (suf (exx D x m T) (k+1)).length) c q):=vO (fun w hw=>xH ok hw hc) q (wP ok);have ih:=zWM hk hc q;rw[pw,wX,pw,wX];show Fm φ _ (mul _ (pw _ _ c q) c)=mul _ (pw _ _ (Fm φ _ c) q) (Fm φ _ c);rw[zNO h hE hT gO gU hF _ (k+1) (by omega:k+1+(x.zA.length-(k+1))=x.zA.length) _ _ hq hc,ih]
theorem zYp{k j:Nat}(hk:k≤j)(hj:j<x.zA.length):V (suf (exx D x m T) (k+1)) (((exx D x m T).zT.getD j []).drop (k+1))∧Fm φ (x.zA.length-(k+1)) (((exx D x m T).zT.getD j []).drop (k+1))=((exx D2 x m2 T2).zT.getD j []).drop (k+1):=by have hn:=hE.hn;have hb:=vK x.zA.length (by omega);have hpx:V (suf x (k+1)) ((x.zT.getD j []).drop (k+1)):=jL (zKw (qT h hj) hk) (by omega);rw[zEj h hE hT hk hj,zEj h gO gU hk hj];exact⟨zD1 h hE hT (by omega) hpx (zBZ h hE hT hj),by rw[zAD (wZ h (by omega) hpx),hF.t _ (by omega)]⟩
theorem zYq{k i j:Nat}(hk:k≤i)(hi:i<j)(hj:j<x.zA.length):V (suf (exx D x m T) (k+1)) ((((exx D x m T).zE.getD i []).getD (j-(i+1)) []).drop (k+1))∧Fm φ (x.zA.length-(k+1)) ((((exx D x m T).zE.getD i []).getD (j-(i+1)) []).drop (k+1))=(((exx D2 x m2 T2).zE.getD i []).getD (j-(i+1)) []).drop (k+1):=by have hn:=hE.hn;have hb:=zBU x.zA.length (by omega) i (by omega);have ab:V (suf x (k+1)) ((lcj x i j).drop (k+1)):=jL (zKw (uB h hi hj) hk) (by omega);rw[zFT h hE hT hk hi hj,zFT h gO gU hk hi hj];exact⟨zD1 h hE hT (by omega) ab (zDG h hE hT hi hj),by rw[zAD (wZ h (by omega) ab),hF.t _ (by omega)]⟩
theorem zVs{k j:Nat}(h1:k+1≤j)(h2:j<x.zA.length):Fm φ (x.zA.length-(k+1)) (xN ((exx D x m T).zA.length-(k+1)) (j-(k+1)))=xN ((exx D2 x m2 T2).zA.length-(k+1)) (j-(k+1)):=by rw[zQu h hE hT h1 h2,zQu h gO gU h1 h2,zAD (by simp[xN,zeros]),hF.z]
theorem zP1{k:Nat}(hk:k<x.zA.length):LCQ (fun k a b=>Fm φ (x.zA.length-k) a=Fm φ (x.zA.length-k) b) x (exx D x m T) k↔LCn x (exx D2 x m2 T2) k:=by
 have hl:=wJ h hE hT;have ok:=uG h hE hT (k:=k+1) (by omega);have cZ:=zNO h hE hT gO gU hF _ (k+1) (by omega:k+1+(x.zA.length-(k+1))=x.zA.length);have ep:=fun v hv=>zST h hE hT gO gU hF hk cZ (v:=v) hv
 have fZ:=zQv h hE hT hk;have e1:∀j,k+1≤j→j<x.zA.length→(c1Q (fun k a b=>Fm φ (x.zA.length-k) a=Fm φ (x.zA.length-k) b) (exx D x m T) k j↔c1E (exx D2 x m2 T2) k j):=fun j h1 h2=>by obtain⟨p1,p2⟩:=zYp h hE hT gO gU hF (k:=k) (j:=j) (by omega) h2;unfold c1Q c1E;show Fm φ _ _=Fm φ _ _↔_;rw[zWM h hE hT gO gU hF hk (zMj h hE hT hk h1 h2),zP0 h hE hT gO gU hF h1 h2,ep _ p1,p2,tC h hE hT h2,tC h gO gU h2]
 have e2:∀i j,k+1≤i→i<j→j<x.zA.length→(c2Q (fun k a b=>Fm φ (x.zA.length-k) a=Fm φ (x.zA.length-k) b) (exx D x m T) k i j↔c2E (exx D2 x m2 T2) k i j):=fun i j h1 gP h2=>by obtain⟨p1,p2⟩:=zYq h hE hT gO gU hF (k:=k) (by omega) gP h2;have ci:=zMj h hE hT hk h1 (show i<x.zA.length by omega);have cj:=zMj h hE hT hk (show k+1≤j by omega) h2;unfold c2Q c2E;show Fm φ _ _=Fm φ _ _↔_;rw[cZ _ _ cj ci,cZ _ _ ci (zAC h hE hT hk p1),zP0 h hE hT gO gU hF h1 (by omega),zP0 h hE hT gO gU hF (by omega) h2,ep _ p1,p2]
 have e3:Fm φ (x.zA.length-(k+1)) (sig (suf (exx D x m T) (k+1)) (lvl (exx D x m T) k) (lvl (exx D x m T) k).w)=Fm φ (x.zA.length-(k+1)) (lvl (exx D x m T) k).w↔sig (suf (exx D2 x m2 T2) (k+1)) (lvl (exx D2 x m2 T2) k) (lvl (exx D2 x m2 T2) k).w=(lvl (exx D2 x m2 T2) k).w:=by rw[ep _ fZ,zYo h hE hT gO gU hF hk]
 have e4:∀j,k+1≤j→j<x.zA.length→(c4Q (fun k a b=>Fm φ (x.zA.length-k) a=Fm φ (x.zA.length-k) b) (exx D x m T) k j↔c4E (exx D2 x m2 T2) k j):=fun j h1 h2=>by have hg:=zCQ h hE hT h1 h2;unfold c4Q c4E;show Fm φ _ _=Fm φ _ _↔_;rw[cZ _ _ fZ (zNN h hE hT hk _ hg),cZ _ _ hg fZ,zKy h hE hT gO gU hF hk cZ _ hg,zVs h hE hT gO gU hF h1 h2,zYo h hE hT gO gU hF hk,zB8 h hE hT hk,zB8 h gO gU hk]
 constructor
 ·intro g
  exact⟨fun j h1 h2=>(e1 j h1 h2).1 (g.c1 j h1 h2),fun i h1 hi j gP h2=>(e2 i j h1 (by omega) h2).1 (g.c2 i h1 hi j gP h2),e3.1 g.c3,fun j h1 h2=>(e4 j h1 h2).1 (g.c4 j h1 h2)⟩
 ·intro g
  exact⟨fun j h1 h2=>(e1 j h1 h2).2 (g.c1 j h1 h2),fun i h1 hi j gP h2=>(e2 i j h1 (by omega) h2).2 (g.c2 i h1 hi j gP h2),e3.2 g.c3,fun j h1 h2=>(e4 j h1 h2).2 (g.c4 j h1 h2)⟩
theorem zSU{m0:zG}(hM:Mv D x.zA.length m0 m)(hx:wR (suf x 0))(hr:zFK x m2 D2):∃L,f_L ⟨x,m0,T⟩=ja L∧L.length≤1000∧(∀r∈L,Row m.Prime D r)∧((∀r∈L,φ r=zeros D2)↔wR (suf (exx D2 x m2 T2) 0)):=by
 have hp:=hE.m.p.pos;have tq:=gO.m.p.pos;obtain⟨L,e,g⟩:=zYg h hE hT hM (Z:=fun r=>φ r=zeros D2) (Q:=fun k a b=>Fm φ (x.zA.length-k) a=Fm φ (x.zA.length-k) b) (fun k hk a b ha hb e=>by
  obtain⟨y,u,rfl,hy,hu,_,ej⟩:=prV h hE hT hk ha;obtain⟨z,v,rfl,hz,hv,_,m7⟩:=prV h hE hT hk hb;rw[Jn ej,Jn m7]at e;subst e;rw[K5 ej,K5 ej,zAD ej,zAD ej,List.append_cancel_left_eq];have ha:=zA8 (p:=m.Prime) (D:=D) (r:=u) (s:=v) (k:=-1) hE.m.p;have hs:adv m.Prime D (tG m.Prime D u (-1) v) v=u:=by refine Eq.trans (zX (g:=fun j=>at0 u j) fun j hj=>?_) (vX hu.1).symm;have hr:=hu.2 j hj;rw[tG,yE hj,Int.emod_add_emod,show at0 u j+ -1*at0 v j+at0 v j=at0 u j from by omega,Kj (by omega) (by omega)]
  have hφ:=hF.add _ _ ha hv;rw[hs]at hφ;have hra:=hF.row _ ha;have hrv:=hF.row _ hv;constructor
  ·intro g
   rw[hφ,g,vY hrv]
  ·intro g
   rw[hφ,tI]at g;have:=(zVi (u:=φ v) hra (xQ (p:=m.Prime) (D:=D2) (by omega))).1 (by rw[g,zAA hrv]);exact this) hx
 refine⟨L,e,g.len,g.row,g.iff.trans ?_⟩;rw[zPq h gO gU hr];exact⟨fun a k hk=>(zP1 h hE hT gO gU hF hk).1 (a k hk),fun a k hk=>(zP1 h hE hT gO gU hF hk).2 (a k hk)⟩
end
end Go.Pl

namespace Go.Pl
open Go Go.Ab Go.Wk Go.Pc
theorem zKz{D:Nat}{f:Nat→Int}:∀B:Nat,S (B*D) f=S B fun q=>S D fun l=>f (q*D+l)
 |0=>by rw[Hr];rfl
 |B+1=>by rw[Jy,zGE,zKz B];rfl
def blk(D:Nat)(w:Vec)(q:Nat):Vec:=mkv D fun j=>at0 w (q*D+j)
theorem jY{D B q l:Nat}(hq:q<B)(hl:l<D):q*D+l<B*D:=by have:=Kl D (show q+1≤B by omega);rw[Jy]at this;omega
theorem zP2{p:Int}{D B:Nat}{w:Vec}(hw:Row p (B*D) w){q:Nat}(hq:q<B):Row p D (blk D w q):=
 ⟨yB _ _,fun j hj=>by rw[blk,yE hj];exact hw.2 _ (jY hq hj)⟩
theorem sL{D q l:Nat}(hl:l<D):(q*D+l)/D=q∧(q*D+l)%D=l:=by
 have hD:0<D:=by omega
 constructor
 ·rw[H4,Nat.mul_add_div hD,Nat.div_eq_of_lt hl];rfl
 ·rw[H4,Nat.mul_add_mod,Nat.mod_eq_of_lt hl]
def ABk(B D:Nat)(A:Mx):Mx:=gl (B*D) fun i=>mkv (B*D) fun j=>if i/D=j/D then ent A (i%D) (j%D)else 0
theorem zP3{B D:Nat}{A:Mx}{i j:Nat}(hi:i<B*D)(hj:j<B*D):ent (ABk B D A) i j=if i/D=j/D then ent A (i%D) (j%D)else 0:=by show at0 ((gl (B*D) _).getD i []) j=_;rw[xU hi,yE hj]
theorem zVt{p:Int}{B D:Nat}{A:Mx}(hp:2≤p)(hD:0<D)(hA:Mat p D A):Mat p (B*D) (ABk B D A):=by
 refine⟨wC,fun i hi=>?_⟩;rw[ABk,xU hi];refine⟨yB _ _,fun j hj=>?_⟩;rw[yE hj];split
 ·exact(hA.2 (i%D) (Gm _ hD)).2 _ (Gm _ hD)
 ·omega
theorem zMl{p:Int}{B D:Nat}{u:Vec}{A:Mx}{q l:Nat}(hq:q<B)(hl:l<D):at0 (wG p (B*D) u (ABk B D A)) (q*D+l)=S D (fun i=>at0 u (q*D+i)*ent A i l)%p:=by
 rw[wG,yE (jY hq hl),zKz]
 congr 1
 rw[zAe (k:=q) hq fun i hi gf=>?_]
 ·refine xI fun i hi=>?_
  rw[zP3 (jY hq hi) (jY hq hl),(sL hi).1,(sL hi).2,(sL hl).1,(sL hl).2,if_pos rfl]
 ·rw[xI (g:=fun _=>0) fun j hj=>?_,qH]
  rw[zP3 (jY hi hj) (jY hq hl),(sL hj).1,(sL hl).1,if_neg gf,Le]
theorem zVu{p:Int}{B D:Nat}{u:Vec}{A:Mx}{q:Nat}(hq:q<B):blk D (wG p (B*D) u (ABk B D A)) q=wG p D (blk D u q) A:=by
 refine zX fun l hl=>?_
 rw[zMl hq hl]
 congr 1
 exact xI fun i hi=>by rw[blk,yE hi]
theorem zMm{D B:Nat}{w:Vec}(hw:w.length=B*D){q:Nat}(hq:q<B):(w.drop (q*D)).take D=blk D w q:=by
 have h1:=Kl D (show q+1≤B by omega);rw[Jy]at h1;apply Qy
 ·rw[K3,Jz,blk,yB];omega
 ·intro i a b
  rw[K3,Jz]at a;rw[List.getElem_take,List.getElem_drop];simp only[blk,mkv,Jdd,Q8,at0];rw[J2,J3 (by omega)];rfl
theorem zSV{D B:Nat}{w:Vec}(hw:w.length=B*D){q:Nat}(hq:q<B):w.take (q*D)++blk D w q=w.take ((q+1)*D):=by rw[←zMm hw hq,Jy,List.take_add]
def mBk(B D n:Nat)(m:zG):zG:=⟨m.Prime,((B*D:Nat):Int),(Jl n).map fun k=>ABk B D (m.zR.getD k [])⟩
theorem zK0{B D n:Nat}{m:zG}{k:Nat}(hk:k<n):(mBk B D n m).zR.getD k []=ABk B D (m.zR.getD k []):=by simp[mBk,J2,hk]
theorem zYr{B D n:Nat}{m:zG}(hm:MOk n m D)(hB:1≤B)(h2:B*D≤200):zSp n (mBk B D n m) (B*D):=by have h1:=hm.d1;have hp:=hm.p.pos;refine⟨hm.p,Jc3 (by omega) (by omega),h2,by simp[mBk],fun i hi=>?_⟩;rw[zK0 hi];exact zVt (by show 2≤m.Prime;omega) (by omega) (hm.mat i hi)
theorem zYs{B D n:Nat}{m:zG}(hm:MOk n m D)(h2:B*D≤200):Mv (B*D) n m (mBk B D n m):=by
 refine⟨rfl,fun k hk u hu=>?_⟩;have h1:=hm.d1;have h3:=hm.d3;have f8:=hu.1;have tz:=hm.len;have hA:=hm.mat k hk;rw[zK0 hk];have hR:(wG m.Prime (B*D) u (ABk B D (m.zR.getD k []))).length=B*D:=by rw[wG,yB]
 unfold zVN;have:=zW (body:=zMG m u (k:Int)) (r:=wG m.Prime (B*D) u (ABk B D (m.zR.getD k []))) (fun i=>((wG m.Prime (B*D) u (ABk B D (m.zR.getD k []))).take (i*D),((i*D:Nat):Int))) B (fun i hi=>by
  have gJ:=Kl D (show i+1≤B by omega);rw[Jy]at gJ;unfold zMG;simp only
  rw[jf (by omega),zN,hm.d,zC (by omega) (by omega),bs];have pb:yA u ((i*D:Nat):Int) (((i*D:Nat):Int)+(D:Int))=ja (blk D u i):=by
   unfold yA;rw[if_pos ⟨by omega,by omega,by omega⟩]
   congr 1
   rw[show(((i*D:Nat):Int)+(D:Int)).toNat=i*D+D from by omega,Je,He];exact zMm f8 hi
  rw[pb,bs,yX [] (by omega),bs,zHP hm.p (by omega) (zP2 hu hi) hA,bs,←zVu (B:=B) hi,yN (by rw[K3,blk,yB];omega),bs,zSV hR hi,bs,Jy];rfl) (by
  unfold zMG;simp only
  rw[je (by omega),zI,Jr (by omega)])
 rw[Hr,K7]at this;rw[show((0:Nat):Int)=0 from rfl]at this;rw[this,bs];rfl
def phi(p:Int)(B D:Nat)(c w:Vec):Vec:=mkv D fun j=>S B (fun q=>at0 c q*at0 w (q*D+j))%p
theorem zVv{p:Int}{B D:Nat}{c w:Vec}(hp:2≤p):Row p D (phi p B D c w):=⟨yB _ _,fun j hj=>by rw[phi,yE hj];exact⟨L7 _ (show p≠0 by omega),by have:=Kr (S B fun q=>at0 c q*at0 w (q*D+j)) (show 0<p by omega);omega⟩⟩
def Tc(N D:Nat)(c:Vec):Mx:=gl N fun i=>blk D c i
theorem zYt{n B D N:Nat}{m:zG}{TB:Mx}{c:Vec}(hm:MOk n m D)(hN:B=N*D)(hb:base n n=N)(hc:Row m.Prime B c)(ht:∀i,i<N→TB.getD i []=mkv (B*D) fun j=>if j/D=i*D+j%D then 1 else 0):Fh n (B*D) D (mBk B D n m) m TB (Tc N D c) (phi m.Prime B D c):=by
 have hp:=hm.p.pos;have h1:=hm.d1;refine⟨rfl,fun u _=>zVv (by show 2≤m.Prime;omega),?_,fun u v hu hv=>?_,fun k hk u hu=>?_,fun r hr=>?_⟩
 ·rw[show zeros D=mkv D fun _=>0 from uS D]
  refine zX fun j hj=>?_
  rw[xI (g:=fun _=>0) fun q hq=>by rw[sA,Le],qH];simp
 ·refine zX fun j hj=>?_
  rw[phi,phi,yE hj,yE hj];show _%m.Prime=(_%m.Prime+_%m.Prime)%m.Prime;rw[←Ke,←zCJ];refine kP fun q hq=>?_
  rw[yE (jY hq hj),←Jac];show(at0 c q*((at0 u (q*D+j)+at0 v (q*D+j))%m.Prime))%m.Prime=_;rw[Jx,Kc,←Jx]
 ·rw[zK0 hk]
  refine zX fun j hj=>?_
  show S B (fun q=>at0 c q*at0 (wG m.Prime (B*D) u (ABk B D (m.zR.getD k []))) (q*D+j))%m.Prime=S D (fun l=>at0 (phi m.Prime B D c u) l*ent (m.zR.getD k []) l j)%m.Prime;rw[kP (g:=fun q=>at0 c q*S D (fun i=>at0 u (q*D+i)*ent (m.zR.getD k []) i j)) fun q hq=>by rw[zMl hq hj,Jx,Kc,←Jx]];rw[kP (f:=fun l=>at0 (phi m.Prime B D c u) l*ent (m.zR.getD k []) l j) (g:=fun l=>S B (fun q=>at0 c q*at0 u (q*D+l))*ent (m.zR.getD k []) l j) fun l hl=>by rw[phi,yE hl,Jx,Kc,←Jx]]
  congr 1
  rw[xI (g:=fun q=>S D (fun i=>at0 c q*(at0 u (q*D+i)*ent (m.zR.getD k []) i j))) fun q _=>(zCK _ D).symm,zHL];refine xI fun l hl=>?_
  rw[←zLD];exact xI fun q _=>(Hi _ _ _).symm
 ·rw[hb]at hr
  rw[ht r hr,Tc,xU hr];refine zX fun j hj=>?_
  have gJ:r*D+j<B:=by rw[hN];exact jY hr hj
  rw[zAe (k:=r*D+j) gJ fun q hq gf=>?_]
  ·rw[yE (jY gJ hj),(sL hj).1,(sL hj).2,if_pos rfl,Hq]
   have:=hc.2 _ gJ;exact Kj this.1 (by omega)
  ·rw[yE (jY hq hj),(sL hj).1,(sL hj).2,if_neg gf,Le]
end Go.Pl

namespace Go.Pl
open Go Go.Ab Go.Wk Go.Pc
def uT(N D:Nat):Mx:=gl N fun i=>mkv (N*D*D) fun j=>if j/D=i*D+j%D then 1 else 0
section
variable {x:SPr}{m:zG}{D:Nat} (hx:zCC x) (hD:MOk x.zA.length m D)
 include hx hD
theorem zSW{D2:Nat}{m2:zG}{T:Mx}(hm:zSp x.zA.length m2 D2)(ht:T.length=base x.zA.length x.zA.length):ExB x.zA.length D2 x m2 T:=by have _:=hD;refine⟨hx.n6,rfl,hx.pl,hx.cl,fun i hi=>?_,ht,hm⟩;have:=(hx.tl i hi).2.1;omega
theorem zWN{y:Vec}(hy:Row m.Prime (base x.zA.length x.zA.length*D) y):ExB x.zA.length D x m (Tc (base x.zA.length x.zA.length) D y)∧ ∀i,i<(Tc (base x.zA.length x.zA.length) D y).length→Row m.Prime D ((Tc (base x.zA.length x.zA.length) D y).getD i []):=by refine⟨zSW hx hD hD.b wC,fun i hi=>?_⟩;rw[Tc,wC]at hi;rw[Tc,xU hi];exact zP2 hy hi
theorem zSX(h0:0<x.zA.length)(hc:wR (suf x 0))(hr:zFK x m D):∃L,f_L ⟨x,m,uT (base x.zA.length x.zA.length) D⟩=ja L∧L.length≤1000∧(∀r∈L,Row m.Prime (base x.zA.length x.zA.length*D*D) r)∧
  ∀y,Row m.Prime (base x.zA.length x.zA.length*D) y→((∀r∈L,phi m.Prime (base x.zA.length x.zA.length*D) D y r=zeros D)↔wR (suf (exx D x m (Tc (base x.zA.length x.zA.length) D y)) 0)):=by
 have h6:=hx.n6;have hb:=vK x.zA.length (by omega);have h1:=hD.d1;have h3:=hD.d3;have hp:=hD.p.pos;have hB:base x.zA.length x.zA.length*D≤21*3:=K6 hb.2.1 h3;have hB1:1≤base x.zA.length x.zA.length*D:=Jc3 (by omega) (by omega);have hBD:base x.zA.length x.zA.length*D*D≤63*3:=K6 (by omega) h3;have hE:=zSW hx hD (T:=uT (base x.zA.length x.zA.length) D) (zYr hD hB1 (by omega)) wC;have hT:∀i,i<(uT (base x.zA.length x.zA.length) D).length→Row (mBk (base x.zA.length x.zA.length*D) D x.zA.length m).Prime (base x.zA.length x.zA.length*D*D) ((uT (base x.zA.length x.zA.length) D).getD i []):=fun i hi=>by rw[uT,wC]at hi;rw[uT,xU hi];refine⟨yB _ _,fun j hj=>?_⟩;rw[yE hj];show _∧_≤m.Prime-1;split<;>omega
 have hM:=zYs (B:=base x.zA.length x.zA.length*D) hD (by omega);have key:∀y,Row m.Prime (base x.zA.length x.zA.length*D) y→ ∃L,f_L ⟨x,m,uT (base x.zA.length x.zA.length) D⟩=ja L∧L.length≤1000∧(∀r∈L,Row m.Prime (base x.zA.length x.zA.length*D*D) r)∧((∀r∈L,phi m.Prime (base x.zA.length x.zA.length*D) D y r=zeros D)↔wR (suf (exx D x m (Tc (base x.zA.length x.zA.length) D y)) 0)):=fun y hy=>by obtain⟨e1,e2⟩:=zWN hx hD hy;exact zSU hx.toPres hE hT e1 e2 (zYt hD rfl rfl hy fun i hi=>by rw[uT,xU hi]) hM hc hr
 obtain⟨L,l1,l2,l3,_⟩:=key (zeros (base x.zA.length x.zA.length*D)) (xQ (by omega));refine⟨L,l1,l2,l3,fun y hy=>?_⟩;obtain⟨L2,k1,_,_,k4⟩:=key y hy;rw[l1]at k1;cases k1;exact k4
end
def zD2(D k:Nat)(L:Mx):List Int:=(L.map fun r=>blk D r k).flatten
theorem zMn{D k:Nat}:∀L:Mx,(zD2 D k L).length=L.length*D
 | []=>by rw[zD2];simp
 |r::L=>by have ih:=zMn (D:=D) (k:=k) L;simp only[zD2]at ih;simp only[zD2,Jv,Lq,J5,J6];rw[ih,blk,yB,Jy];omega
theorem zK1{D k:Nat}:∀(L:Mx)(i j:Nat),i<L.length→j<D→at0 (zD2 D k L) (i*D+j)=at0 (L.getD i []) (k*D+j)
 | [],i,j,hi,_=>by simp at hi
 |r::L,i,j,hi,hj=>by
  have hl:(blk D r k).length=D:=yB _ _;simp only[zD2,Jv,Lq];cases i with
  |zero=>
   rw[Hr,Jg,Lv,at0,J2,Jm (by omega),←J2];show at0 (blk D r k) j=_;rw[blk,yE hj]
  |succ i=>
   have ih:=zK1 (D:=D) (k:=k) L i j (by simpa using hi) hj;simp only[zD2]at ih;rw[Ug,←ih,at0,J2,J8 (by rw[hl,Jy];omega),hl,Jy,show i*D+D+j-D=i*D+j from by omega,←J2]
theorem zSY{p:Int}{B D:Nat}{L:Mx}{y:Vec}:(∀c,c<L.length*D→(S B fun k=>at0 y k*ent (gl B fun k=>zD2 D k L) k c)%p=0)↔ ∀r∈L,phi p B D y r=zeros D:=by
 have e:∀i j,i<L.length→j<D→(S B fun k=>at0 y k*ent (gl B fun k=>zD2 D k L) k (i*D+j))%p=at0 (phi p B D y (L.getD i [])) j:=fun i j hi hj=>by
  rw[phi,yE hj]
  congr 1
  refine xI fun k hk=>?_
  show at0 y k*at0 ((gl B fun k=>zD2 D k L).getD k []) (i*D+j)=_;rw[xU hk,zK1 L i j hi hj]
 constructor
 ·intro g r hr
  obtain⟨i,hi,rfl⟩:=Ga.1 hr;rw[show zeros D=mkv D fun _=>0 from uS D,vX (D:=D) (v:=phi p B D y L[i]) (yB _ _)];refine zX fun j hj=>?_
  have:=e i j hi hj;rw[J2,J3 hi]at this;rw[←g _ (jY hi hj),this];rfl
 ·intro g c hc
  have hD:0<D:=by
   rcases Ui D with h|h
   ·rw[h,Nat.mul_zero]at hc;omega
   ·exact h
  have hi:c/D<L.length:=(Hp hD).2 hc;have hj:c%D<D:=Gm _ hD;rw[show c=c/D*D+c%D from by rw[H4];exact(Ha c D).symm,e _ _ hi hj,g _ (by rw[J2,J3 hi];exact Kf hi),sA]
end Go.Pl

namespace Go.Pl
open Go Go.Ab Go.Wk Go.Pc
def zBe(p:Int)(D:Nat)(m:zG):List (Nat×List Nat)→Nat→Nat→Nat→Int
 | [],_,_,_=>0
 |(q,s)::t,r,i,j=>(if q=r then ent (wM p D m.zR s (idM D)) i j else 0)+zBe p D m t r i j
section
variable {p:Int}{D N:Nat}{m:zG}{y:Vec}
theorem zSZ{j:Nat}(hj:j<D):∀t:List (Nat×List Nat),(∀q∈t,q.1<N)→at0 (tv p D m (Tc N D y) t) j=(S N fun r=>S D fun i=>at0 y (r*D+i)*zBe p D m t r i j)%p
 | [],_=>by
  show at0 (zeros D) j=_;rw[sA,xI (g:=fun _=>0) fun r _=>by rw[xI (g:=fun _=>0) fun i _=>by rw[zBe,Le],qH],qH]
  rfl
 |(q,s)::t,h=>by
  have hq:q<N:=h (q,s) (by simp);have ih:=zSZ hj t fun q hq=>h q (by simp[hq])
  show at0 (adv p D (wG p D ((Tc N D y).getD q []) (wM p D m.zR s (idM D))) (tv p D m (Tc N D y) t)) j=_;rw[show adv p D=fun u v=>mkv D fun j=>(at0 u j+at0 v j)%p from rfl];show at0 (mkv D _) j=_;rw[yE hj,ih,wG,yE hj,←Ke]
  congr 1
  have e:(S N fun r=>S D fun i=>at0 y (r*D+i)*zBe p D m ((q,s)::t) r i j)=
    (S N fun r=>S D fun i=>at0 y (r*D+i)*(if q=r then ent (wM p D m.zR s (idM D)) i j else 0))+S N fun r=>S D fun i=>at0 y (r*D+i)*zBe p D m t r i j:=by
   rw[←zCJ];refine xI fun r _=>?_
   rw[←zCJ];refine xI fun i _=>?_
   rw[zBe,Jac]
  rw[e]
  congr 1
  rw[zAe (k:=q) hq fun r _ hr=>by rw[xI (g:=fun _=>0) fun i _=>by rw[if_neg (Ne.symm hr),Le],qH]]
  refine xI fun l hl=>?_
  rw[if_pos rfl,Tc,xU hq,blk,yE hl]
end
def prR(p:Int)(D:Nat)(m:zG)(t1 t2:List (Nat×List Nat))(k:Nat):List Int:=mkv D fun j=>(zBe p D m t1 (k/D) (k%D) j-zBe p D m t2 (k/D) (k%D) j)%p
section
variable {p:Int}{D N:Nat}{m:zG}{y:Vec}
theorem zP4(hp:2≤p){t1 t2:List (Nat×List Nat)}(h1:∀q∈t1,q.1<N)(h2:∀q∈t2,q.1<N):
  (∀j,j<D→(S (N*D) fun k=>at0 y k*at0 (prR p D m t1 t2 k) j)%p=0)↔tv p D m (Tc N D y) t1=tv p D m (Tc N D y) t2:=by
 have e:∀j,j<D→(S (N*D) fun k=>at0 y k*at0 (prR p D m t1 t2 k) j)%p=(at0 (tv p D m (Tc N D y) t1) j-at0 (tv p D m (Tc N D y) t2) j)%p:=fun j hj=>by
  rw[zSZ hj t1 h1,zSZ hj t2 h2,←Int.sub_emod,zKz];have e1:((S N fun r=>S D fun i=>at0 y (r*D+i)*zBe p D m t1 r i j)-S N fun r=>S D fun i=>at0 y (r*D+i)*zBe p D m t2 r i j)=S N fun r=>S D fun i=>at0 y (r*D+i)*(zBe p D m t1 r i j-zBe p D m t2 r i j):=by
   have:(S N fun r=>S D fun i=>at0 y (r*D+i)*zBe p D m t1 r i j)=(S N fun r=>S D fun i=>at0 y (r*D+i)*(zBe p D m t1 r i j-zBe p D m t2 r i j))+S N fun r=>S D fun i=>at0 y (r*D+i)*zBe p D m t2 r i j:=by
    rw[←zCJ];refine xI fun r _=>?_
    rw[←zCJ];refine xI fun i _=>?_
    rw[←Jac];congr 1;omega
   omega
  rw[e1];refine kP fun r _=>kP fun i hi=>?_
  have hd:=sL (q:=r) hi;rw[prR,yE hj,hd.1,hd.2,Jx,Kc,←Jx]
 constructor
 ·intro g
  have r1:=zKs (D:=D) (m:=m) (T:=Tc N D y) hp t1;have r2:=zKs (D:=D) (m:=m) (T:=Tc N D y) hp t2;rw[vX r1.1,vX r2.1];refine zX fun j hj=>?_
  have k:=e j hj;rw[g j hj]at k;have b1:=r1.2 j hj;have b2:=r2.2 j hj;have:=Int.emod_emod_of_dvd (at0 (tv p D m (Tc N D y) t1) j-at0 (tv p D m (Tc N D y) t2) j) (Int.dvd_refl p);have iP:p∣at0 (tv p D m (Tc N D y) t1) j-at0 (tv p D m (Tc N D y) t2) j:=Int.dvd_of_emod_eq_zero k.symm;obtain⟨c,hc⟩:=iP;have:c=0:=by
   rcases Int.lt_trichotomy c 0 with gz|h0|hgt
   ·have:p*c≤p*(-1):=Jab (by omega) (by omega)
    omega
   ·exact h0
   ·have:p*1≤p*c:=Jab (by omega) (by omega)
    omega
  rw[this,Le]at hc;omega
 ·intro g j hj
  rw[e j hj,g,Int.sub_self];rfl
end
end Go.Pl

namespace Go.Pl
open Go Go.Ab Go.Wk Go.Pc
abbrev Trc:=List (Nat×List Nat)
structure PD where
 k:Nat
 wd:List Nat
 t:Nat
 r1:Nat
 s1:List Nat
 w1:List Nat
 r2:Nat
 s2:List Nat
 w2:List Nat
section
variable (x:SPr)
abbrev PD.B(d:PD)(t1 t2:Trc):Prop:=zKx x d.k d.r1 d.s1 d.w1 d.r2 d.s2 d.w2 t1 t2
def ups(n i:Nat):List Nat:=Lb (i+1) (n-(i+1))
def pd2(i j k:Nat):PD:=⟨i,[k,j,i],1,base x.zA.length j+(k-(j+1)),[i],j::(nw 0 (lcj x j k)++[i]),base x.zA.length i+(j-(i+1)),[],k::i::nw 0 (lcj x i j)⟩
def pd1(i j:Nat):PD:=⟨i,J1 (yH x j) j++[i],yH x j-1,j,[i],nw 0 (x.zT.getD j [])++[i],base x.zA.length i+(j-(i+1)),[],J1 (yH x j-1) j++i::nw 0 (lcj x i j)⟩
def pd4(i j:Nat):PD:=⟨i,j::J1 (yH x i) i,1,base x.zA.length i+(j-(i+1)),J1 (yH x i-1) i,i::(nw 0 (lcj x i j)++J1 (yH x i-1) i),i,[],j::nw 0 (x.zT.getD i [])⟩
def pd3(i:Nat):PD:=⟨i,J1 (yH x i+1) i,1,i,[i],nw 0 (x.zT.getD i [])++[i],i,[],i::nw 0 (x.zT.getD i [])⟩
def cps:List PD:=
 ((Jl x.zA.length).flatMap fun i=>(ups x.zA.length i).flatMap fun j=>(ups x.zA.length j).map fun k=>pd2 x i j k)++
 (((Jl x.zA.length).flatMap fun i=>(ups x.zA.length i).map fun j=>pd1 x i j)++
 (((Jl x.zA.length).flatMap fun i=>(ups x.zA.length i).map fun j=>pd4 x i j)++
 (Jl x.zA.length).map fun i=>pd3 x i))
end
theorem zFe{n i j:Nat}:j∈ups n i↔i<j∧j<n:=by rw[ups,List.mem_range'_1];omega
section
variable {x:SPr}
theorem zAT{φ:PD→Prop}:(∀d∈cps x,φ d)↔(∀i j k,i<j→j<k→k<x.zA.length→φ (pd2 x i j k))∧(∀i j,i<j→j<x.zA.length→φ (pd1 x i j))∧(∀i j,i<j→j<x.zA.length→φ (pd4 x i j))∧ ∀i,i<x.zA.length→φ (pd3 x i):=by
 constructor
 ·intro g
  refine⟨fun i j k h1 h2 h3=>g _ ?_,fun i j h1 h2=>g _ ?_,fun i j h1 h2=>g _ ?_,fun i h1=>g _ ?_⟩
  ·exact Gv _ (Gp.2 ⟨i,Kv.2 (by omega),Gp.2 ⟨j,zFe.2 ⟨h1,by omega⟩,Js.2 ⟨k,zFe.2 ⟨h2,h3⟩,rfl⟩⟩⟩)
  ·exact Lx _ (Gv _ (Gp.2 ⟨i,Kv.2 (by omega),Js.2 ⟨j,zFe.2 ⟨h1,h2⟩,rfl⟩⟩))
  ·exact Lx _ (Lx _ (Gv _ (Gp.2 ⟨i,Kv.2 (by omega),Js.2 ⟨j,zFe.2 ⟨h1,h2⟩,rfl⟩⟩)))
  ·exact Lx _ (Lx _ (Lx _ (Js.2 ⟨i,Kv.2 h1,rfl⟩)))
 ·rintro⟨g2,g1,g4,g3⟩ d hd
  simp only[cps,Jj,Gp,Js,Kv,zFe]at hd;rcases hd with⟨i,_,j,⟨h1,_⟩,k,⟨h2,h3⟩,rfl⟩|⟨i,_,j,⟨h1,h2⟩,rfl⟩|⟨i,_,j,⟨h1,h2⟩,rfl⟩|⟨i,h1,rfl⟩
  ·exact g2 i j k h1 h2 h3
  ·exact g1 i j h1 h2
  ·exact g4 i j h1 h2
  ·exact g3 i h1
theorem zQy{D:Nat}{m:zG}{T:Mx}:zWL x D m T↔ ∀d∈cps x,∀t1 t2,d.B x t1 t2→tv m.Prime D m T t1=tv m.Prime D m T t2:=by
 rw[zAT (φ:=fun d=> ∀t1 t2,d.B x t1 t2→tv m.Prime D m T t1=tv m.Prime D m T t2)];constructor
 ·intro g
  exact⟨fun i j k h1 h2 h3=>g.p2 i j k h1 h2 h3,fun i j h1 h2=>g.p1 i j h1 h2,fun i j h1 h2=>g.p4 i j h1 h2,fun i h1=>g.p3 i h1⟩
 ·rintro⟨g2,g1,g4,g3⟩
  exact⟨fun k j h1 h2=>g1 k j h1 h2,fun k i j h1 h2 h3=>g2 k i j h1 h2 h3,fun k hk=>g3 k hk,fun k j h1 h2=>g4 k j h1 h2⟩
theorem zWO(h6:x.zA.length≤6){w:List Nat}{r:zEm}(hw:∀a∈w,a<x.zA.length)(h:hdS x w=ja r):r.1<base x.zA.length x.zA.length:=by
 unfold hdS at h;have hb:=vK x.zA.length (by omega)
 match w,h with
 | [],h=>cases h
 | [a],h=>
  have ha:=hw a (by simp);simp only[swp,pws]at h;split at h
  ·cases h;simp only;omega
  ·cases h
 |a::b::w,h=>
  have ha:=hw a (by simp);simp only[swp]at h
  by_cases g:b<a
  ·rw[if_pos g]at h
   cases h;have:=zBU x.zA.length (by omega) b (by omega);simp only
   omega
  ·rw[if_neg g]at h
   simp only[pws]at h;split at h
   ·cases h;simp only;omega
   ·cases h
theorem zWP(h6:x.zA.length≤6):∀{w:List Nat}{r:zEm},(∀a∈w,a<x.zA.length)→stS x w=ja r→r.1<base x.zA.length x.zA.length
 | [],_,_,h=>by cases h
 |a::w,r,hw,h=>by
  simp only[stS]at h;cases e:hdS x (a::w)with
  |some q=>
   rw[e]at h;cases h;exact zWO h6 hw e
  |none=>
   rw[e]at h;cases e2:stS x w with
   |none=>rw[e2]at h;cases h
   |some q=>
    rw[e2]at h;cases h;have:=zWP (w:=w) (r:=q) h6 (fun b hb=>hw b (H7 _ hb)) e2;exact this
theorem Col.lt(h6:x.zA.length≤6){k:Nat}{w w':List Nat}{tr:Trc}(hc:Col x k w tr w'):∀q∈tr,q.1<base x.zA.length x.zA.length:=by
 induction hc with
 |refl w=>intro q hq;cases hq
 |step hw hs _ ih=>
  intro q hq;rcases Jc.1 hq with rfl|hq
  ·exact zWP h6 (fun a ha=>(hw a ha).2) hs
  ·exact ih q hq
end
section
variable {x:SPr} (h:Pres x) (h6:x.zA.length≤6)
 include h
theorem zMo{d:PD}{t1 t2 u1 u2:Trc}(hk:d.k≤x.zA.length)(a:d.B x t1 t2)(b:d.B x u1 u2):t1=u1∧t2=u2:=by
 obtain⟨⟨v1,y1,rfl,k1⟩,⟨v2,y2,rfl,k2⟩⟩:=a;obtain⟨⟨v3,y3,rfl,k3⟩,⟨v4,y4,rfl,k4⟩⟩:=b;have nn:=fun(y:Vec)(hy:V (suf x d.k) y)=>zFW h (x.zA.length-d.k) d.k (by omega) y hy
 exact⟨by rw[(Col.det k1.col k3.col (nn _ k1.v) (nn _ k3.v)).1],by rw[(Col.det k2.col k4.col (nn _ k2.v) (nn _ k4.v)).1]⟩
 include h6
theorem zGL:∀d∈cps x,d.k<x.zA.length∧(∀a∈d.wd,a<x.zA.length)∧ ∃t1 t2,d.B x t1 t2∧(∀q∈t1,q.1<base x.zA.length x.zA.length)∧ ∀q∈t2,q.1<base x.zA.length x.zA.length:=by
 have eg:∀i j,i<j→j<x.zA.length→ ∀a∈nw 0 (lcj x i j),i+1≤a∧a<x.zA.length:=fun i j hi hj=>(tT h (uB h hi hj) (by omega)).2
 have eu:∀i,i<x.zA.length→ ∀a∈nw 0 (x.zT.getD i []),i+1≤a∧a<x.zA.length:=fun i hi=>(tT h (qT h hi) hi).2
 have fX:=vK x.zA.length (by omega);have fL:=fun i(hi:i<x.zA.length)=>zBU x.zA.length (by omega) i hi
 have key:∀(d:PD),d.k<x.zA.length→(∀a∈d.wd,a<x.zA.length)→d.r1<base x.zA.length x.zA.length→d.r2<base x.zA.length x.zA.length→(∀a∈d.w1,d.k≤a∧a<x.zA.length)→(∀a∈d.w2,d.k≤a∧a<x.zA.length)→d.k<x.zA.length∧(∀a∈d.wd,a<x.zA.length)∧ ∃t1 t2,d.B x t1 t2∧(∀q∈t1,q.1<base x.zA.length x.zA.length)∧ ∀q∈t2,q.1<base x.zA.length x.zA.length:=by
  intro d hk mZ b1 b2 c1 c2;obtain⟨u1,y1,k1⟩:=zVr h (x.zA.length-d.k) d.k (by omega) d.w1 c1;obtain⟨u2,y2,k2⟩:=zVr h (x.zA.length-d.k) d.k (by omega) d.w2 c2;refine⟨hk,mZ,_,_,⟨⟨u1,y1,rfl,k1⟩,⟨u2,y2,rfl,k2⟩⟩,fun q hq=>?_,fun q hq=>?_⟩
  ·rcases Jc.1 hq with rfl|hq
   ·exact b1
   ·exact k1.col.lt h6 q hq
  ·rcases Jc.1 hq with rfl|hq
   ·exact b2
   ·exact k2.col.lt h6 q hq
 refine zAT.2 ⟨fun i j k h1 h2 h3=>key _ ?_ ?_ ?_ ?_ ?_ ?_,fun i j h1 h2=>key _ ?_ ?_ ?_ ?_ ?_ ?_,fun i j h1 h2=>key _ ?_ ?_ ?_ ?_ ?_ ?_,fun i h1=>key _ ?_ ?_ ?_ ?_ ?_ ?_⟩
 ·show i<_;omega
 ·intro a ha
  simp only[pd2,Jc,Jb7,or_false]at ha;omega
 ·have:=fL j (by omega);show base _ j+(k-(j+1))<_;omega
 ·have:=fL i (by omega);show base _ i+(j-(i+1))<_;omega
 ·intro a ha
  simp only[pd2,Jc,Jj,Jb7,or_false]at ha ⊢
  rcases ha with rfl|ha|rfl
  ·omega
  ·have:=eg j k (by omega) h3 a ha;omega
  ·omega
 ·intro a ha
  simp only[pd2,Jc]at ha ⊢
  rcases ha with rfl|rfl|ha
  ·omega
  ·omega
  ·have:=eg i j (by omega) (by omega) a ha;omega
 ·show i<_;omega
 ·intro a ha
  simp only[pd1,Jj,List.mem_singleton]at ha;rcases ha with ha|rfl
  ·have:=Jt ha;omega
  ·omega
 ·show j<_;omega
 ·have:=fL i (by omega);show base _ i+(j-(i+1))<_;omega
 ·intro a ha
  simp only[pd1,Jj,List.mem_singleton]at ha ⊢
  rcases ha with ha|rfl
  ·have:=eu j h2 a ha;omega
  ·omega
 ·intro a ha
  simp only[pd1,Jj,Jc]at ha ⊢
  rcases ha with ha|rfl|ha
  ·have:=Jt ha;omega
  ·omega
  ·have:=eg i j h1 h2 a ha;omega
 ·show i<_;omega
 ·intro a ha
  simp only[pd4,Jc]at ha;rcases ha with rfl|ha
  ·omega
  ·have:=Jt ha;omega
 ·have:=fL i (by omega);show base _ i+(j-(i+1))<_;omega
 ·show i<_;omega
 ·intro a ha
  simp only[pd4,Jc,Jj]at ha ⊢
  rcases ha with rfl|ha|ha
  ·omega
  ·have:=eg i j h1 h2 a ha;omega
  ·have:=Jt ha;omega
 ·intro a ha
  simp only[pd4,Jc]at ha ⊢
  rcases ha with rfl|ha
  ·omega
  ·have:=eu i (by omega) a ha;omega
 ·exact h1
 ·intro a ha
  have:=Jt (show a∈J1 _ i from ha);omega
 ·show i<_;omega
 ·show i<_;omega
 ·intro a ha
  simp only[pd3,Jj,List.mem_singleton]at ha ⊢
  rcases ha with ha|rfl
  ·have:=eu i h1 a ha;omega
  ·omega
 ·intro a ha
  simp only[pd3,Jc]at ha ⊢
  rcases ha with rfl|ha
  ·omega
  ·have:=eu i h1 a ha;omega
end
end Go.Pl

namespace Go.Pl
open Go Go.Ab Go.Wk Go.Pc
theorem zFX{α:Type}{F:α→Vec}{D:Nat}(hF:∀a,(F a).length=D):∀L:List α,((L.map F).flatten).length=L.length*D
 | []=>by simp
 |a::L=>by rw[Jv,Lq,J5,hF,zFX hF L,J6,Jy];omega
theorem zFf{α:Type}{F:α→Vec}{D:Nat}(hF:∀a,(F a).length=D):∀(L:List α)(i j:Nat)(hi:i<L.length),j<D→at0 ((L.map F).flatten) (i*D+j)=at0 (F L[i]) j
 | [],i,j,hi,_=>by simp at hi
 |a::L,i,j,hi,hj=>by
  have hl:=hF a;rw[Jv,Lq];cases i with
  |zero=>
   rw[Hr,Jg,List.getElem_cons_zero,at0,J2,Jm (by omega),←J2]
  |succ i=>
   have ih:=zFf hF L i j (by simpa using hi) hj;rw[List.getElem_cons_succ,←ih,at0,J2,J8 (by rw[hl,Jy];omega),hl,Jy,show i*D+D+j-D=i*D+j from by omega,←J2]
def kZ(p:Int)(D:Nat)(m:zG)(prs:List (Trc×Trc))(k:Nat):List Int:=(prs.map fun q=>prR p D m q.1 q.2 k).flatten
theorem zIt{p:Int}{D k:Nat}{m:zG}(prs:List (Trc×Trc)):(kZ p D m prs k).length=prs.length*D:=zFX (F:=fun q:Trc×Trc=>prR p D m q.1 q.2 k) (fun _=>yB _ _) prs
theorem zTa{p:Int}{D N:Nat}{m:zG}{y:Vec}(hp:2≤p){prs:List (Trc×Trc)}(hl:∀q∈prs,(∀r∈q.1,r.1<N)∧ ∀r∈q.2,r.1<N):
  (∀c,c<prs.length*D→(S (N*D) fun k=>at0 y k*ent (gl (N*D) fun k=>kZ p D m prs k) k c)%p=0)↔ ∀q∈prs,tv p D m (Tc N D y) q.1=tv p D m (Tc N D y) q.2:=by
 have e:∀i j(hi:i<prs.length),j<D→(S (N*D) fun k=>at0 y k*ent (gl (N*D) fun k=>kZ p D m prs k) k (i*D+j))=S (N*D) fun k=>at0 y k*at0 (prR p D m prs[i].1 prs[i].2 k) j:=fun i j hi hj=>by
  refine xI fun k hk=>?_
  show at0 y k*at0 ((gl (N*D) fun k=>kZ p D m prs k).getD k []) (i*D+j)=_;rw[xU hk,kZ,zFf (F:=fun q:Trc×Trc=>prR p D m q.1 q.2 k) (fun _=>yB _ _) prs i j hi hj]
 constructor
 ·intro g q hq
  obtain⟨i,hi,rfl⟩:=Ga.1 hq;refine(zP4 hp (hl _ hq).1 (hl _ hq).2).1 fun j hj=>?_
  rw[←e i j hi hj];exact g _ (jY hi hj)
 ·intro g c hc
  have hD:0<D:=by
   rcases Ui D with h|h
   ·rw[h,Nat.mul_zero]at hc;omega
   ·exact h
  have hi:c/D<prs.length:=(Hp hD).2 hc;have hj:c%D<D:=Gm _ hD;have hm:=Kf hi;rw[show c=c/D*D+c%D from by rw[H4];exact(Ha c D).symm,e _ _ hi hj];exact(zP4 hp (hl _ hm).1 (hl _ hm).2).2 (g _ hm) _ hj
def tX(x:SPr):List PD→List (Trc×Trc)→Prop
 | [],[]=>True
 |d::ds,q::qs=>d.B x q.1 q.2∧tX x ds qs
 |_,_=>False
theorem tX.len{x:SPr}:{ds:List PD}→{qs:List (Trc×Trc)}→tX x ds qs→ds.length=qs.length
 | [],[],_=>rfl
 |d::ds,q::qs,h=>by rw[J6,J6,tX.len h.2]
 | [],_::_,h=>by simp[tX]at h
 |_::_,[],h=>by simp[tX]at h
theorem tX.all{x:SPr}{φ:Trc×Trc→Prop}:{ds:List PD}→{qs:List (Trc×Trc)}→tX x ds qs→(∀d∈ds,∀t1 t2,d.B x t1 t2→φ (t1,t2))→ ∀q∈qs,φ q
 | [],[],_,_,q,hq=>by cases hq
 |d::ds,q::qs,h,g,r,hr=>by
  rcases Jc.1 hr with rfl|hr
  ·exact g d (by simp) _ _ h.1
  ·exact tX.all h.2 (fun d hd=>g d (H7 _ hd)) r hr
 | [],_::_,h,_,_,_=>by simp[tX]at h
 |_::_,[],h,_,_,_=>by simp[tX]at h
theorem tX.of{x:SPr}{φ:Trc×Trc→Prop}:{ds:List PD}→{qs:List (Trc×Trc)}→tX x ds qs→(∀q∈qs,φ q)→ ∀d∈ds,∃t1 t2,d.B x t1 t2∧φ (t1,t2)
 | [],[],_,_,d,hd=>by cases hd
 |d::ds,q::qs,h,g,r,hr=>by
  rcases Jc.1 hr with rfl|hr
  ·exact⟨q.1,q.2,h.1,g q (by simp)⟩
  ·exact tX.of h.2 (fun q hq=>g q (H7 _ hq)) r hr
 | [],_::_,h,_,_,_=>by simp[tX]at h
 |_::_,[],h,_,_,_=>by simp[tX]at h
section
variable {x:SPr}{m:zG}{D:Nat} (hx:zCC x) (hD:MOk x.zA.length m D)
 include hx hD
theorem zTb{prs:List (Trc×Trc)}(hq:tX x (cps x) prs)(hc:wR (suf x 0))(hr:zFK x m D){y:Vec}(hy:Row m.Prime (base x.zA.length x.zA.length*D) y):
  (∀c,c<prs.length*D→(S (base x.zA.length x.zA.length*D) fun k=>at0 y k*ent (gl (base x.zA.length x.zA.length*D) fun k=>kZ m.Prime D m prs k) k c)%m.Prime=0)↔wR (suf (exx D x m (Tc (base x.zA.length x.zA.length) D y)) 0):=by
 have hp:=hD.p.pos;have cN:=zGL hx.toPres hx.n6;have gz:∀q∈prs,(∀r∈q.1,r.1<base x.zA.length x.zA.length)∧ ∀r∈q.2,r.1<base x.zA.length x.zA.length:=hq.all fun d hd t1 t2 hb=>by obtain⟨hk,_,u1,u2,pX,l1,l2⟩:=cN d hd;obtain⟨rfl,rfl⟩:=zMo hx.toPres (by omega) hb pX;exact⟨l1,l2⟩
 obtain⟨e1,e2⟩:=zWN hx hD hy;rw[zTa (by omega) gz,←zQx hx.toPres e1 e2 hc hr,zQy];constructor
 ·intro g d hd t1 t2 hb
  obtain⟨u1,u2,pX,e⟩:=hq.of (φ:=fun q=>tv m.Prime D m (Tc (base x.zA.length x.zA.length) D y) q.1=tv m.Prime D m (Tc (base x.zA.length x.zA.length) D y) q.2) g d hd;obtain⟨rfl,rfl⟩:=zMo hx.toPres (by have:=(cN d hd).1;omega) hb pX;exact e
 ·intro g
  exact hq.all fun d hd t1 t2 hb=>g d hd t1 t2 hb
theorem zYu:∃prs,tX x (cps x) prs:=by
 have _:=hD;have cN:=zGL hx.toPres hx.n6
 revert cN
 generalize cps x=ds
 intro cN
 induction ds with
 |nil=>exact⟨[],trivial⟩
 |cons d ds ih=>
  obtain⟨qs,hq⟩:=ih fun d hd=>cN d (H7 _ hd)
  obtain⟨_,_,t1,t2,hb,_⟩:=cN d (by simp);exact⟨(t1,t2)::qs,hb,hq⟩
end
end Go.Pl

namespace Go.Pl
open Go Go.Ab Go.Wk Go.Pc
section
variable {x:SPr}{m:zG}{D:Nat} (hD:MOk x.zA.length m D)
 include hD
theorem zQz{N i:Nat}(hi:i<N)(hN:N≤21){T:Mx}:zH (zQQ m (T,(i:Int))) (J1 (N*D*D) (0:Int),0)=ja (mkv (N*D*D) fun j=>if j/D=i*D+j%D then 1 else 0):=by
 have h1:=hD.d1;have h3:=hD.d3;have j6:N*D≤21*3:=K6 hN h3;have hB:N*D*D≤63*3:=K6 j6 h3;have:=zW (body:=zQQ m (T,(i:Int))) (r:=mkv (N*D*D) fun j=>if j/D=i*D+j%D then(1:Int)else 0)
  (fun c=>(mkv (N*D*D) fun j=>if j/D=i*D+j%D∧j%D<c then(1:Int)else 0,(c:Int))) D (fun c hc=>by
  unfold zQQ;simp only
  have a1:i*D+D≤N*D:=by rw[←Jy];exact Kl _ hi
  have a2:(i*D+c)*D+D≤N*D*D:=by rw[←Jy];exact Kl _ (by omega)
  have b1:(i:Int)*(D:Int)=((i*D:Nat):Int):=by rw[L6]
  have b2:((i*D+c:Nat):Int)*(D:Int)=(((i*D+c)*D:Nat):Int):=by rw[L6]
  have b3:((i*D:Nat):Int)+(c:Int)=((i*D+c:Nat):Int):=by omega
  have b4:(((i*D+c)*D:Nat):Int)+(c:Int)=(((i*D+c)*D+c:Nat):Int):=by omega
  rw[hD.d,xD hc,zN,b1,zC (by omega) (by omega),bs,b3,zC (by omega) (by omega),bs,b2,zC (by omega) (by omega),bs,b4,zC (by omega) (by omega),bs,yX 0 (by rw[yB];omega),bs,zC (by omega) (by omega),bs,Je,jF,cs]
  congr 3
  refine zX fun j hj=>?_
  have mr:=Ha j D
  by_cases g:j=(i*D+c)*D+c
  ·have e:=sL (q:=i*D+c) hc
   rw[if_pos g,g,e.1,e.2,if_pos ⟨rfl,by omega⟩]
  ·rw[if_neg g]
   by_cases g2:j/D=i*D+j%D
   ·by_cases g3:j%D<c
    ·rw[if_pos ⟨g2,g3⟩,if_pos ⟨g2,by omega⟩]
    ·rw[if_neg fun z=>g3 z.2]
     refine(if_neg fun z=>g ?_).symm;have:j%D=c:=by omega
     rw[g2,this,H4]at mr;exact mr.symm
   ·rw[if_neg fun z=>g2 z.1,if_neg fun z=>g2 z.1]) (by
  unfold zQQ;simp only
  rw[hD.d,xP,zI]
  congr 2
  refine zX fun j _=>?_
  have:=Gm j (show 0<D by omega)
  by_cases g2:j/D=i*D+j%D
  ·rw[if_pos ⟨g2,this⟩,if_pos g2]
  ·rw[if_neg fun z=>g2 z.1,if_neg g2])
 rw[show(mkv (N*D*D) fun j=>if j/D=i*D+j%D∧j%D<0 then(1:Int)else 0)=J1 (N*D*D) 0 from by rw[show J1 (N*D*D) (0:Int)=mkv (N*D*D) fun _=>0 from uS _];exact zX fun j _=>if_neg fun z=>Ur _ z.2]at this
 exact this
theorem zIu{N:Nat}(hN:N≤21):zH (zUs m (N:Int) ((N*D:Nat):Int)) ([],0)=ja (uT N D):=by
 have h1:=hD.d1;have h3:=hD.d3;have j6:N*D≤21*3:=K6 hN h3;have hB:N*D*D≤63*3:=K6 j6 h3;refine vJ N (fun i=>mkv (N*D*D) fun j=>if j/D=i*D+j%D then(1:Int)else 0) (fun i acc hi ha=>?_) (fun acc=>?_)
 ·unfold zUs
  simp only
  have b1:((N*D:Nat):Int)*(D:Int)=((N*D*D:Nat):Int):=by rw[L6 (N*D)]
  rw[hD.d,xD hi,zN,b1,zC (by omega) (by omega),bs,xM (by omega),bs,zQz hD hi hN,bs,yN (by simp;omega),bs,zC (by omega) (by omega),bs,cs]
 ·unfold zUs
  simp only
  rw[xP,zI]
theorem zJt{B:Nat}(hB:B≤63){L:Mx}(hL:L.length≤1000)(hr:∀r∈L,r.length=B*D):zH (zUt m ((B:Nat):Int) L) ([],0)=ja (gl B fun k=>zD2 D k L):=by
 have h1:=hD.d1;have h3:=hD.d3;have hLD:L.length*D≤1000*3:=K6 hL h3;have hBD:B*D≤63*3:=K6 hB h3;refine vJ B (fun k=>zD2 D k L) (fun k acc hk ha=>?_) (fun acc=>?_)
 ·unfold zUt
  simp only
  have a1:k*D+D≤B*D:=by rw[←Jy];exact Kl _ hk
  have inner:zH (zQR m L (acc,(k:Int))) ([],0)=ja (zD2 D k L):=by
   have:=zS0 (body:=zQR m L (acc,(k:Int))) L.length D (fun i=>blk D (L.getD i []) k) [] (fun i hi=>yB _ _) (fun i acc2 hi ha2=>by
    unfold zQR;simp only
    have b0:i*D+D≤L.length*D:=by rw[←Jy];exact Kl _ hi
    have b1:(k:Int)*(D:Int)=((k*D:Nat):Int):=by rw[L6]
    have b2:((k+1:Nat):Int)*(D:Int)=((k*D+D:Nat):Int):=by rw[←L6,Jy]
    have gj:(L.getD i []).length=B*D:=by rw[J2,J3 hi];exact hr _ (Kf hi)
    simp only[Ju,Jg]at ha2;rw[hD.d,xD hi,zN,yX [] hi,bs,b1,zC (by omega) (by omega),bs,show(k:Int)+1=((k+1:Nat):Int)from by omega,zC (by omega) (by omega),bs,b2,zC (by omega) (by omega),bs,zFR (by omega),bs,yN (by rw[yB];omega),bs,zC (by omega) (by omega),bs,cs];rfl) (fun acc2=>by
    unfold zQR;simp only
    rw[xP,zI])
   rw[this,Ji,zD2]
   congr 2
   rw[gl];refine Qy (by simp) fun j h1 h2=>?_
   simp only[Jd,Ky]at h1;simp only[Jdd,Q8];rw[J2,J3 h1];rfl
  rw[xD hk,zN,inner,bs,yN (by simp;omega),bs,zC (by omega) (by omega),bs,cs]
 ·unfold zUt
  simp only
  rw[xP,zI]
end
section
variable {x:SPr}{m:zG}{D:Nat} (hx:zCC x) (hD:MOk x.zA.length m D)
 include hx hD
theorem zGw(h0:0<x.zA.length)(hc:wR (suf x 0))(hr:zFK x m D):∃K pk,f_m x m=ja K∧Red m.Prime (base x.zA.length x.zA.length*D) K pk∧
  ∀y,Row m.Prime (base x.zA.length x.zA.length*D) y→(Sp m.Prime (base x.zA.length x.zA.length*D) K y↔wR (suf (exx D x m (Tc (base x.zA.length x.zA.length) D y)) 0)):=by
 have h6:=hx.n6;have hb:=vK x.zA.length (by omega);have h1:=hD.d1;have h3:=hD.d3;have hB:base x.zA.length x.zA.length*D≤21*3:=K6 hb.2.1 h3;obtain⟨L,l1,l2,l3,l4⟩:=zSX hx hD h0 hc hr;have hLD:L.length*D≤1000*3:=K6 l2 h3;obtain⟨K,pk,k1,_,k3,k4⟩:=zFP hD.p (c:=L.length*D) (N:=base x.zA.length x.zA.length*D) (A:=gl (base x.zA.length x.zA.length*D) fun k=>zD2 D k L) (by omega) (fun k hk=>by rw[xU hk];refine⟨zMn L,fun j hj=>?_⟩;have hi:j/D<L.length:=(Hp (by omega)).2 hj;have hm:j%D<D:=Gm _ (by omega);have e:=zK1 (D:=D) (k:=k) L (j/D) (j%D) hi hm;rw[show j/D*D+j%D=j from by rw[H4];exact Ha j D]at e;rw[e];have fQ:=l3 (L.getD (j/D) []) (by rw[J2,J3 hi];exact Kf hi);exact fQ.2 _ (jY hk hm)) wC
 refine⟨K,pk,?_,k3,fun y hy=>?_⟩
 ·unfold f_m
  have b1:((base x.zA.length x.zA.length:Nat):Int)*(D:Int)=((base x.zA.length x.zA.length*D:Nat):Int):=by rw[L6]
  rw[zBV rfl h6,bs,hD.d,b1,zC (by omega) (by omega),bs,zIu hD hb.2.1,bs,l1,bs,zJt hD (by omega) l2 (fun r hr=>(l3 r hr).1),bs,show((L.length:Nat):Int)*(D:Int)=((L.length*D:Nat):Int)from by rw[L6],zC (by omega) (by omega),bs,k1,bs]
 ·rw[k4 y,←l4 y hy,←zSY (L:=L)]
end
end Go.Pl

namespace Go.Pl
open Go Go.Ab Go.Wk Go.Pc
theorem tU{w:List Nat}{t:Nat}(h:t<w.length):ixO (enW w) (t:Int)=ja (((w.getD t 0:Nat):Int)+1):=by rw[yX 0 (by simpa using h)];simp only[J2,K1,J3 h];rfl
theorem qP{w:List Nat}{t:Nat}(h:t<w.length):w.drop t=w.getD t 0::w.drop (t+1):=by rw[Hc h,J2,J3 h];rfl
theorem zDr{w:List Nat}{a b:Nat}(h1:a≤b)(h2:b≤w.length):yA (enW w) (a:Int) (b:Int)=ja (enW ((w.drop a).take (b-a))):=by unfold yA;rw[if_pos ⟨by omega,by omega,by simp;omega⟩];simp only[Je,enW,Qu,Jd2]
theorem zTc{w:List Nat}{t o:Nat}{L:Int→Option (Int⊕(Unit⊕Bool))}(hL:L=zOj (enW w) (t:Int) (enW ((w.drop t).take o))∨L=zOl (enW w) (t:Int) (enW ((w.drop t).take o)))(ht:t<w.length)(ho:t+o≤w.length)(hl:w.length≤1000000):
  zH L 0=ja (if decide ((w.drop t).take o=J1 o (w.getD t 0))then .inl ()else .inr jd):=by
 have gj:((w.drop t).take o).length=o:=by rw[K3,Jz];omega
 have pT:(enW ((w.drop t).take o)).length=o:=by rw[enW,Jd,gj]
 have ef:∀i,i<o→((w.drop t).take o).getD i 0=w.getD (t+i) 0:=fun i hi=>by simp only[J2,H5,Ko];rw[if_pos hi]
 have hb:∀i,i<o→L (i:Int)=ja (if(w.getD (t+i) 0==w.getD t 0)then .inl ((i+1:Nat):Int)else .inr (.inr jd)):=fun i hi=>by
  have e1:ixO (enW ((w.drop t).take o)) (i:Int)=ja (((w.getD (t+i) 0:Nat):Int)+1):=by rw[tU (by omega),ef i hi]
  have e2:(((w.getD (t+i) 0:Nat):Int)+1 != ((w.getD t 0:Nat):Int)+1)= !(w.getD (t+i) 0==w.getD t 0):=by
   by_cases g:w.getD (t+i) 0=w.getD t 0
   ·rw[g];simp
   ·have:(w.getD (t+i) 0==w.getD t 0)=jd:=by simpa using g
    rw[this];have g2:((w.getD (t+i) 0:Nat):Int)+1≠((w.getD t 0:Nat):Int)+1:=by omega
    simpa using g2
  rcases hL with rfl|rfl<;>
  ·first|unfold zOj|unfold zOl
   rw[pT,xD hi,zN,e1,bs,tU ht,bs,e2]
   by_cases g:(w.getD (t+i) 0==w.getD t 0)=jc
   ·rw[g,Ka,zI,zC (by omega) (by omega),bs,cs];rfl
   ·have g':(w.getD (t+i) 0==w.getD t 0)=jd:=by simpa using g
    rw[g',Kg,zN];rfl
 have he:L (o:Int)=ja (.inr (.inl ())):=by
  rcases hL with rfl|rfl
  ·unfold zOj
   rw[pT,xP,zI]
  ·unfold zOl
   rw[pT,xP,zI]
 rw[zJi o (fun i=>w.getD (t+i) 0==w.getD t 0) (fun i hi _=>hb i hi) (fun _=>he)]
 congr 1
 have fI:(Jl o).all (fun i=>w.getD (t+i) 0==w.getD t 0)=decide ((w.drop t).take o=J1 o (w.getD t 0)):=by
  rw[Bool.eq_iff_iff,Ki,decide_eq_true_iff];constructor
  ·intro g
   refine Qy (by rw[gj,Jh]) fun i h1 h2=>?_
   have:=g i (Kv.2 (by omega));have e:=ef i (by omega);rw[J2,J3 h1]at e;rw[List.getElem_replicate];simp only[Ql]at e;rw[e];simpa using this
  ·intro g i hi
   have e:=ef i (Kv.1 hi);rw[g,J2,Qz (Kv.1 hi)]at e;simp only[Ql]at e;rw[←e];simp
 rw[fI]
section
variable {x:SPr} (h:Pres x)
 include h
theorem qX{a:Nat}(ha:a<x.zA.length):ixO x.zA (a:Int)=ja ((yH x a:Nat):Int)∧2≤yH x a∧yH x a≤7:=by
 have hp:=(h.os.2 a ha).pos;rw[yX 0 ha];refine⟨?_,zKt h ha,?_⟩
 ·show ja (at0 x.zA a)=ja (((at0 x.zA a).toNat:Nat):Int)
  rw[Jde (by omega)]
 ·show(at0 x.zA a).toNat≤7
  omega
theorem zTd{w:List Nat}{t:Nat}(ht:t<w.length):(pws x (w.drop t)).isSome=decide (t+yH x (w.getD t 0)≤w.length∧(w.drop t).take (yH x (w.getD t 0))=J1 (yH x (w.getD t 0)) (w.getD t 0)):=by
 have _:=h;have hd:=qP ht
 by_cases g:(w.drop t).take (yH x (w.getD t 0))=J1 (yH x (w.getD t 0)) (w.getD t 0)
 ·have hl:=zB9 g
  rw[Jz]at hl;rw[jf ⟨by omega,g⟩];rw[hd]at g ⊢
  simp only[pws];rw[if_pos g];rfl
 ·rw[je fun z=>g z.2]
  rw[hd]at g ⊢
  simp only[pws];rw[if_neg g];rfl
theorem zIv{w:List Nat}(hw:∀a∈w,a<x.zA.length)(hl:w.length≤1000000){t:Nat}(ht:t<w.length):f_C x (enW w) (t:Int)=ja (hdS x (w.drop t)).isSome:=by
 have ha:w.getD t 0<x.zA.length:=hw _ (by rw[J2,J3 ht];exact Kf ht);obtain⟨o1,o2,o3⟩:=qX h ha;have gj:(enW w).length=w.length:=by simp
 have hd:=qP ht;have a1:((w.getD t 0:Nat):Int)+1-1=((w.getD t 0:Nat):Int):=by omega
 have a2:(t:Int)+((yH x (w.getD t 0):Nat):Int)=((t+yH x (w.getD t 0):Nat):Int):=by omega
 have h9:=h.os.1;have fin:∀L:List Int→Int→Option (Int⊕(Unit⊕Bool)),(∀o,L (enW ((w.drop t).take o))=zOj (enW w) (t:Int) (enW ((w.drop t).take o))∨L (enW ((w.drop t).take o))=zOl (enW w) (t:Int) (enW ((w.drop t).take o)))→
   (cond (decide (((t+yH x (w.getD t 0):Nat):Int)> ((w.length:Nat):Int))) (ja jd) ((ja ((t+yH x (w.getD t 0):Nat):Int)).bind fun v9=>(yA (enW w) (t:Int) v9).bind fun v10=>(zH (L v10) 0).bind fun r14=>match r14 with|(.inl _)=>ja jc|(.inr r14)=>ja r14))=ja (pws x (w.drop t)).isSome:=by
  intro L hL;rw[zTd h ht]
  by_cases g:t+yH x (w.getD t 0)≤w.length
  ·rw[je (by omega),zI,bs,zDr (by omega) g,bs,He,zTc (hL _) ht g hl,bs]
   by_cases g2:(w.drop t).take (yH x (w.getD t 0))=J1 (yH x (w.getD t 0)) (w.getD t 0)
   ·rw[jf g2,jf ⟨g,g2⟩];rfl
   ·rw[je g2,je fun z=>g2 z.2];rfl
  ·rw[jf (by omega),zN,je fun z=>g z.1]
 unfold f_C;rw[gj,zC (by omega) (by omega),bs]
 by_cases g:t+1<w.length
 ·have pV:=qP g
  rw[jf (by omega),zN,tU ht,bs,bs,show(t:Int)+1=((t+1:Nat):Int)from by omega,tU g,bs]
  by_cases g2:w.getD (t+1) 0<w.getD t 0
  ·rw[jf (by omega),zN,hd,pV]
   unfold hdS;simp only[swp];rw[if_pos g2];rfl
  ·rw[je (by omega),zI,bs,a1,zC (by omega) (by omega),bs,o1,bs,a2,zC (by omega) (by omega),bs]
   refine(fin (fun v=>zOj (enW w) (t:Int) v) fun o=>.inl rfl).trans ?_;have:swp x (w.drop t)=jb:=by rw[hd,pV];simp only[swp];rw[if_neg g2]
   unfold hdS;rw[this]
 ·rw[je (by omega),zI,tU ht,bs,a1,zC (by omega) (by omega),bs,o1,bs,a2,zC (by omega) (by omega),bs]
  refine(fin (fun v=>zOl (enW w) (t:Int) v) fun o=>.inr rfl).trans ?_;have:swp x (w.drop t)=jb:=by rw[hd,Hb (by omega)];rfl
  unfold hdS;rw[this]
end
end Go.Pl

namespace Go.Pl
open Go Go.Ab Go.Wk Go.Pc
def stI(x:SPr):List Nat→Option (Nat×zEm)
 | []=>jb
 |a::w=>match hdS x (a::w)with
  |some r=>ja (0,r)
  |none=>(stI x w).map fun z=>(z.1+1,z.2)
section
variable {x:SPr}
theorem zK2:∀w:List Nat,stS x w=(stI x w).map fun z=>(z.2.1,z.2.2.1,w.take z.1++z.2.2.2)
 | []=>rfl
 |a::w=>by
  simp only[stS,stI];cases hdS x (a::w)with
  |some r=>rfl
  |none=>
   rw[zK2 w];cases stI x w with
   |none=>rfl
   |some z=>rfl
theorem zP5:∀{w:List Nat}{z:Nat×zEm},stI x w=ja z→z.1<w.length∧hdS x (w.drop z.1)=ja z.2
 | [],_,h=>by cases h
 |a::w,z,h=>by
  simp only[stI]at h;cases e:hdS x (a::w)with
  |some r=>
   rw[e]at h;cases h;exact⟨by simp,e⟩
  |none=>
   rw[e]at h;cases e2:stI x w with
   |none=>rw[e2]at h;cases h
   |some q=>
    rw[e2]at h;cases h;obtain⟨h1,h2⟩:=zP5 e2;exact⟨by simpa using h1,by simpa using h2⟩
theorem zMp:∀(k i:Nat)(w:List Nat),i+k=w.length→(Lb i k).findSome? (fun j=>if(hdS x (w.drop j)).isSome then ja (j:Int)else jb)=(stI x (w.drop i)).map fun z=>((i+z.1:Nat):Int)
 |0,i,w,h=>by rw[Hb (by omega)];rfl
 |k+1,i,w,h=>by
  rw[Jdc,Jc2,qP (show i<w.length by omega)];simp only[stI];cases e:hdS x (w.getD i 0::w.drop (i+1))with
  |some r=>rfl
  |none=>
   simp only[Q5,Gk,if_false];rw[zMp k (i+1) w (by omega)];cases stI x (w.drop (i+1))with
   |none=>rfl
   |some z=>
    simp only[Hk]
    congr 2;omega
section
variable (h:Pres x)
 include h
theorem zBA{w:List Nat}(hw:∀a∈w,a<x.zA.length)(hl:w.length≤1000000):f_P x (enW w)=ja (match stI x w with|some z=>(z.1:Int)|none=> -1):=by
 have gj:(enW w).length=w.length:=by simp
 unfold f_P;have:=zJh (body:=zUx x (enW w)) w.length (fun j=>if(hdS x (w.drop j)).isSome then ja (j:Int)else jb) 0 (Kn _) (fun i _ hi _=>by
  unfold zUx;rw[gj,xD hi,zN,zIv h hw hl hi,bs];cases hdS x (w.drop i)with
  |some r=>rfl
  |none=>
   simp only[Q5];rw[zI,zC (by omega) (by omega),bs,cs];rfl) (fun _=>by
  unfold zUx;rw[gj,xP,zI])
 rw[show((0:Nat):Int)=0 from rfl,Ud,zMp w.length 0 w (by omega),Gb]at this;rw[this,bs];cases stI x w with
 |none=>rfl
 |some z=>simp only[Hk,zLx,Jg]
theorem zIw{v:List Int}(hn:x.zA.length≤6)(hv:zXK x.zA v):f_w v=ja (enW (nw 0 v))∧(nw 0 v).length≤36:=by
 have hb:∀i,i<v.length→0≤at0 v i∧at0 v i≤6:=fun i hi=>by have h1:=hv.2 i hi;have h2:=(h.os.2 i (by have:=hv.1;omega)).pos;omega
 have:=zFI 0 v fun i hi=>(hb i hi).2
 have hl:=hv.1;exact⟨kY (by omega) hb,by omega⟩
theorem zCR(hn:x.zA.length≤6){w:List Nat}(hw:∀a∈w,a<x.zA.length)(hl:w.length≤900000){t:Nat}{r:zEm}(ht:t<w.length)(hr:hdS x (w.drop t)=ja r):zOi x (enW w) (t:Int)=ja (enW (w.take t++r.2.2)):=by
 have gx:∀i,i<w.length→w.getD i 0<x.zA.length:=fun i hi=>hw _ (by rw[J2,J3 hi];exact Kf hi)
 have ha:=gx t ht;obtain⟨o1,o2,o3⟩:=qX h ha;have gj:(enW w).length=w.length:=by simp
 have hd:=qP ht;have a1:((w.getD t 0:Nat):Int)+1-1=((w.getD t 0:Nat):Int):=by omega
 have a2:(t:Int)+((yH x (w.getD t 0):Nat):Int)=((t+yH x (w.getD t 0):Nat):Int):=by omega
 obtain⟨p1,p2⟩:=zIw h hn (h.tl _ ha).1.1;have h0:yA (enW w) 0 (t:Int)=ja (enW (w.take t)):=by have:=zDr (w:=w) (Kn t) (by omega);rw[show((0:Nat):Int)=0 from rfl,Gb,Ud]at this;exact this
 have hs:∀q,q≤w.length→yA (enW w) (q:Int) (w.length:Int)=ja (enW (w.drop q)):=fun q hq=>by rw[zDr hq (Jo _),Jr (by rw[Jz];omega)]
 have pw:swp x (w.drop t)=jb→(rng (((w.getD t 0:Nat):Int)+1-1)).bind (fun v3=>(yA (enW w) 0 (t:Int)).bind fun v4=>(ixO x.zT v3).bind fun v5=>(f_w v5).bind fun r6=>(ixO x.zA v3).bind fun v7=>(rng ((t:Int)+v7)).bind fun v8=>(yA (enW w) v8 (w.length:Int)).bind fun v9=>(f_v [v4,r6,v9]).bind fun r10=>ja r10)=ja (enW (w.take t++r.2.2)):=fun mj=>by
  unfold hdS at hr;rw[mj]at hr;simp only at hr;rw[hd]at hr;simp only[pws]at hr;split at hr
  ·rename_i g
   have eG:=zB9 g;rw[←hd,Jz]at eG;cases hr;rw[a1,zC (by omega) (by omega),bs,h0,bs,yX [] (by rw[h.pl];exact ha),bs,p1,bs,o1,bs,a2,zC (by omega) (by omega),bs,hs _ (by omega),bs,zAQ (by simp) (by simp only[Lq,G4,J5,Jd,K3,Jz,Ju,J6,enW];omega),bs];simp only[Lq,G4,J9,enW,Kx];rw[←hd,Jc4]
  ·cases hr
 unfold zOi;rw[gj,zC (by omega) (by omega),bs]
 by_cases g:t+1<w.length
 ·have pV:=qP g
  have hb:=gx _ g;rw[jf (by omega),zN,tU ht,bs,bs,show(t:Int)+1=((t+1:Nat):Int)from by omega,tU g,bs]
  by_cases g2:w.getD (t+1) 0<w.getD t 0
  ·rw[hd,pV]at hr
   unfold hdS at hr;simp only[swp]at hr;rw[if_pos g2]at hr;cases hr;have cE:=h.tl _ hb;have dR:=cE.2.2 (w.getD t 0-(w.getD (t+1) 0+1)) (by have:=cE.2.1;omega);obtain⟨q1,q2⟩:=zIw h hn dR.1;have b1:((w.getD (t+1) 0:Nat):Int)+1-1=((w.getD (t+1) 0:Nat):Int):=by omega
   have b2:((w.getD t 0:Nat):Int)-((w.getD (t+1) 0:Nat):Int)-1=((w.getD t 0-(w.getD (t+1) 0+1):Nat):Int):=by omega
   rw[jf (by omega),zN,bs,a1,zC (by omega) (by omega),bs,bs,tU g,bs,b1,zC (by omega) (by omega),bs,h0,bs,zC (by omega) (by omega),bs,yX [] (by rw[h.cl];exact hb),bs,zC (by omega) (by omega),bs,b2,zC (by omega) (by omega),bs,yX [] (by have:=cE.2.1;omega),bs,q1,bs,zC (by omega) (by omega),bs,show(t:Int)+2=((t+2:Nat):Int)from by omega,hs _ (by omega),bs,zAQ (by simp) (by simp only[Lq,G4,J5,Jd,K3,Jz,Ju,J6,enW];omega),bs];simp only[Lq,G4,J9,enW,Kx,Jv,Jp,Ji]
  ·rw[je (by omega),zI,bs]
   exact pw (by rw[hd,pV];simp only[swp];rw[if_neg g2])
 ·rw[je (by omega),zI,tU ht,bs]
  exact pw (by rw[hd,Hb (by omega)];rfl)
end
end
end Go.Pl

namespace Go.Pl
open Go Go.Ab Go.Wk Go.Pc
def smx(p:Int)(D N:Nat)(F:Nat→Nat→Nat→Int):List zK:=gl N fun r=>zK.mk p (D:Int) (gl D fun i=>mkv D fun j=>F r i j%p)
def upd(F:Nat→Nat→Nat→Int)(s:Int)(r0:Nat)(A:Mx)(c:Nat):Nat→Nat→Nat→Int:=fun r i j=>F r i j+if r=r0∧i<c then s*ent A i j else 0
theorem zBB{β:Type}{n:Nat}{f g:Nat→β}(h:∀i,i<n→f i=g i):gl n f=gl n g:=by simp only[gl];exact Qp fun i hi=>h i (Kv.1 hi)
section
variable {x:SPr}{m:zG}{D N:Nat}{s:Int}{r0:Nat}{A:Mx}{T0:List zK}
theorem zFY(hp:Prime m.Prime)(hD:D≤3)(hN:N≤100)(hs:-7≤s∧s≤7)(hr:r0<N)(hA:Mat m.Prime D A){F:Nat→Nat→Nat→Int}{L:(List zK)×Int→Option (((List zK)×Int)⊕(List zK))}
  (hL:L=zUu ⟨x,m,T0⟩ s (r0:Int) (zK.mk m.Prime (D:Int) A)∨L=zUv ⟨x,m,T0⟩ s (r0:Int) (zK.mk m.Prime (D:Int) A)∨L=zUw ⟨x,m,T0⟩ s (r0:Int) (zK.mk m.Prime (D:Int) A)):
  zH L (smx m.Prime D N F,0)=ja (smx m.Prime D N (upd F s r0 A D)):=by
 have tq:=hp.pos;have cB:=hA.1;have gB:∀c,c<D→ ∀(k:Nat),(c:Int)+1=(k:Int)→((ixO A (c:Int)).bind fun v10=>(ixO (smx m.Prime D N (upd F s r0 A c)) (r0:Int)).bind fun v11=>(ixO v11.Rows (c:Int)).bind fun v12=>(f_s v12 v10 s m.Prime).bind fun r13=>(rng ((c:Int)+1)).bind fun v14=>
   (ja (.inl ((smx m.Prime D N (upd F s r0 A c)).set (r0:Int).toNat (zK.mk v11.Prime v11.yI (v11.Rows.set (c:Int).toNat r13)),v14)):Option (((List zK)×Int)⊕(List zK))))=ja (.inl (smx m.Prime D N (upd F s r0 A (c+1)),((c+1:Nat):Int))):=fun c hc k _=>by
  have fQ:Row m.Prime D (mkv D fun j=>upd F s r0 A c r0 c j%m.Prime):=⟨yB _ _,fun j hj=>by rw[yE hj];exact⟨L7 _ (show m.Prime≠0 by omega),by have:=Kr (upd F s r0 A c r0 c j) (show 0<m.Prime by omega);omega⟩⟩
  rw[yX [] (by omega),bs,smx,zER hr,bs];simp only
  rw[zER hc,bs,zAv hp fQ (hA.2 c hc) hs (by omega),bs,zC (by omega) (by omega),bs,Je,Je,zKi,zKi,cs]
  congr 3
  refine zBB fun r _=>?_
  by_cases g:r=r0
  ·rw[if_pos g,g]
   congr 1
   refine zBB fun i _=>?_
   by_cases g2:i=c
   ·rw[if_pos g2,g2,tG]
    refine zX fun j hj=>?_
    rw[yE hj,upd,upd,if_neg (fun z=>absurd z.2 (Jc5 c)),if_pos ⟨rfl,Nat.lt_succ_self c⟩,Hd];show(F r0 c j%m.Prime+s*ent A c j)%m.Prime=_;rw[Int.emod_add_emod]
   ·rw[if_neg g2]
    refine zX fun j hj=>?_
    rw[upd,upd]
    by_cases g3:i<c
    ·rw[if_pos ⟨rfl,g3⟩,if_pos ⟨rfl,by omega⟩]
    ·rw[if_neg (fun z=>g3 z.2),if_neg (fun z=>g3 (by omega))]
  ·rw[if_neg g]
   congr 1
   refine zBB fun i _=>zX fun j _=>?_
   rw[upd,upd,if_neg (fun z=>g z.1),if_neg (fun z=>g z.1)]
 have:=zW (body:=L) (r:=smx m.Prime D N (upd F s r0 A D)) (fun c=>(smx m.Prime D N (upd F s r0 A c),(c:Int))) D (fun c hc=>by
  rcases hL with rfl|rfl|rfl
  ·unfold zUu
   simp only
   rw[show((A.length:Nat):Int)=(D:Int)from by rw[cB],xD hc,zN];exact gB c hc (c+1) (by omega)
  ·unfold zUv
   simp only
   rw[show((A.length:Nat):Int)=(D:Int)from by rw[cB],xD hc,zN];exact gB c hc (c+1) (by omega)
  ·unfold zUw
   simp only
   rw[show((A.length:Nat):Int)=(D:Int)from by rw[cB],xD hc,zN];exact gB c hc (c+1) (by omega)) (by
  rcases hL with rfl|rfl|rfl
  ·unfold zUu
   simp only
   rw[show((A.length:Nat):Int)=(D:Int)from by rw[cB],xP,zI]
  ·unfold zUv
   simp only
   rw[show((A.length:Nat):Int)=(D:Int)from by rw[cB],xP,zI]
  ·unfold zUw
   simp only
   rw[show((A.length:Nat):Int)=(D:Int)from by rw[cB],xP,zI])
 rw[show smx m.Prime D N (upd F s r0 A 0)=smx m.Prime D N F from zBB fun r _=>by
  congr 1
  refine zBB fun i _=>zX fun j _=>?_
  rw[upd,if_neg (fun z=>Ur _ z.2),Hd]]at this
 exact this
end
theorem zTe:∀n:Nat,n<7→ ∀j:Nat,j<n→ ∀i:Nat,i<j→((rng ((n:Int)-1)).bind fun v10=>(rng ((i:Int)*v10)).bind fun v11=>(rng ((n:Int)+v11)).bind fun v12=>(rng ((i:Int)-1)).bind fun v13=>(rng ((i:Int)*v13)).bind fun v14=>(uM v14 2).bind fun v15=>(rng (v12-v15)).bind fun v16=>(rng (v16+(j:Int))).bind fun v17=>(rng (v17-(i:Int))).bind fun v18=>(rng (v18-1)).bind fun v19=>ja v19)=ja ((base n i+(j-(i+1)):Nat):Int):=by decide+kernel
end Go.Pl

namespace Go.Pl
open Go Go.Ab Go.Wk Go.Pc
section
variable {x:SPr}{m:zG}{D:Nat}{T0:List zK} (h:Pres x) (hn:x.zA.length≤6) (hD:MOk x.zA.length m D)
 include h hn
theorem zG3{w:List Nat}(hw:∀a∈w,a<x.zA.length)(hl:w.length≤900000){t:Nat}{r:zEm}(ht:t<w.length)(hr:hdS x (w.drop t)=ja r):zVZ ⟨x,m,T0⟩ (enW w) (t:Int)=ja (r.1:Int):=by
 have _:=h;have gx:∀i,i<w.length→w.getD i 0<x.zA.length:=fun i hi=>hw _ (by rw[J2,J3 hi];exact Kf hi)
 have ha:=gx t ht;have gj:(enW w).length=w.length:=by simp
 have hd:=qP ht;have a1:((w.getD t 0:Nat):Int)+1-1=((w.getD t 0:Nat):Int):=by omega
 have pw:swp x (w.drop t)=jb→(rng (((w.getD t 0:Nat):Int)+1-1)).bind (fun v3=>ja v3)=ja (r.1:Int):=fun mj=>by
  unfold hdS at hr;rw[mj]at hr;simp only at hr;rw[hd]at hr;simp only[pws]at hr;split at hr
  ·cases hr
   rw[a1,zC (by omega) (by omega),bs]
  ·cases hr
 unfold zVZ;rw[gj,zC (by omega) (by omega),bs]
 by_cases g:t+1<w.length
 ·have pV:=qP g
  have hb:=gx _ g;rw[jf (by omega),zN,tU ht,bs,bs,show(t:Int)+1=((t+1:Nat):Int)from by omega,tU g,bs]
  by_cases g2:w.getD (t+1) 0<w.getD t 0
  ·rw[hd,pV]at hr
   unfold hdS at hr;simp only[swp]at hr;rw[if_pos g2]at hr;cases hr;have b1:((w.getD (t+1) 0:Nat):Int)+1-1=((w.getD (t+1) 0:Nat):Int):=by omega
   rw[jf (by omega),zN,bs,a1,zC (n:=((w.getD t 0:Nat):Int)) (by omega) (by omega),bs,bs,tU g,bs,b1,zC (n:=((w.getD (t+1) 0:Nat):Int)) (by omega) (by omega),bs];exact zTe x.zA.length (by omega) (w.getD t 0) ha (w.getD (t+1) 0) g2
  ·rw[je (by omega),zI,bs]
   exact pw (by rw[hd,pV];simp only[swp];rw[if_neg g2])
 ·rw[je (by omega),zI,tU ht,bs]
  exact pw (by rw[hd,Hb (by omega)];rfl)
 include hD
theorem zFZ{w:List Nat}(hw:∀a∈w,a<x.zA.length)(hl:w.length≤60000){t:Nat}{r:zEm}(ht:t<w.length)(hr:hdS x (w.drop t)=ja r){s:Int}(hs:-7≤s∧s≤7){F:Nat→Nat→Nat→Int}:
  f_k ⟨x,m,smx m.Prime D (base x.zA.length x.zA.length) F⟩ (enW w) (t:Int) s=ja (enW (w.take t++r.2.2),⟨x,m,smx m.Prime D (base x.zA.length x.zA.length) (upd F s r.1 (wM m.Prime D m.zR r.2.1 (idM D)) D)⟩):=by
 have hp:=hD.p.pos;have h3:=hD.d3;have fX:=vK x.zA.length (by omega);have gx:∀i,i<w.length→w.getD i 0<x.zA.length:=fun i hi=>hw _ (by rw[J2,J3 hi];exact Kf hi)
 have ha:=gx t ht;obtain⟨o1,o2,o3⟩:=qX h ha;have gj:(enW w).length=w.length:=by simp
 have hd:=qP ht;have a1:((w.getD t 0:Nat):Int)+1-1=((w.getD t 0:Nat):Int):=by omega
 have a2:(t:Int)+((yH x (w.getD t 0):Nat):Int)=((t+yH x (w.getD t 0):Nat):Int):=by omega
 have i9:=zWO hn (fun a ha=>hw a (Jbr ha)) hr;have hA:∀z,Mat m.Prime D (wM m.Prime D m.zR z (idM D)):=fun z=>zHQ (by omega) _ (qR (by omega))
 have gI:∀q,q≤w.length→yA (enW w) (q:Int) (w.length:Int)=ja (enW (w.drop q)):=fun q hq=>by rw[zDr hq (Jo _),Jr (by rw[Jz];omega)]
 have t7:∀q,q≤w.length→f_N m (enW (w.drop q))=ja (zK.mk m.Prime (D:Int) (wM m.Prime D m.zR (w.drop q) (idM D))):=fun q hq=>
  zI9 hD (by omega) (fun a ha=>hw a (Jbr ha)) (by rw[Jz];omega)
 have pw:swp x (w.drop t)=jb→r.2.1=w.drop (t+yH x (w.getD t 0))∧t+yH x (w.getD t 0)≤w.length:=fun mj=>by
  unfold hdS at hr;rw[mj]at hr;simp only at hr;rw[hd]at hr;simp only[pws]at hr;split at hr
  ·rename_i g
   have eG:=zB9 g;rw[←hd,Jz]at eG;cases hr;exact⟨by rw[←hd,Jc4],by omega⟩
  ·cases hr
 unfold f_k;rw[zG3 h hn hw (by omega) ht hr,bs,zCR h hn hw (by omega) ht hr,bs,gj,zC (by omega) (by omega),bs]
 by_cases g:t+1<w.length
 ·have pV:=qP g
  have hb:=gx _ g;rw[je (by omega),zI,tU ht,bs,bs,show(t:Int)+1=((t+1:Nat):Int)from by omega,tU g,bs]
  by_cases g2:w.getD (t+1) 0<w.getD t 0
  ·rw[hd,pV]at hr
   unfold hdS at hr;simp only[swp]at hr;rw[if_pos g2]at hr;cases hr;rw[je (by omega),zI,zC (by omega) (by omega),bs,show(t:Int)+2=((t+2:Nat):Int)from by omega,gI _ (by omega),bs,t7 _ (by omega),bs,zFY hD.p h3 (by omega) hs i9 (hA _) (.inr (.inr rfl)),bs]
  ·obtain⟨e1,e2⟩:=pw (by rw[hd,pV];simp only[swp];rw[if_neg g2])
   rw[jf (by omega),zN,bs,a1,zC (by omega) (by omega),bs,o1,bs,a2,zC (by omega) (by omega),bs,gI _ e2,bs,t7 _ e2,bs,zFY hD.p h3 (by omega) hs i9 (hA _) (.inr (.inl rfl)),bs,e1]
 ·obtain⟨e1,e2⟩:=pw (by rw[hd,Hb (by omega)];rfl)
  rw[jf (by omega),zN,tU ht,bs,a1,zC (by omega) (by omega),bs,o1,bs,a2,zC (by omega) (by omega),bs,gI _ e2,bs,t7 _ e2,bs,zFY hD.p h3 (by omega) hs i9 (hA _) (.inl rfl),bs,e1]
end
end Go.Pl

namespace Go.Pl
open Go Go.Ab Go.Wk Go.Pc
inductive Cb (x:SPr) (M:Nat):List Nat→Trc→List Nat→Prop where
 |refl (w:List Nat) (hl:w.length≤M) (hw:∀a∈w,a<x.zA.length):Cb x M w [] w
 |step {w w1 w' s:List Nat}{r:Nat}{tr:Trc} (hl:w.length≤M) (hw:∀a∈w,a<x.zA.length) (hs:stS x w=ja (r,s,w1)) (h:Cb x M w1 tr w'):Cb x M w ((r,s)::tr) w'
theorem Cb.st{x:SPr}{M:Nat}{w w':List Nat}{tr:Trc}(h:Cb x M w tr w'):w.length≤M∧ ∀a∈w,a<x.zA.length:=by
 cases h with
 |refl _ hl hw=>exact⟨hl,hw⟩
 |step hl hw _ _=>exact⟨hl,hw⟩
def zD3(m:zG)(D:Nat)(s:Int):(Nat→Nat→Nat→Int)→Trc→Nat→Nat→Nat→Int
 |F,[]=>F
 |F,(r,z)::tr=>zD3 m D s (upd F s r (wM m.Prime D m.zR z (idM D)) D) tr
theorem zK3{m:zG}{D:Nat}{s:Int}{r i j:Nat}(hi:i<D):∀(tr:Trc)(F:Nat→Nat→Nat→Int),zD3 m D s F tr r i j=F r i j+s*zBe m.Prime D m tr r i j
 | [],F=>by rw[zD3,zBe,Le,Hd]
 |(q,z)::tr,F=>by
  rw[zD3,zK3 hi tr,upd,zBe,Jac,Jc9]
  congr 2
  by_cases g:q=r
  ·rw[if_pos g,if_pos ⟨g.symm,hi⟩]
  ·rw[if_neg g,if_neg fun z=>g z.1.symm,Le]
abbrev zNP(x:SPr)(w:List Nat):Int:=match stI x w with
 |some z=>(z.1:Int)
 |none=> -1
section
variable {x:SPr}{m:zG}{D:Nat} (h:Pres x) (hn:x.zA.length≤6) (hD:MOk x.zA.length m D)
 include h hn hD
theorem zK4{s:Int}(hs:-7≤s∧s≤7){w w':List Nat}{tr:Trc}(hc:Cb x 60000 w tr w')(eC:stS x w'=jb):∀F:Nat→Nat→Nat→Int,
  zH (zRa s) (x,m,smx m.Prime D (base x.zA.length x.zA.length) F,enW w,zNP x w)=ja (x,m,smx m.Prime D (base x.zA.length x.zA.length) (zD3 m D s F tr)):=by
 induction hc with
 |refl w hl hw=>
  intro F;have e:zNP x w= -1:=by
   rw[zK2]at eC;unfold zNP;cases g:stI x w with
   |none=>rfl
   |some z=>rw[g]at eC;cases eC
  rw[wA,e];unfold zRa;simp only
  rw[je (by omega),zI];rfl
 |step hl hw gB hc ih=>
  rename_i w w1 w2 z r tr;intro F;rw[zK2]at gB;cases g:stI x w with
  |none=>rw[g]at gB;cases gB
  |some q=>
   rw[g]at gB;obtain⟨t,q⟩:=q;simp only[Hk,L8.injEq,Jb2.injEq]at gB;obtain⟨e1,e2,e3⟩:=gB;obtain⟨ht,hh⟩:=zP5 g;simp only at ht hh;have p8:=hc.st;have e:zNP x w=(t:Int):=by unfold zNP;rw[g]
   have h1:=zFZ h hn hD hw hl ht hh hs (F:=F);rw[e3,e1,e2]at h1;have h2:=zBA h p8.2 (by omega);rw[wA,e];have hb:zRa s (x,m,smx m.Prime D (base x.zA.length x.zA.length) F,enW w,(t:Int))=ja (.inl (x,m,smx m.Prime D (base x.zA.length x.zA.length) (upd F s r (wM m.Prime D m.zR z (idM D)) D),enW w1,zNP x w1)):=by
    unfold zRa;simp only
    rw[jf (by omega),zN];refine(congrArg (fun o=>Gj o _) h1).trans ?_;rw[bs];simp only
    rw[h2,bs]
    try rfl
   rw[hb];simp only
   exact ih eC _
theorem zFg{s:Int}(hs:-7≤s∧s≤7){w w':List Nat}{tr:Trc}(hc:Cb x 60000 w tr w')(eC:stS x w'=jb)(F:Nat→Nat→Nat→Int):
  f_r ⟨x,m,smx m.Prime D (base x.zA.length x.zA.length) F⟩ (enW w) s=ja ⟨x,m,smx m.Prime D (base x.zA.length x.zA.length) (zD3 m D s F tr)⟩:=by
 have p8:=hc.st;unfold f_r;rw[show f_P (xR.p ⟨x,m,smx m.Prime D (base x.zA.length x.zA.length) F⟩) (enW w)=ja (zNP x w)from zBA h p8.2 (by omega),bs];have:=zK4 h hn hD hs hc eC F;refine(congrArg (fun o=>Gj o _) this).trans ?_;rw[bs]
end
end Go.Pl

namespace Go.Pl
open Go Go.Ab Go.Wk Go.Pc
inductive Cl (x:SPr) (k M:Nat):List Nat→Trc→List Nat→Prop where
 |refl (w:List Nat) (hl:w.length≤M) (hw:∀a∈w,k≤a∧a<x.zA.length):Cl x k M w [] w
 |step {w w1 w' s:List Nat}{r:Nat}{tr:Trc} (hl:w.length≤M) (hw:∀a∈w,k≤a∧a<x.zA.length) (hs:stS x w=ja (r,s,w1)) (h:Cl x k M w1 tr w'):Cl x k M w ((r,s)::tr) w'
theorem Cl.trans{x:SPr}{k M:Nat}{w w1 w2:List Nat}{t1 t2:Trc}(h:Cl x k M w t1 w1)(h2:Cl x k M w1 t2 w2):Cl x k M w (t1++t2) w2:=by
 induction h with
 |refl w=>exact h2
 |step hl hw hs _ ih=>exact .step hl hw hs (ih h2)
theorem Cl.mono{x:SPr}{k M M2:Nat}(hM:M≤M2){w w':List Nat}{tr:Trc}(h:Cl x k M w tr w'):Cl x k M2 w tr w':=by
 induction h with
 |refl w hl hw=>exact .refl _ (by omega) hw
 |step hl hw hs _ ih=>exact .step (by omega) hw hs ih
theorem Cl.cb{x:SPr}{k M:Nat}{w w':List Nat}{tr:Trc}(h:Cl x k M w tr w'):Cb x M w tr w':=by
 induction h with
 |refl w hl hw=>exact .refl _ hl fun a ha=>(hw a ha).2
 |step hl hw hs _ ih=>exact .step hl (fun a ha=>(hw a ha).2) hs ih
theorem Cl.col{x:SPr}{k M:Nat}{w w':List Nat}{tr:Trc}(h:Cl x k M w tr w'):Col x k w tr w':=by
 induction h with
 |refl w hl hw=>exact .refl _
 |step hl hw hs _ ih=>exact .step hw hs ih
section
variable {x:SPr} (h:Pres x)
 include h
theorem zP6:∀(d k:Nat),k+d=x.zA.length→ ∀y,V (suf x k) y→(nw k y).length≤6*d
 |0,k,hk,y,hy=>by
  rw[vV (x:=x) (k:=k) (by omega)]at hy;cases y with
  |nil=>simp[nw]
  |cons b y=>cases hy
 |d+1,k,hk,y,hy=>by
  have hp:=(h.os.2 k (by omega)).pos;rw[yG (x:=x) (by omega)]at hy;cases y with
  |nil=>exact hy.elim
  |cons b y=>
   obtain⟨⟨h1,h2⟩,h3⟩:=hy;have ih:=zP6 d (k+1) (by omega) y h3;have fY:b<at0 x.zA k:=h2;simp only[nw,J5,Jh];omega
theorem Cl.ctx{i a M:Nat}(hi:i<x.zA.length)(ha:a<yH x i){s:List Nat}(hs:∀b∈s,i≤b∧b<x.zA.length){w w':List Nat}{tr:Trc}(hc:Cl x (i+1) M w tr w'):
  Cl x i (a+M+s.length) (J1 a i++(w++s)) (tr.map fun q=>(q.1,q.2++s)) (J1 a i++(w'++s)):=by
 have mem:∀{w:List Nat},(∀b∈w,i+1≤b∧b<x.zA.length)→ ∀b∈J1 a i++(w++s),i≤b∧b<x.zA.length:=fun hw b hb=>by
  simp only[Jj]at hb;rcases hb with hb|hb|hb
  ·have:=Jt hb;omega
  ·have:=hw b hb;omega
  ·exact hs b hb
 induction hc with
 |refl w hl hw=>exact .refl _ (by simp;omega) (mem hw)
 | @step w w1 w' s1 r tr hl hw gB _ ih=>
  refine .step (by simp;omega) (mem hw) ?_ ih;rw[zEn ha a (Jo _) fun b hb=>?_,zKq (fun b hb=>zKt h (hw b hb).2) gB]
  ·rfl
  ·cases w with
   |nil=>cases gB
   |cons c w=>
    simp only[Jp,U1,L8.injEq]at hb;have:=hw c (by simp);omega
theorem zK5(hn:x.zA.length≤6){i j:Nat}(hi:i<j)(hj:j<x.zA.length):(nw 0 (lcj x i j)).length≤36:=(zIw h hn (uB h hi hj).1).2
theorem zP7(hn:x.zA.length≤6){i:Nat}:∀{ur:List Nat},(∀b∈ur,i+1≤b∧b<x.zA.length)→(cwd x i ur).length≤36*ur.length
 | [],_=>by simp[cwd]
 |l::ur,hu=>by
  have h1:=hu l (by simp);have h2:=zK5 h hn (show i<l by omega) h1.2;have ih:=zP7 hn (ur:=ur) fun b hb=>hu b (by simp[hb])
  simp only[cwd,J5,J6];omega
theorem Cl.move(hn6:x.zA.length≤6){i a:Nat}(hi:i<x.zA.length)(ha:a<yH x i):∀{ur:List Nat},(∀b∈ur,i+1≤b∧b<x.zA.length)→stS x ur.reverse=jb→ ∀{z:List Nat},(∀b∈z,i≤b∧b<x.zA.length)→
  Cl x i (a+1+37*ur.length+z.length) (J1 a i++(ur.reverse++i::z)) (mtr x i ur z) (J1 (a+1) i++(cwd x i ur++z))
 | [],_,_,z,hz=>by
  have e:J1 a i++(([]:List Nat).reverse++i::z)=J1 (a+1) i++(cwd x i []++z):=by rw[H6];simp[cwd]
  rw[e];refine .refl _ (by simp[cwd]) fun b hb=>?_
  simp only[Jj,cwd,Ji]at hb;rcases hb with hb|hb
  ·have:=Jt hb;omega
  ·exact hz b hb
 |l::ur,hu,hn,z,hz=>by
  obtain⟨l1,l2⟩:=hu l (by simp);have eY:∀b∈ur,i+1≤b∧b<x.zA.length:=fun b hb=>hu b (by simp[hb])
  have fK:=tT h (uB h (show i<l by omega) l2) hi;have bL:=zK5 h hn6 (show i<l by omega) l2;rw[H2]at hn ⊢
  have bG:=zGu (fun b hb=>zKt h (eY b (by simpa using hb)).2) hn;have eS:∀b∈nw 0 (lcj x i l)++z,i≤b∧b<x.zA.length:=fun b hb=>by
   simp only[Jj]at hb;rcases hb with hb|hb
   ·have:=fK.2 b hb;omega
   ·exact hz b hb
  have ih:=(Cl.move hn6 hi ha eY bG eS).mono (M2:=a+1+37*(l::ur).length+z.length) (by rw[J5,J6];omega);rw[show cwd x i (l::ur)++z=cwd x i ur++(nw 0 (lcj x i l)++z)from by simp[cwd]];have e1:ur.reverse++[l]++i::z=ur.reverse++l::i::z:=by simp
  rw[e1];refine .step (by simp;omega) (fun b hb=>?_) ?_ ih
  ·simp only[Jj,Jc,Qw]at hb
   rcases hb with hb|hb|hb|hb|hb
   ·have:=Jt hb;omega
   ·have:=eY b hb;omega
   ·omega
   ·omega
   ·exact hz b hb
  ·rw[zEn ha a (Jo _) fun b hb=>?_,zSL (fun b hb=>by have:=eY b (by simpa using hb);omega) (by omega) hn]
   ·rfl
   ·have:b∈ur.reverse++l::i::z:=Jbj (by rw[hb];rfl)
    cases e:ur.reverse with
    |nil=>rw[e]at hb;simp only[Ji,U1,L8.injEq]at hb;omega
    |cons c t=>
     rw[e]at hb;simp only[Jp,U1,L8.injEq]at hb;have:=eY c (by rw[←Qw,e];simp);omega
end
end Go.Pl

namespace Go.Pl
open Go Go.Ab Go.Wk Go.Pc
section
variable {x:SPr} (h:Pres x) (hn:x.zA.length≤6)
 include h hn
theorem zK6{k M W L:Nat}(hk:k<x.zA.length)(P:∀v:List Nat,v.length≤W→(∀a∈v,k+1≤a∧a<x.zA.length)→ ∃tr y,Cl x (k+1) M v tr (nw (k+1) y)∧V (suf x (k+1)) y):∀(z:List Nat),z.length≤L→(∀a∈z,k≤a∧a<x.zA.length)→ ∀(a:Nat),a<yH x k→ ∀(v:List Nat),v.length+z.length≤W→1400+z.length≤W→(∀a∈v,k+1≤a∧a<x.zA.length)→
  ∃tr y,Cl x k (M+L+1500) (J1 a k++(v++z)) tr (nw k y)∧V (suf x k) y
 | [],_,_,a,ha,v,cR,_,hv=>by
  obtain⟨tr,y,c1,c2⟩:=P v (by simpa using cR) hv;have ho:=(qX h hk).2.2;have hc:=(Cl.ctx h hk ha (s:=[]) (fun b hb=>by simp at hb) c1).mono (M2:=M+L+1500) (by simp;omega);rw[show(fun q:Nat×List Nat=>(q.1,q.2++[]))=id from by funext q;simp,List.map_id,J9,J9]at hc;refine⟨tr,(a:Int)::y,?_,?_⟩
  ·simp only[nw,Je];rw[J9];exact hc
  ·rw[yG hk]
   refine⟨⟨by omega,?_⟩,c2⟩;show(a:Int)<at0 x.zA k;have:a<(at0 x.zA k).toNat:=ha;omega
 |l::z,m7,hz,a,ha,v,cR,hW,hv=>by
  have ho:=(qX h hk).2.2;have hzl2:z.length+1≤L:=by simpa using m7
  have mg:v.length+(z.length+1)≤W:=by simpa using cR
  have hW2:1400+(z.length+1)≤W:=by simpa using hW
  have eS:∀b∈z,k≤b∧b<x.zA.length:=fun b hb=>hz b (by simp[hb])
  obtain⟨l1,l2⟩:=hz l (by simp);rcases Jk k l with g|g
  ·obtain⟨tr,y,c1,c2⟩:=zK6 (L:=L) hk P z (by omega) eS a ha (v++[l]) (by simp;omega) (by omega) (fun b hb=>by
    simp only[Jj,List.mem_singleton]at hb;rcases hb with hb|rfl
    ·exact hv b hb
    ·omega)
   exact⟨tr,y,by rw[Ja]at c1;exact c1,c2⟩
  ·obtain rfl:l=k:=by omega
   obtain⟨tr1,y1,c1,c2⟩:=P v (by omega) hv;have gJ:=zPv h (show l+1≤x.zA.length by omega) c2;have p7:∀b∈(nw (l+1) y1).reverse,l+1≤b∧b<x.zA.length:=fun b hb=>gJ b (by simpa using hb)
   have fy:(nw (l+1) y1).length≤36:=by have:=zP6 h (x.zA.length-(l+1)) (l+1) (by omega) y1 c2;omega
   have gG:(cwd x l (nw (l+1) y1).reverse).length≤1296:=by have:=zP7 h hn p7;rw[Jb4]at this;omega
   have k1:=(Cl.ctx h hk ha (s:=l::z) hz c1).mono (M2:=M+L+1500) (by simp;omega);have k2:=(Cl.move h hn hk ha p7 (by rw[Ks];exact zFW h _ _ (by omega:l+1+(x.zA.length-(l+1))=x.zA.length) y1 c2) eS).mono (M2:=M+L+1500) (by rw[Jb4];omega);rw[Ks]at k2;have ph:=zKu h p7;rcases Jk (a+1) (yH x l)with g2|g2
   ·obtain⟨tr2,y2,d1,d2⟩:=zK6 (L:=L) hk P z (by omega) eS (a+1) g2 (cwd x l (nw (l+1) y1).reverse) (by omega) (by omega) ph
    exact⟨_,y2,k1.trans (k2.trans d1),d2⟩
   ·have g4:a+1=yH x l:=by omega
    have pg:=qT h hk;have pO:=tT h pg hk;have pI:=(zIw h hn pg.1).2;have dB:∀b∈nw 0 (x.zT.getD l [])++cwd x l (nw (l+1) y1).reverse,l+1≤b∧b<x.zA.length:=fun b hb=>by
     simp only[Jj]at hb;rcases hb with hb|hb
     ·exact pO.2 b hb
     ·exact ph b hb
    obtain⟨tr2,y2,d1,d2⟩:=zK6 (L:=L) hk P z (by omega) eS 0 (by omega) _ (by rw[J5];omega) (by omega) dB;rw[Hh,Ji,Ja]at d1;have k3:Cl x l (M+L+1500) (J1 (a+1) l++(cwd x l (nw (l+1) y1).reverse++z)) ((l,cwd x l (nw (l+1) y1).reverse++z)::tr2) (nw l y2):=by
     refine .step (by rw[J5,J5,Jh];omega) (fun b hb=>?_) (by rw[g4];exact zWA (zKt h hk) _) d1;simp only[Jj]at hb;rcases hb with hb|hb|hb
     ·have:=Jt hb;omega
     ·have:=ph b hb;omega
     ·exact eS b hb
    exact⟨_,y2,k1.trans (k2.trans k3),d2⟩
def lnB:Nat→Nat→Nat
 |0,l=>l
 |d+1,l=>lnB d (l+1400)+l+1500
theorem zWQ:∀(d k:Nat),k+d=x.zA.length→ ∀(L:Nat)(z:List Nat),z.length≤L→(∀a∈z,k≤a∧a<x.zA.length)→ ∃tr y,Cl x k (lnB d L) z tr (nw k y)∧V (suf x k) y
 |0,k,hk,L,z,_,hz=>by
  have:z=[]:=by
   cases z with
   |nil=>rfl
   |cons a z=>have:=hz a (by simp);omega
  subst this;exact⟨[],[],.refl _ (by simp) (by simp),by rw[vV (x:=x) (k:=k) (by omega)];rfl⟩
 |d+1,k,hk,L,z,hl,hz=>by have ho:=zKt h (show k<x.zA.length by omega);obtain⟨tr,y,c1,c2⟩:=zK6 h hn (M:=lnB d (L+1400)) (W:=L+1400) (L:=L) (show k<x.zA.length by omega) (fun v hv hvm=>zWQ d (k+1) (by omega) (L+1400) v hv hvm) z hl hz 0 (by omega) [] (by simp;omega) (by omega) (fun b hb=>by simp at hb);exact⟨tr,y,by simpa[lnB]using c1,c2⟩
theorem zP8{k L:Nat}(hk:k≤x.zA.length){z:List Nat}(hl:z.length≤L){tr:Trc}{y:Vec}(hc:qJ x k z tr y)(hz:∀a∈z,k≤a∧a<x.zA.length):Cb x (lnB (x.zA.length-k) L) z tr (nw k y)∧stS x (nw k y)=jb:=by obtain⟨tr2,y2,c1,c2⟩:=zWQ h hn (x.zA.length-k) k (by omega) L z hl hz;have n1:=zFW h (x.zA.length-k) k (by omega) y hc.v;have n2:=zFW h (x.zA.length-k) k (by omega) y2 c2;obtain⟨e1,e2⟩:=Col.det hc.col c1.col n1 n2;rw[e1,e2];exact⟨c1.cb,n2⟩
end
theorem zYv:∀d:Nat,d<7→lnB d 100≤60000:=by decide
end Go.Pl

namespace Go.Pl
open Go Go.Ab Go.Wk Go.Pc
structure PD.Ok (x:SPr) (d:PD):Prop where
 h1:hdS x (d.wd.drop 0)=ja (d.r1,d.s1,d.w1)
 ht:d.t<d.wd.length
 h2:∃q,hdS x (d.wd.drop d.t)=ja (d.r2,d.s2,q)∧d.w2=d.wd.take d.t++q
 l:d.wd.length≤9
 l1:d.w1.length≤100
 l2:d.w2.length≤100
 m1:∀a∈d.w1,d.k≤a∧a<x.zA.length
 m2:∀a∈d.w2,d.k≤a∧a<x.zA.length
section
variable {x:SPr} (h:Pres x) (hn:x.zA.length≤6)
 include h hn
theorem zP9{a b:Nat}{s:List Nat}(ac:b<a):hdS x (a::b::s)=ja (base x.zA.length b+(a-(b+1)),s,b::(nw 0 (lcj x b a)++s)):=by have _:=h;have _:=hn;unfold hdS;simp only[swp];rw[if_pos ac]
theorem zPA{a:Nat}{s:List Nat}(ha:a<x.zA.length):hdS x (J1 (yH x a) a++s)=ja (a,s,nw 0 (x.zT.getD a [])++s):=by
 have _:=hn;obtain⟨q,hq⟩:∃q,yH x a=q+2:=⟨yH x a-2,by have:=(qX h ha).2.1;omega⟩;have e:swp x (J1 (yH x a) a++s)=jb:=by rw[hq,Jq,Jq];simp only[Jp,swp];rw[if_neg (Jc5 a)]
 unfold hdS;rw[e];have e2:J1 (yH x a) a++s=a::(J1 (q+1) a++s):=by rw[hq,Jq];rfl
 have e3:(J1 (yH x a) a++s).take (yH x a)=J1 (yH x a) a:=Jn (Jh);have e4:(J1 (yH x a) a++s).drop (yH x a)=s:=K5 (Jh);rw[e2]at e3 e4;rw[e2];simp only[pws];rw[if_pos e3,e4]
theorem zK7:∀d∈cps x,d.Ok x:=by
 have eg:∀i j,i<j→j<x.zA.length→ ∀a∈nw 0 (lcj x i j),i+1≤a∧a<x.zA.length:=fun i j hi hj=>(tT h (uB h hi hj) (by omega)).2
 have eu:∀i,i<x.zA.length→ ∀a∈nw 0 (x.zT.getD i []),i+1≤a∧a<x.zA.length:=fun i hi=>(tT h (qT h hi) hi).2
 have lcon:∀i j,i<j→j<x.zA.length→(nw 0 (lcj x i j)).length≤36:=fun i j hi hj=>zK5 h hn hi hj
 have lpow:∀i,i<x.zA.length→(nw 0 (x.zT.getD i [])).length≤36:=fun i hi=>(zIw h hn (qT h hi).1).2
 have od:∀i,i<x.zA.length→2≤yH x i∧yH x i≤7:=fun i hi=>(qX h hi).2
 refine zAT.2 ⟨fun i j k h1 h2 h3=>?_,fun i j h1 h2=>?_,fun i j h1 h2=>?_,fun i h1=>?_⟩
 ·have c1:=lcon j k h2 h3
  have c2:=lcon i j h1 (by omega);refine⟨zP9 h hn h2,by simp[pd2],⟨i::(nw 0 (lcj x i j)++[]),zP9 h hn h1,by simp[pd2]⟩,by simp[pd2],by simp only[pd2,J6,J5,Ju];omega,by simp only[pd2,J6];omega,fun a ha=>?_,fun a ha=>?_⟩
  ·simp only[pd2,Jc,Jj,Jb7,or_false]at ha ⊢
   rcases ha with rfl|ha|rfl
   ·omega
   ·have:=eg j k (by omega) h3 a ha;omega
   ·omega
  ·simp only[pd2,Jc]at ha ⊢
   rcases ha with rfl|rfl|ha
   ·omega
   ·omega
   ·have:=eg i j (by omega) (by omega) a ha;omega
 ·have c1:=lpow j h2
  have c2:=lcon i j h1 h2;have o:=od j h2;have e:J1 (yH x j) j++[i]=J1 (yH x j-1) j++[j,i]:=by obtain⟨q,hq⟩:∃q,yH x j=q+1:=⟨yH x j-1,by omega⟩;rw[hq,H6,Jbh,Ja];rfl
  refine⟨zPA h hn h2,by simp only[pd1,J5,Jh,J6,Ju];omega,⟨i::(nw 0 (lcj x i j)++[]),?_,?_⟩,by simp only[pd1,J5,Jh,J6,Ju];omega,by simp only[pd1,J6,J5,Ju];omega,by simp only[pd1,J5,Jh,J6];omega,fun a ha=>?_,fun a ha=>?_⟩
  ·show hdS x ((J1 (yH x j) j++[i]).drop (yH x j-1))=_
   rw[e,K5 (Jh)];exact zP9 h hn h1
  ·show _=(J1 (yH x j) j++[i]).take (yH x j-1)++_
   rw[e,Jn (Jh),J9];rfl
  ·simp only[pd1,Jj,List.mem_singleton]at ha ⊢
   rcases ha with ha|rfl
   ·have:=eu j h2 a ha;omega
   ·omega
  ·simp only[pd1,Jj,Jc]at ha ⊢
   rcases ha with ha|rfl|ha
   ·have:=Jt ha;omega
   ·omega
   ·have:=eg i j h1 h2 a ha;omega
 ·have c1:=lpow i (by omega)
  have c2:=lcon i j h1 h2;have o:=od i (by omega);have e:J1 (yH x i) i=i::J1 (yH x i-1) i:=by obtain⟨q,hq⟩:∃q,yH x i=q+1:=⟨yH x i-1,by omega⟩;rw[hq,Jq,Jbh]
  refine⟨?_,by simp only[pd4,Jh,J6];omega,⟨nw 0 (x.zT.getD i [])++[],?_,by simp[pd4]⟩,by simp only[pd4,Jh,J6];omega,by simp only[pd4,J6,J5,Jh];omega,by simp only[pd4,J6];omega,fun a ha=>?_,fun a ha=>?_⟩
  ·show hdS x (j::J1 (yH x i) i)=_
   rw[e];exact zP9 h hn h1
  ·show hdS x (J1 (yH x i) i)=_
   have:=zPA h hn (s:=[]) (show i<x.zA.length by omega);rw[J9]at this;exact this
  ·simp only[pd4,Jc,Jj]at ha ⊢
   rcases ha with rfl|ha|ha
   ·omega
   ·have:=eg i j h1 h2 a ha;omega
   ·have:=Jt ha;omega
  ·simp only[pd4,Jc]at ha ⊢
   rcases ha with rfl|ha
   ·omega
   ·have:=eu i (by omega) a ha;omega
 ·have c1:=lpow i h1
  have o:=od i h1;refine⟨?_,by simp only[pd3,Jh];omega,⟨nw 0 (x.zT.getD i [])++[],?_,?_⟩,by simp only[pd3,Jh];omega,by simp only[pd3,J6,J5,Ju];omega,by simp only[pd3,J6];omega,fun a ha=>?_,fun a ha=>?_⟩
  ·show hdS x (J1 (yH x i+1) i)=_
   rw[H6];exact zPA h hn h1
  ·show hdS x ((J1 (yH x i+1) i).drop 1)=_
   rw[Jq,List.drop_succ_cons,Gb];have:=zPA h hn (s:=[]) h1;rw[J9]at this;exact this
  ·show i::nw 0 (x.zT.getD i [])=(J1 (yH x i+1) i).take 1++_
   rw[Jq,J9];rfl
  ·simp only[pd3,Jj,List.mem_singleton]at ha ⊢
   rcases ha with ha|rfl
   ·have:=eu i h1 a ha;omega
   ·omega
  ·simp only[pd3,Jc]at ha ⊢
   rcases ha with rfl|ha
   ·omega
   ·have:=eu i h1 a ha;omega
end
end Go.Pl

namespace Go.Pl
open Go Go.Ab Go.Wk Go.Pc
section
variable {x:SPr}{m:zG}{D:Nat} (h:Pres x) (hn:x.zA.length≤6) (hD:MOk x.zA.length m D)
 include h hn hD
theorem zQ0{d:PD}(hd:d∈cps x){t1 t2:Trc}(hb:d.B x t1 t2)(F:Nat→Nat→Nat→Int):
  ((f_k ⟨x,m,smx m.Prime D (base x.zA.length x.zA.length) F⟩ (enW d.wd) ((0:Nat):Int) 1).bind fun r=>(f_r r.2 r.1 1).bind fun k2=>(f_k k2 (enW d.wd) (d.t:Int) (-1)).bind fun r3=>f_r r3.2 r3.1 (-1))=
   ja ⟨x,m,smx m.Prime D (base x.zA.length x.zA.length) (zD3 m D (-1) (zD3 m D 1 F t1) t2)⟩:=by
 have ok:=zK7 h hn d hd;obtain⟨hk,mZ,_⟩:=zGL h hn d hd;obtain⟨⟨u1,y1,rfl,k1⟩,⟨u2,y2,rfl,k2⟩⟩:=hb;obtain⟨q,q1,q2⟩:=ok.h2;have hl:=ok.l;have ht:=ok.ht;obtain⟨c1,n1⟩:=zP8 h hn (by omega) ok.l1 k1 ok.m1;obtain⟨c2,n2⟩:=zP8 h hn (by omega) ok.l2 k2 ok.m2;have up:∀{w w':List Nat}{tr:Trc},Cb x (lnB (x.zA.length-d.k) 100) w tr w'→Cb x 60000 w tr w':=fun{w w' tr} hc=>by
  have hM:=zYv (x.zA.length-d.k) (by omega)
  generalize lnB (x.zA.length-d.k) 100=M at hc hM
  induction hc with
  |refl w hl hw=>exact .refl _ (by omega) hw
  |step hl hw hs _ ih=>exact .step (by omega) hw hs ih
 rw[zFZ h hn hD mZ (by omega) (by omega) ok.h1 (s:=1) (by omega) (F:=F),bs];simp only[K7,Ji];rw[zFg h hn hD (by omega) (up c1) n1,bs,zFZ h hn hD mZ (by omega) ht q1 (s:=-1) (by omega),bs];simp only
 rw[←q2,zFg h hn hD (by omega) (up c2) n2];rfl
end
theorem zTf{p:Int}{m:zG}{D r i:Nat}(hi:i<D){t1 t2:Trc}(hp:m.Prime=p):(mkv D fun j=>zD3 m D (-1) (zD3 m D 1 (fun _ _ _=>0) t1) t2 r i j%m.Prime)=prR p D m t1 t2 (r*D+i):=by
 subst hp;have e:=sL (q:=r) hi;rw[prR,e.1,e.2];refine zX fun j _=>?_
 rw[zK3 hi,zK3 hi]
 congr 1
 omega
end Go.Pl

namespace Go.Pl
open Go Go.Ab Go.Wk Go.Pc
theorem uY{α β:Type}{f:α→List β}{c:Nat}(hf:∀a,(f a).length≤c):∀l:List α,(l.flatMap f).length≤l.length*c
 | []=>by simp
 |a::l=>by have:=uY hf l;have:=hf a;rw[Ln,J5,J6,Jy];omega
theorem zGM{x:SPr}(hn:x.zA.length≤6):(cps x).length≤300:=by
 have hu:∀i,(ups x.zA.length i).length≤6:=fun i=>by rw[ups,Q7];omega
 have h1:=uY (c:=36) (f:=fun i=>(ups x.zA.length i).flatMap fun j=>(ups x.zA.length j).map fun k=>pd2 x i j k) (fun i=>by have:=uY (c:=6) (f:=fun j=>(ups x.zA.length j).map fun k=>pd2 x i j k) (fun j=>by rw[Jd];exact hu j) (ups x.zA.length i);have:=hu i;omega) (Jl x.zA.length)
 have h2:=uY (c:=6) (f:=fun i=>(ups x.zA.length i).map fun j=>pd1 x i j) (fun i=>by rw[Jd];exact hu i) (Jl x.zA.length);have h3:=uY (c:=6) (f:=fun i=>(ups x.zA.length i).map fun j=>pd4 x i j) (fun i=>by rw[Jd];exact hu i) (Jl x.zA.length);rw[Ky]at h1 h2 h3;rw[cps,J5,J5,J5,Jd,Ky];omega
section
variable {x:SPr}{m:zG}{D:Nat} (hx:zCC x) (hD:MOk x.zA.length m D)
 include hx hD
theorem zMq(h0:0<x.zA.length)(hc:wR (suf x 0))(hr:zFK x m D){prs:List (Trc×Trc)}(hq:tX x (cps x) prs):∃K,f_m x m=ja K∧
  f_G m.Prime (gl (base x.zA.length x.zA.length*D) fun k=>kZ m.Prime D m prs k) ((prs.length*D:Nat):Int)=ja K:=by
 have h6:=hx.n6;have hp:=hD.p.pos;have hb:=vK x.zA.length (by omega);have h3:=hD.d3;have hB:base x.zA.length x.zA.length*D≤21*3:=K6 hb.2.1 h3;have hql:prs.length≤300:=by rw[←hq.len];exact zGM h6
 have hqD:prs.length*D≤300*3:=K6 hql h3;obtain⟨K,pk,k1,k2,k3⟩:=zGw hx hD h0 hc hr;obtain⟨K2,pk2,_,j2,j3,j4⟩:=zFP hD.p (c:=prs.length*D) (N:=base x.zA.length x.zA.length*D) (A:=gl (base x.zA.length x.zA.length*D) fun k=>kZ m.Prime D m prs k) (by omega) (fun k hk=>by rw[xU hk];refine⟨zIt prs,fun j hj=>?_⟩;have dx:0<D:=hD.d1;have hi:j/D<prs.length:=(Hp dx).2 hj;have hm:j%D<D:=Gm _ dx;have e:=zFf (F:=fun q:Trc×Trc=>prR m.Prime D m q.1 q.2 k) (fun _=>yB _ _) prs (j/D) (j%D) hi hm;rw[show j/D*D+j%D=j from by rw[H4];exact Ha j D]at e;rw[kZ,e,prR,yE hm];exact⟨L7 _ (show m.Prime≠0 by omega),by have:=Kr (zBe m.Prime D m (prs[j/D]).1 (k/D) (k%D) (j%D)-zBe m.Prime D m (prs[j/D]).2 (k/D) (k%D) (j%D)) (show 0<m.Prime by omega);omega⟩) wC
 have key:∀y,Row m.Prime (base x.zA.length x.zA.length*D) y→(Sp m.Prime (base x.zA.length x.zA.length*D) K y↔Sp m.Prime (base x.zA.length x.zA.length*D) K2 y):=fun y hy=>by rw[k3 y hy,j4 y,zTb hx hD hq hc hr hy]
 have e:K=K2:=Red.unique (by omega) k2 j3 ⟨fun i hi=>(key _ (k2.row i hi)).1 (qI hi),fun i hi=>(key _ (j3.row i hi)).2 (qI hi)⟩;exact⟨K,k1,by rw[e];exact j2⟩
end
end Go.Pl

namespace Go.Pl
open Go Go.Ab Go.Wk Go.Pc
section
variable {x:SPr}{m:zG}{D:Nat} (h0:x.zA.length=0) (hD:MOk x.zA.length m D)
 include h0 hD
theorem zQ1{T:Mx}:f_L ⟨x,m,T⟩=ja []:=by
 have _:=hD;unfold f_L;rw[wA];unfold zQM;simp only
 rw[h0,show decide ((0:Int)<((0:Nat):Int))=jd from rfl,zI];rfl
theorem zNQ:∃K pk,f_m x m=ja K∧f_G m.Prime [] 0=ja K∧Red m.Prime 0 K pk:=by obtain⟨K,pk,k1,k2,k3,_⟩:=zFP hD.p (c:=0) (N:=0) (A:=[]) (by omega) (fun i hi=>absurd hi (Ur i)) rfl;refine⟨K,pk,?_,k2,k3⟩;unfold f_m;have e1:=zIu hD (N:=0) (by omega);have e2:=zJt hD (B:=0) (L:=[]) (by omega) (by simp) (fun r hr=>by cases hr);rw[Hr]at e1;rw[zBV h0 (by omega),bs,hD.d,show base 0 0=0 from rfl,show((0:Nat):Int)*(D:Int)=((0:Nat):Int)from by simp,zC (by omega) (by omega),bs,e1,bs,zQ1 h0 hD,bs,e2,bs,show((([]:Mx).length:Nat):Int)*(D:Int)=((0:Nat):Int)from by simp,zC (by omega) (by omega),bs];rw[show gl 0 (fun k=>zD2 D k [])=([]:Mx)from rfl,k1,bs]
end
end Go.Pl

namespace Go.Pl
open Go Go.Ab Go.Wk Go.Pc
theorem yBj{v:Int}:f_i [v] 4=ja [v,v,v,v]:=by
 unfold f_i;have h:=zW (body:=tL) (r:=[v,v,v,v]) (fun i=>match i with|0=>([v,0,0,0],1)|1=>([v,v,0,0],2)|_=>([v,v,v,v],4)) 2 (fun i hi=>by
  match i,hi with
  |0,_=>simp[tL,yA,xX,rng,inR]
  |1,_=>simp[tL,yA,xX,rng,inR]) (by simp[tL])
 rw[show decide ((4:Int)<0)=jd from rfl,zI,zN3 (by decide+kernel),bs];have hl:yY (IntKind.wrap .i64 4)=ja 4:=by decide+kernel
 simp only[hl,bs];rw[show decide ((0:Int)> 0)=jd from rfl,zI,show decide ((4:Int)> 9223372036854775807)=jd from by decide,zI];have e2:xX (J1 4 (0:Int)) 0 (([v]:List Int).take ((J1 4 (0:Int)).length-0))=[v,0,0,0]:=by simp[xX,J1]
 have e3:((min ([v]:List Int).length ((J1 4 (0:Int)).length-0):Nat):Int)=1:=by simp
 rw[e2,e3];have h':zH tL ([v,0,0,0],1)=_:=h;rw[h',bs]
theorem yBk{v:Int}:f_i [v] 6=ja [v,v,v,v,v,v]:=by
 unfold f_i;have h:=zW (body:=tL) (r:=[v,v,v,v,v,v]) (fun i=>match i with|0=>([v,0,0,0,0,0],1)|1=>([v,v,0,0,0,0],2)|2=>([v,v,v,v,0,0],4)|_=>([v,v,v,v,v,v],6)) 3 (fun i hi=>by
  match i,hi with
  |0,_=>simp[tL,yA,xX,rng,inR]
  |1,_=>simp[tL,yA,xX,rng,inR]
  |2,_=>simp[tL,yA,xX,rng,inR]) (by simp[tL])
 rw[show decide ((6:Int)<0)=jd from rfl,zI,zN3 (by decide+kernel),bs];have hl:yY (IntKind.wrap .i64 6)=ja 6:=by decide+kernel
 simp only[hl,bs];rw[show decide ((0:Int)> 0)=jd from rfl,zI,show decide ((6:Int)> 9223372036854775807)=jd from by decide,zI];have e2:xX (J1 6 (0:Int)) 0 (([v]:List Int).take ((J1 6 (0:Int)).length-0))=[v,0,0,0,0,0]:=by simp[xX,J1]
 have e3:((min ([v]:List Int).length ((J1 6 (0:Int)).length-0):Nat):Int)=1:=by simp
 rw[e2,e3];have h':zH tL ([v,0,0,0,0,0],1)=_:=h;rw[h',bs]
theorem yBl{v:Int}:f_i [v] 8=ja [v,v,v,v,v,v,v,v]:=by
 unfold f_i;have h:=zW (body:=tL) (r:=[v,v,v,v,v,v,v,v]) (fun i=>match i with|0=>([v,0,0,0,0,0,0,0],1)|1=>([v,v,0,0,0,0,0,0],2)|2=>([v,v,v,v,0,0,0,0],4)|_=>([v,v,v,v,v,v,v,v],8)) 3 (fun i hi=>by
  match i,hi with
  |0,_=>simp[tL,yA,xX,rng,inR]
  |1,_=>simp[tL,yA,xX,rng,inR]
  |2,_=>simp[tL,yA,xX,rng,inR]) (by simp[tL])
 rw[show decide ((8:Int)<0)=jd from rfl,zI,zN3 (by decide+kernel),bs];have hl:yY (IntKind.wrap .i64 8)=ja 8:=by decide+kernel
 simp only[hl,bs];rw[show decide ((0:Int)> 0)=jd from rfl,zI,show decide ((8:Int)> 9223372036854775807)=jd from by decide,zI];have e2:xX (J1 8 (0:Int)) 0 (([v]:List Int).take ((J1 8 (0:Int)).length-0))=[v,0,0,0,0,0,0,0]:=by simp[xX,J1]
 have e3:((min ([v]:List Int).length ((J1 8 (0:Int)).length-0):Nat):Int)=1:=by simp
 rw[e2,e3];have h':zH tL ([v,0,0,0,0,0,0,0],1)=_:=h;rw[h',bs]
theorem zAU{β:Type}{body:List β×Int→Option ((List β×Int)⊕List β)}(s n B:Nat)(F:Nat→List β)(a0:List β)(hB:a0.length+((Lb s n).flatMap F).length≤B)
  (h:∀i acc,s≤i→i<s+n→acc.length+(F i).length≤B→body (acc,((i+1:Nat):Int))=ja (.inl (acc++F i,((i+1+1:Nat):Int))))(he:∀acc,body (acc,((s+n+1:Nat):Int))=ja (.inr acc)):
  zH body (a0,((s+1:Nat):Int))=ja (a0++(Lb s n).flatMap F):=by
 have:=zW (body:=body) (r:=a0++(Lb s n).flatMap F) (fun i=>(a0++(Lb s i).flatMap F,((s+i+1:Nat):Int))) n (fun i hi=>by
  have e:(Lb s (i+1)).flatMap F=(Lb s i).flatMap F++F (s+i):=by rw[List.range'_1_concat,Lz,Ln,Jam,J9]
  have p6:((Lb s (i+1)).flatMap F).length≤((Lb s n).flatMap F).length:=by obtain⟨k,rfl⟩:∃k,n=i+1+k:=⟨n-(i+1),by omega⟩;have e3:Lb s (i+1+k)=Lb s (i+1)++Lb (s+(i+1)) k:=List.range'_append_1.symm;rw[e3,Lz,J5];omega
  rw[e,J5]at p6;rw[h (s+i) _ (by omega) (by omega) (by rw[J5];omega),e,Ja];rfl) (he _)
 simpa using this
def CPd(d:PD):zL:=⟨enW d.wd,enW d.w1,enW d.w2⟩
section
variable {x:SPr} (h:Pres x) (hn:x.zA.length≤6)
 include h
theorem zMr{v:Int}{a:Nat}(ha:a<x.zA.length):zMN v ((yH x a:Nat):Int)=ja (J1 (yH x a) v):=by
 have hp:=h.os.2 a ha;have e:=(qX h ha).1;have e2:at0 x.zA a=((yH x a:Nat):Int):=by rw[yP ha]at e;exact L8.inj e
 rw[e2]at hp;unfold zMN;rw[zCM hp,bs,Je]
theorem zQ2{v:Int}{a:Nat}(ha:a<x.zA.length):zMN v (((yH x a+1:Nat)):Int)=ja (J1 (yH x a+1) v):=by
 have hp:=h.os.2 a ha;have e:=(qX h ha).1;have e2:at0 x.zA a=((yH x a:Nat):Int):=by rw[yP ha]at e;exact L8.inj e
 rw[e2]at hp;have:yH x a=2∨yH x a=3∨yH x a=5∨yH x a=7:=by rcases hp with g|g|g|g<;>omega
 unfold zMN;rcases this with g|g|g|g<;>rw[g]
 ·exact(congrArg (fun o=>Gj o _) (zCM (v:=v) (o:=3) (.inr (.inl rfl)))).trans rfl
 ·exact(congrArg (fun o=>Gj o _) (yBj (v:=v))).trans rfl
 ·exact(congrArg (fun o=>Gj o _) (yBk (v:=v))).trans rfl
 ·exact(congrArg (fun o=>Gj o _) (yBl (v:=v))).trans rfl
 include hn
theorem zFh{d:PD}(hd:d∈cps x){out:List zL}(ho:out.length≤100000):f_Q (enW d.wd) (d.t:Int) out x=ja (out++[CPd d]):=by have ok:=zK7 h hn d hd;obtain⟨_,mZ,_⟩:=zGL h hn d hd;obtain⟨q,q1,q2⟩:=ok.h2;have hl:=ok.l;have ht:=ok.ht;unfold f_Q;rw[show(0:Int)=((0:Nat):Int)from rfl,zCR h hn mZ (by omega) (by omega) ok.h1,bs,zCR h hn mZ (by omega) ht q1,bs,yN (by simp only[J6,Ju];omega),bs];simp only[K7,Ji];rw[←q2];rfl
end
end Go.Pl

namespace Go.Pl
open Go Go.Ab Go.Wk Go.Pc
theorem zCc{α β:Type}{f:α→β}:∀l:List α,(l.flatMap fun a=>[f a])=l.map f
 | []=>rfl
 |a::l=>by rw[Ln,zCc l];rfl
theorem zAq{N i:Nat}(hN:N≤6):(ups N i).length≤6:=by rw[ups,Q7];omega
section
variable {x:SPr} (h:Pres x) (hn:x.zA.length≤6)
 include h hn
theorem yAl{i j:Nat}(gP:i<j)(hj:j<x.zA.length){o1 o2 out:List zL}(ho:out.length≤3000):
  zH (zQS x (o1,((i+1:Nat):Int)) (o2,((j+1:Nat):Int))) (out,((j+1+1:Nat):Int))=ja (out++(ups x.zA.length j).map fun k=>CPd (pd2 x i j k)):=by
 have hm:=((zAT (x:=x) (φ:=fun d=>d∈cps x)).1 fun d hd=>hd).1;have hu:=zAq (i:=j) hn;have:=zAU (body:=zQS x (o1,((i+1:Nat):Int)) (o2,((j+1:Nat):Int))) (j+1) (x.zA.length-(j+1)) 4000 (fun k=>[CPd (pd2 x i j k)]) out (by rw[zCc,Jd];rw[ups]at hu;omega) (fun k acc hk1 fg hb=>by
  unfold zQS;simp only
  have e:([((k+1:Nat):Int),((j+1:Nat):Int),((i+1:Nat):Int)])=enW (pd2 x i j k).wd:=by
   show _=enW [k,j,i];simp only[enW,Jv,Ly]
   congr 1
  rw[jf (by omega),zN,e,show(1:Int)=((pd2 x i j k).t:Int)from rfl,zFh h hn (hm i j k gP (by omega) (by omega)) (by simp only[J6,Ju]at hb;omega),bs,show((k+1:Nat):Int)+((pd2 x i j k).t:Int)=((k+1+1:Nat):Int)from rfl,zC (by omega) (by omega),bs]) (fun acc=>by
  unfold zQS;simp only
  rw[je (by omega),zI])
 rw[zCc]at this;exact this
theorem yAm{i:Nat}(hi:i<x.zA.length){o1 out:List zL}(ho:out.length≤2000):
  zH (zQT x (o1,((i+1:Nat):Int))) (out,((i+1+1:Nat):Int))=ja (out++(ups x.zA.length i).flatMap fun j=>(ups x.zA.length j).map fun k=>CPd (pd2 x i j k)):=by
 have hu:=zAq (i:=i) hn;have hf:=uY (c:=6) (f:=fun j=>(ups x.zA.length j).map fun k=>CPd (pd2 x i j k)) (fun j=>by rw[Jd];exact zAq hn) (ups x.zA.length i);have:=zAU (body:=zQT x (o1,((i+1:Nat):Int))) (i+1) (x.zA.length-(i+1)) 3000 (fun j=>(ups x.zA.length j).map fun k=>CPd (pd2 x i j k)) out (by rw[ups]at hu hf;omega) (fun j acc hj1 mc hb=>by
  unfold zQT;simp only
  rw[jf (by omega),zN,show((j+1:Nat):Int)+1=((j+1+1:Nat):Int)from by omega,zC (by omega) (by omega),bs,yAl h hn (by omega) (by omega) (by omega),bs,bs]) (fun acc=>by
  unfold zQT;simp only
  rw[je (by omega),zI])
 exact this
theorem yAn:zH (zQU x) ([],1)=ja ((Jl x.zA.length).flatMap fun i=>(ups x.zA.length i).flatMap fun j=>(ups x.zA.length j).map fun k=>CPd (pd2 x i j k)):=by
 have hf:=uY (c:=36) (f:=fun i=>(ups x.zA.length i).flatMap fun j=>(ups x.zA.length j).map fun k=>CPd (pd2 x i j k)) (fun i=>by have:=uY (c:=6) (f:=fun j=>(ups x.zA.length j).map fun k=>CPd (pd2 x i j k)) (fun j=>by rw[Jd];exact zAq hn) (ups x.zA.length i);have:=zAq (i:=i) hn;omega) (Jl x.zA.length)
 rw[Ky]at hf;have:=zAU (body:=zQU x) 0 x.zA.length 2000 (fun i=>(ups x.zA.length i).flatMap fun j=>(ups x.zA.length j).map fun k=>CPd (pd2 x i j k)) [] (by rw[←Ls];simp only[Ju];omega) (fun i acc db fa hb=>by
  unfold zQU;simp only
  rw[jf (by omega),zN,show((i+1:Nat):Int)+1=((i+1+1:Nat):Int)from by omega,zC (by omega) (by omega),bs,yAm h hn (by omega) (by omega),bs,bs]) (fun acc=>by
  unfold zQU;simp only
  rw[je (by omega),zI])
 rw[←Ls,Ji]at this;exact this
theorem yAo{i:Nat}(hi:i<x.zA.length){o1 out:List zL}(ho:out.length≤3000):
  zH (zQV x (o1,((i+1:Nat):Int))) (out,((i+1+1:Nat):Int))=ja (out++(ups x.zA.length i).map fun j=>CPd (pd1 x i j)):=by
 have hm:=((zAT (x:=x) (φ:=fun d=>d∈cps x)).1 fun d hd=>hd).2.1;have hu:=zAq (i:=i) hn;have:=zAU (body:=zQV x (o1,((i+1:Nat):Int))) (i+1) (x.zA.length-(i+1)) 4000 (fun j=>[CPd (pd1 x i j)]) out (by rw[zCc,Jd];rw[ups]at hu;omega) (fun j acc hj1 mc hb=>by
  have ho:=qX h (show j<x.zA.length by omega);unfold zQV;simp only
  have e:J1 (yH x j) ((j+1:Nat):Int)++[((i+1:Nat):Int)]=enW (pd1 x i j).wd:=by show _=enW (J1 (yH x j) j++[i]);simp only[enW,Kx,Q6,Jv,Ly];rfl
  have et:((yH x j:Nat):Int)-1=((pd1 x i j).t:Int):=by show _=((yH x j-1:Nat):Int);omega
  rw[jf (by omega),zN,show((j+1:Nat):Int)-1=(j:Int)from by omega,zC (n:=(j:Int)) (by omega) (by omega),bs,ho.1,bs,zMr h (by omega),bs,yN (by simp only[Jh,J6,Ju];omega),bs,bs,ho.1,bs,zC (n:=((yH x j:Nat):Int)-1) (by omega) (by omega),bs,e,et,zFh h hn (hm i j (by omega) (by omega)) (by simp only[J6,Ju]at hb;omega),bs,show((j+1:Nat):Int)+1=((j+1+1:Nat):Int)from by omega,zC (by omega) (by omega),bs]) (fun acc=>by
  unfold zQV;simp only
  rw[je (by omega),zI])
 rw[zCc]at this;exact this
theorem yAp{out:List zL}(ho:out.length≤1000):zH (zQW x) (out,1)=ja (out++(Jl x.zA.length).flatMap fun i=>(ups x.zA.length i).map fun j=>CPd (pd1 x i j)):=by
 have hf:=uY (c:=6) (f:=fun i=>(ups x.zA.length i).map fun j=>CPd (pd1 x i j)) (fun i=>by rw[Jd];exact zAq hn) (Jl x.zA.length);rw[Ky]at hf;have:=zAU (body:=zQW x) 0 x.zA.length 2000 (fun i=>(ups x.zA.length i).map fun j=>CPd (pd1 x i j)) out (by rw[←Ls];omega) (fun i acc db fa hb=>by
  unfold zQW;simp only
  rw[jf (by omega),zN,show((i+1:Nat):Int)+1=((i+1+1:Nat):Int)from by omega,zC (by omega) (by omega),bs,yAo h hn (by omega) (by omega),bs,bs]) (fun acc=>by
  unfold zQW;simp only
  rw[je (by omega),zI])
 rw[←Ls]at this;exact this
theorem yAq{i:Nat}(hi:i<x.zA.length){o1 out:List zL}(ho:out.length≤3000):
  zH (zQX x (o1,((i+1:Nat):Int))) (out,((i+1+1:Nat):Int))=ja (out++(ups x.zA.length i).map fun j=>CPd (pd4 x i j)):=by
 have hm:=((zAT (x:=x) (φ:=fun d=>d∈cps x)).1 fun d hd=>hd).2.2.1;have hu:=zAq (i:=i) hn;have ho:=qX h hi;have:=zAU (body:=zQX x (o1,((i+1:Nat):Int))) (i+1) (x.zA.length-(i+1)) 4000 (fun j=>[CPd (pd4 x i j)]) out (by rw[zCc,Jd];rw[ups]at hu;omega) (fun j acc hj1 mc hb=>by
  unfold zQX;simp only
  have e:[((j+1:Nat):Int)]++J1 (yH x i) ((i+1:Nat):Int)=enW (pd4 x i j).wd:=by show _=enW (j::J1 (yH x i) i);simp only[enW,Q6,Jv];rfl
  rw[jf (by omega),zN,show((i+1:Nat):Int)-1=(i:Int)from by omega,zC (n:=(i:Int)) (by omega) (by omega),bs,ho.1,bs,zMr h hi,bs,yN (by simp only[Jh,J6,Ju];omega),bs,e,show(1:Int)=((pd4 x i j).t:Int)from rfl,zFh h hn (hm i j (by omega) (by omega)) (by simp only[J6,Ju]at hb;omega),bs,show((j+1:Nat):Int)+((pd4 x i j).t:Int)=((j+1+1:Nat):Int)from rfl,zC (by omega) (by omega),bs]) (fun acc=>by
  unfold zQX;simp only
  rw[je (by omega),zI])
 rw[zCc]at this;exact this
theorem yAr{out:List zL}(ho:out.length≤1000):zH (zQY x) (out,1)=ja (out++(Jl x.zA.length).flatMap fun i=>(ups x.zA.length i).map fun j=>CPd (pd4 x i j)):=by
 have hf:=uY (c:=6) (f:=fun i=>(ups x.zA.length i).map fun j=>CPd (pd4 x i j)) (fun i=>by rw[Jd];exact zAq hn) (Jl x.zA.length);rw[Ky]at hf;have:=zAU (body:=zQY x) 0 x.zA.length 2000 (fun i=>(ups x.zA.length i).map fun j=>CPd (pd4 x i j)) out (by rw[←Ls];omega) (fun i acc db fa hb=>by
  unfold zQY;simp only
  rw[jf (by omega),zN,show((i+1:Nat):Int)+1=((i+1+1:Nat):Int)from by omega,zC (by omega) (by omega),bs,yAq h hn (by omega) (by omega),bs,bs]) (fun acc=>by
  unfold zQY;simp only
  rw[je (by omega),zI])
 rw[←Ls]at this;exact this
theorem yAs{out:List zL}(ho:out.length≤1000):zH (zQZ x) (out,1)=ja (out++(Jl x.zA.length).map fun i=>CPd (pd3 x i)):=by
 have hm:=((zAT (x:=x) (φ:=fun d=>d∈cps x)).1 fun d hd=>hd).2.2.2;have:=zAU (body:=zQZ x) 0 x.zA.length 2000 (fun i=>[CPd (pd3 x i)]) out (by rw[zCc,Jd,Q7];omega) (fun i acc db fa hb=>by
  have ho:=qX h (show i<x.zA.length by omega);unfold zQZ;simp only
  have e:J1 (yH x i+1) ((i+1:Nat):Int)=enW (pd3 x i).wd:=by show _=enW (J1 (yH x i+1) i);simp only[enW,Q6];rfl
  rw[jf (by omega),zN,show((i+1:Nat):Int)-1=(i:Int)from by omega,zC (n:=(i:Int)) (by omega) (by omega),bs,ho.1,bs,show((yH x i:Nat):Int)+1=((yH x i+1:Nat):Int)from by omega,zC (n:=((yH x i+1:Nat):Int)) (by omega) (by omega),bs,zQ2 h (by omega),bs,e,show(1:Int)=((pd3 x i).t:Int)from rfl,zFh h hn (hm i (by omega)) (by simp only[J6,Ju]at hb;omega),bs,show((i+1:Nat):Int)+((pd3 x i).t:Int)=((i+1+1:Nat):Int)from rfl,zC (by omega) (by omega),bs]) (fun acc=>by
  unfold zQZ;simp only
  rw[je (by omega),zI])
 rw[zCc,←Ls]at this;exact this
theorem zEp:f_e x=ja ((cps x).map CPd):=by
 have hl:=zGM (x:=x) hn;have em:(cps x).map CPd=((Jl x.zA.length).flatMap fun i=>(ups x.zA.length i).flatMap fun j=>(ups x.zA.length j).map fun k=>CPd (pd2 x i j k))++(((Jl x.zA.length).flatMap fun i=>(ups x.zA.length i).map fun j=>CPd (pd1 x i j))++(((Jl x.zA.length).flatMap fun i=>(ups x.zA.length i).map fun j=>CPd (pd4 x i j))++(Jl x.zA.length).map fun i=>CPd (pd3 x i))):=by simp only[cps,Kx,List.map_flatMap,Jbs];rfl
 have d8:((cps x).map CPd).length≤300:=by rw[Jd];exact hl
 rw[em]at d8;simp only[J5]at d8;unfold f_e;rw[yAn h hn,bs,yAp h hn (by omega),bs,yAr h hn (by simp only[J5];omega),bs,yAs h hn (by simp only[J5];omega),bs,em];simp only[Ja]
end
end Go.Pl

namespace Go.Pl
open Go Go.Ab Go.Wk Go.Pc
theorem yBm:zYB=zMO:=rfl
theorem yBn:zYC=zMO:=rfl
theorem tX.get{x:SPr}:{ds:List PD}→{qs:List (Trc×Trc)}→tX x ds qs→ ∀k(h1:k<ds.length)(h2:k<qs.length),(ds[k]).B x (qs[k]).1 (qs[k]).2
 | [],[],_,k,h1,_=>by simp at h1
 |d::ds,q::qs,h,0,_,_=>h.1
 |d::ds,q::qs,h,k+1,h1,h2=>by simpa using tX.get h.2 k (by simpa using h1) (by simpa using h2)
 | [],_::_,h,_,_,_=>by simp[tX]at h
 |_::_,[],h,_,_,_=>by simp[tX]at h
theorem zQ3{p:Int}{D:Nat}{m:zG}{prs:List (Trc×Trc)}{k q:Nat}(hk:k<prs.length):kZ p D m (prs.take (k+1)) q=kZ p D m (prs.take k) q++prR p D m (prs[k]).1 (prs[k]).2 q:=by simp only[kZ];rw[K4 hk,Kx,Qr];simp
section
variable {x:SPr}{m:zG}{D:Nat} (hD:MOk x.zA.length m D)
 include hD
theorem yAt:zH (zRb ⟨m.Prime,(D:Int),idM D⟩) (idM D,0)=ja (gl D fun _=>mkv D fun _=>0):=by
 have h3:=hD.d3;have:=zW (body:=zRb ⟨m.Prime,(D:Int),idM D⟩) (r:=gl D fun _=>mkv D fun _=>0) (fun i=>(gl D fun a=>mkv D fun j=>if j=a then(if a<i then 0 else 1)else 0,(i:Int))) D (fun i hi=>by
  unfold zRb;simp only
  rw[uJ,xD hi,zN,zER hi,bs,yP (by rw[yB];exact hi),bs,zC (by omega) (by omega),bs];simp only[Je];rw[zKi,jF]
  congr 3
  refine zB5 fun a _=>?_
  by_cases e:a=i
  ·subst e
   rw[if_pos rfl];refine zX fun j _=>?_
   by_cases e2:j=a
   ·rw[if_pos e2,if_pos e2,if_pos (by omega)]
   ·rw[if_neg e2,if_neg e2,if_neg e2]
  ·rw[if_neg e]
   refine zX fun j _=>?_
   by_cases e2:j=a
   ·rw[if_pos e2,if_pos e2]
    by_cases e3:a<i
    ·rw[if_pos e3,if_pos (by omega)]
    ·rw[if_neg e3,if_neg (by omega)]
   ·rw[if_neg e2,if_neg e2]) (by
  unfold zRb;simp only
  rw[uJ,xP,zI]
  congr 2
  refine zB5 fun a ha=>zX fun j _=>?_
  rw[if_pos ha];split<;>rfl)
 have e:(gl D fun a=>mkv D fun j=>if j=a then(if a<0 then(0:Int)else 1)else 0)=idM D:=zB5 fun a _=>zX fun j _=>by
  by_cases e2:j=a
  ·rw[if_pos e2,if_pos e2,if_neg (by omega)]
  ·rw[if_neg e2,if_neg e2]
 rw[e]at this;exact this
theorem yAu{N:Nat}(hN:N≤100):zH (zRc m (N:Int)) ([],0)=ja (smx m.Prime D N fun _ _ _=>0):=by
 refine(vJ (body:=zRc m (N:Int)) N (fun _=>zK.mk m.Prime (D:Int) (gl D fun _=>mkv D fun _=>0)) (fun i acc hi ha=>?_) (fun acc=>?_)).trans ?_
 ·unfold zRc
  simp only
  rw[xD hi,zN,hD.d,zBb hD.p (by have:=hD.d3;omega),bs];simp only
  rw[yAt hD,bs,yN (by simp only[J6,Ju];omega),bs,zC (by omega) (by omega),bs];rfl
 ·unfold zRc
  simp only
  rw[xP,zI]
 ·rfl
section
variable {N:Nat}{G:Nat→Nat→Nat→Int}{R:Nat→List Int}
abbrev zDH(p:Int)(D:Nat)(G:Nat→Nat→Nat→Int)(R:Nat→List Int)(k:Nat):List Int:=R k++mkv D fun j=>G (k/D) (k%D) j%p
theorem yAv(hN:N≤100)(hR:∀k,(R k).length≤100000){r:Nat}(hr:r<N){z:Mx}:
  zH (zRd m (z,(r:Int)) ⟨m.Prime,(D:Int),gl D fun i=>mkv D fun j=>G r i j%m.Prime⟩) (gl (N*D) fun k=>if k<r*D then zDH m.Prime D G R k else R k,0)=ja (gl (N*D) fun k=>if k<(r+1)*D then zDH m.Prime D G R k else R k):=by
 have h3:=hD.d3;have h1:=hD.d1;have hb:(r+1)*D≤N*D:=Kl D (by omega);have pX:N*D≤100*3:=K6 hN h3;rw[Jy]at hb;have:=zW (body:=zRd m (z,(r:Int)) ⟨m.Prime,(D:Int),gl D fun i=>mkv D fun j=>G r i j%m.Prime⟩) (r:=gl (N*D) fun k=>if k<(r+1)*D then zDH m.Prime D G R k else R k) (fun i=>(gl (N*D) fun k=>if k<r*D+i then zDH m.Prime D G R k else R k,(i:Int))) D (fun i hi=>by
  obtain⟨e1,e2⟩:=sL (q:=r) hi;unfold zRd;simp only
  rw[wC,xD hi,zN,zER hi,bs,hD.d,←L6,zC (by omega) (by omega),bs,←Gf,zC (by omega) (by omega),bs,zER (show r*D+i<N*D by omega),bs,if_neg (by omega),yN (by rw[yB];have:=hR (r*D+i);omega),bs,zC (by omega) (by omega),bs];simp only[Je];rw[zKi]
  congr 3
  refine zB5 fun k _=>?_
  by_cases e:k=r*D+i
  ·subst e
   rw[if_pos rfl,if_pos (by omega),zDH,e1,e2]
  ·rw[if_neg e]
   by_cases e3:k<r*D+i
   ·rw[if_pos e3,if_pos (by omega)]
   ·rw[if_neg e3,if_neg (by omega)]) (by
  unfold zRd;simp only
  rw[wC,xP,zI,Jy])
 exact this
theorem yAw(hN:N≤100)(hR:∀k,(R k).length≤100000):zH (zMO m ⟨x,m,smx m.Prime D N G⟩) (gl (N*D) R,0)=ja (gl (N*D) (zDH m.Prime D G R)):=by
 have gj:(smx m.Prime D N G).length=N:=wC;have:=zW (body:=zMO m ⟨x,m,smx m.Prime D N G⟩) (r:=gl (N*D) (zDH m.Prime D G R)) (fun i=>(gl (N*D) fun k=>if k<i*D then zDH m.Prime D G R k else R k,(i:Int))) N (fun i hi=>by
  unfold zMO;simp only
  rw[gj,xD hi,zN,smx,zER hi,bs,yAv hD hN hR hi,bs,zC (by omega) (by omega),bs];rfl) (by
  unfold zMO;simp only
  rw[gj,xP,zI]
  congr 2
  exact zB5 fun k hk=>by rw[if_pos hk])
 simp only[Hr,Ur,if_false]at this;exact this
end
end
theorem yAx{x:SPr}(h:Pres x):∀d∈cps x,2≤d.wd.length∧((d.wd.getD 0 0=d.wd.getD 1 0∧d.wd.getD (d.wd.length-1) 0≠d.wd.getD 0 0∧d.t=d.wd.length-2)∨(d.wd.getD 0 0=d.wd.getD 1 0∧d.wd.getD (d.wd.length-1) 0=d.wd.getD 0 0∧d.t=1)∨(d.wd.getD 0 0≠d.wd.getD 1 0∧d.t=1)):=by
 refine zAT.2 ⟨fun i j k h1 h2 h3=>?_,fun i j h1 h2=>?_,fun i j h1 h2=>?_,fun i h1=>?_⟩
 ·refine⟨by simp[pd2],.inr (.inr ⟨?_,rfl⟩)⟩
  show k≠j;omega
 ·have o:=(qX h h2).2
  obtain⟨q,hq⟩:∃q,yH x j=q+2:=⟨yH x j-2,by omega⟩;simp only[pd1,hq,J5,Jh,J6,Ju];refine⟨by omega,.inl ⟨rfl,?_,by omega⟩⟩;have:(J1 (q+2) j++[i]).getD (q+2+(0+1)-1) 0=i:=by rw[J2,J8 (by simp)];simp
  rw[this];show i≠j;omega
 ·have o:=(qX h (show i<x.zA.length by omega)).2
  obtain⟨q,hq⟩:∃q,yH x i=q+2:=⟨yH x i-2,by omega⟩;simp only[pd4,hq,Jh,J6];refine⟨by omega,.inr (.inr ⟨?_,trivial⟩)⟩;show j≠i;omega
 ·have o:=(qX h h1).2
  obtain⟨q,hq⟩:∃q,yH x i=q+2:=⟨yH x i-2,by omega⟩;simp only[pd3,hq,Jh];refine⟨by omega,.inr (.inl ⟨rfl,?_,trivial⟩)⟩;have:(J1 (q+2+1) i).getD (q+2+1-1) 0=i:=by rw[J2];simp
  rw[this];rfl
section
variable {x:SPr}{m:zG}{D:Nat} (h:Pres x) (hn:x.zA.length≤6) (hD:MOk x.zA.length m D)
 include h hn hD
theorem zVw{prs:List (Trc×Trc)}(hq:tX x (cps x) prs){k:Nat}(hk:k<(cps x).length){N:Nat}(hN:N=base x.zA.length x.zA.length):
  zRe x m (N:Int) ((cps x).map CPd) (gl (N*D) (fun q=>kZ m.Prime D m (prs.take k) q),(k:Int))=ja (.inl (gl (N*D) (fun q=>kZ m.Prime D m (prs.take (k+1)) q),((k+1:Nat):Int))):=by
 subst hN;have hl:=hq.len;have hd:=Kf hk;have fg:k<prs.length:=by omega
 have fX:=vK x.zA.length (by omega);have h3:=hD.d3;have h1:=hD.d1;have gG:=zGM (x:=x) hn;have cv:=zQ0 h hn hD hd (hq.get k hk fg) (fun _ _ _=>0);obtain⟨w2,ht⟩:=yAx h _ hd;have hlw:=(zK7 h hn _ hd).l;have cE:=(zK7 h hn _ hd).ht;have hR:∀q,(kZ m.Prime D m (prs.take k) q).length≤100000:=fun q=>by rw[zIt,K3];have:min k prs.length*D≤300*3:=K6 (by omega) h3;omega
 have cG:=yAw (x:=x) (G:=zD3 m D (-1) (zD3 m D 1 (fun _ _ _=>0) (prs[k]).1) (prs[k]).2) hD (show base x.zA.length x.zA.length≤100 by omega) hR;have erow:gl (base x.zA.length x.zA.length*D) (zDH m.Prime D (zD3 m D (-1) (zD3 m D 1 (fun _ _ _=>0) (prs[k]).1) (prs[k]).2) (fun q=>kZ m.Prime D m (prs.take k) q))=gl (base x.zA.length x.zA.length*D) fun q=>kZ m.Prime D m (prs.take (k+1)) q:=zB5 fun q _=>by have hm:q%D<D:=Gm _ (by omega);rw[zQ3 fg,zDH,zTf hm rfl,show q/D*D+q%D=q from by rw[H4];exact Ha q D]
 rw[erow]at cG;have iH:ixO ((cps x).map CPd) (k:Int)=ja (CPd (cps x)[k]):=by rw[kE (by rw[Jd];exact hk)];simp
 generalize (cps x)[k]=d at*
 have key:∀K:xR→Option ((Mx×Int)⊕Mx),((f_k ⟨x,m,smx m.Prime D (base x.zA.length x.zA.length) fun _ _ _=>0⟩ (enW d.wd) 0 1).bind fun r=>(f_r r.2 r.1 1).bind fun k2=>(f_k k2 (enW d.wd) (d.t:Int) (-1)).bind fun r3=>(f_r r3.2 r3.1 (-1)).bind K)=K ⟨x,m,smx m.Prime D (base x.zA.length x.zA.length) (zD3 m D (-1) (zD3 m D 1 (fun _ _ _=>0) (prs[k]).1) (prs[k]).2)⟩:=fun K=>by have e:=congrArg (fun o=>Gj o K) cv;simp only[Option.bind_assoc,bs]at e;exact e
 unfold zRe;simp only
 rw[Jd,xD hk,zN,iH,bs,yAu hD (by omega),bs];simp only[CPd];have i0:=tU (w:=d.wd) (t:=0) (by omega);have i1:=tU (w:=d.wd) (t:=1) (by omega);have il:=tU (w:=d.wd) (t:=d.wd.length-1) (by omega);rw[show((0:Nat):Int)=0 from rfl]at i0;rw[show((1:Nat):Int)=1 from rfl]at i1;rw[i0,bs,i1,bs,Jd];rcases ht with⟨t1,t2,t3⟩|⟨t1,t2,t3⟩|⟨t1,t3⟩
 ·rw[show((((d.wd.getD 0 0:Nat):Int)+1)==(((d.wd.getD 1 0:Nat):Int)+1))=jc from by rw[t1];exact beq_self_eq_true _,zN,zC (by omega) (by omega),bs,show(d.wd.length:Int)-1=((d.wd.length-1:Nat):Int)from by omega,il,bs,show((((d.wd.getD (d.wd.length-1) 0:Nat):Int)+1) != (((d.wd.getD 0 0:Nat):Int)+1))=jc from by rw[bne_iff_ne];omega,zN,zC (by omega) (by omega),bs,show(d.wd.length:Int)-2=(d.t:Int)from by omega,key,cG,bs,zC (by omega) (by omega),bs]
  rfl
 ·rw[show((((d.wd.getD 0 0:Nat):Int)+1)==(((d.wd.getD 1 0:Nat):Int)+1))=jc from by rw[t1];exact beq_self_eq_true _,zN,zC (by omega) (by omega),bs,show(d.wd.length:Int)-1=((d.wd.length-1:Nat):Int)from by omega,il,bs,show((((d.wd.getD (d.wd.length-1) 0:Nat):Int)+1) != (((d.wd.getD 0 0:Nat):Int)+1))=jd from by rw[t2];exact bne_self_eq_false _,zI]
  rw[t3]at key;rw[show(1:Int)=((1:Nat):Int)from rfl]at*
  rw[key,yBm,cG,bs,zC (by omega) (by omega),bs];rfl
 ·rw[show((((d.wd.getD 0 0:Nat):Int)+1)==(((d.wd.getD 1 0:Nat):Int)+1))=jd from by rw[beq_eq_false_iff_ne];omega,zI]
  rw[t3]at key;rw[show(1:Int)=((1:Nat):Int)from rfl]at*
  rw[key,yBn,cG,bs,zC (by omega) (by omega),bs];rfl
end
end Go.Pl

namespace Go.Pl
open Go Go.Ab Go.Wk Go.Pc
section
variable {x:SPr}{m:zG}{D:Nat} (hx:zCC x) (hD:MOk x.zA.length m D)
 include hx hD
theorem zIB(hc:wR (suf x 0))(hr:zFK x m D):∃K pk,f_m x m=ja K∧f_f x m=ja K∧Red m.Prime (base x.zA.length x.zA.length*D) K pk:=by
 have h6:=hx.n6;have h3:=hD.d3;have h1:=hD.d1;have fX:=vK x.zA.length (by omega);have hbD:base x.zA.length x.zA.length*D≤21*3:=K6 fX.2.1 h3;obtain⟨prs,hq⟩:=zYu hx hD;have hl:=hq.len;have gG:=zGM (x:=x) h6;have eZ:=zW (body:=zRe x m ((base x.zA.length x.zA.length:Nat):Int) ((cps x).map CPd)) (r:=gl (base x.zA.length x.zA.length*D) (fun q=>kZ m.Prime D m prs q)) (fun k=>(gl (base x.zA.length x.zA.length*D) (fun q=>kZ m.Prime D m (prs.take k) q),(k:Int))) (cps x).length (fun k hk=>zVw hx.toPres h6 hD hq hk rfl) (by
  unfold zRe;simp only
  rw[Jd,xP,zI,hl,Lo])
 have e0:gl (base x.zA.length x.zA.length*D) (fun q=>kZ m.Prime D m (prs.take 0) q)=J1 (base x.zA.length x.zA.length*D) ([]:List Int):=by simp only[K7,kZ,Ly,G4];rw[List.eq_replicate_iff];exact⟨wC,fun b hb=>by obtain⟨i,_,rfl⟩:=Js.1 hb;rfl⟩
 rw[e0]at eZ;have cu:f_f x m=cond (decide (((gl (base x.zA.length x.zA.length*D) (fun q=>kZ m.Prime D m prs q)).length:Int)> 0)) (
   (ixO (gl (base x.zA.length x.zA.length*D) (fun q=>kZ m.Prime D m prs q)) 0).bind fun v32=>(f_G m.Prime (gl (base x.zA.length x.zA.length*D) (fun q=>kZ m.Prime D m prs q)) (v32.length:Int)).bind fun r33=>ja r33) (
   (f_G m.Prime (gl (base x.zA.length x.zA.length*D) (fun q=>kZ m.Prime D m prs q)) 0).bind fun r34=>ja r34):=by
  unfold f_f;rw[zHV rfl h6,bs,hD.d,←L6,zC (by omega) (by omega),bs,xM (by omega),bs,zEp hx.toPres h6,bs];rw[show((0:Nat):Int)=0 from rfl]at eZ;rw[eZ,bs]
 rcases Ui x.zA.length with h0|h0
 ·obtain⟨K,pk,k1,k2,k3⟩:=zNQ h0 hD
  refine⟨K,pk,k1,?_,?_⟩
  ·rw[cu,h0,show base 0 0=0 from rfl,Hr]
   simp only[gl,Q9,Ly,Ju];rw[show decide (((0:Nat):Int)> 0)=jd from rfl,zI,k2,bs]
  ·rw[h0,show base 0 0=0 from rfl,Hr];exact k3
 ·obtain⟨K,pk,k1,k2,_⟩:=zGw hx hD h0 hc hr
  obtain⟨K2,j1,j2⟩:=zMq hx hD h0 hc hr hq;rw[k1]at j1;cases j1;refine⟨K,pk,k1,?_,k2⟩;have cW:0<base x.zA.length x.zA.length*D:=Jc3 (by omega) h1;rw[cu,wC,jf (by omega),zN,show(0:Int)=((0:Nat):Int)from rfl,zER cW,bs,zIt,j2,bs]
end
end Go.Pl

namespace Go.Pl
open Go Go.Ab Go.Wk Go.Pc
end Go.Pl

namespace Go.Pl
open Go Go.Ab Go.Wk Go.Pc
theorem zTg{n D:Nat}{v:List Int}(hD:1≤D)(hl:v.length=n*D):(zEV n D v).flatten=v:=by
 have hF:∀i:Nat,(mkv D fun j=>at0 v (i*D+j)).length=D:=fun i=>yB _ _
 have h1:(zEV n D v).flatten.length=n*D:=by have:=zFX (F:=fun i=>mkv D fun j=>at0 v (i*D+j)) hF (Jl n);rw[Ky]at this;exact this
 refine(vX h1).trans (((zX fun k hk=>?_)).trans (vX hl).symm);have hi:k/D<n:=(Hp (by omega)).2 hk;have hm:k%D<D:=Gm _ (by omega);have e:=zFf (F:=fun i=>mkv D fun j=>at0 v (i*D+j)) hF (Jl n) (k/D) (k%D) (by rw[Ky];exact hi) hm;rw[show k/D*D+k%D=k from by rw[H4];exact Ha k D]at e;rw[Q8,yE hm,show k/D*D+k%D=k from by rw[H4];exact Ha k D]at e;exact e
section
variable {x:SPr}{m:zG}{D:Nat} (hx:zCC x) (hD:MOk x.zA.length m D)
 include hx hD
theorem zQ4:∃R pv,zUp x m=ja R∧Red m.Prime (base x.zA.length x.zA.length*D) R pv∧base x.zA.length x.zA.length*D≤63∧ ∀v,Row m.Prime (base x.zA.length x.zA.length*D) v→
  Row m.Prime (base x.zA.length x.zA.length*D) (cl m.Prime (base x.zA.length x.zA.length*D) R pv v R.length)∧f_X m.Prime R v=ja (cl m.Prime (base x.zA.length x.zA.length*D) R pv v R.length)∧
  zUr x m v=ja (zEV (base x.zA.length x.zA.length) D (cl m.Prime (base x.zA.length x.zA.length*D) R pv v R.length)):=by
 have h3:=hD.d3;obtain⟨R,pv,r1,r2,r3,r4,r5,r6⟩:=zNI hx hD;refine⟨R,pv,r1,r4,r6,fun v hv=>?_⟩;have gG:=zKh hD.p (by omega) r4 hv R.length;refine⟨gG,zHT hD.p (by omega) r4 hv (by omega),?_⟩;unfold zUr zYA;rw[r2,bs,r3,bs,bs,zHW hD.p (by omega) r4 hv (by omega),bs,hD.d,zHZ hD.d1 gG.1 (by omega),bs]
theorem zNR{v:List Int}(hv:Row m.Prime (base x.zA.length x.zA.length*D) v):f_v (zEV (base x.zA.length x.zA.length) D v)=ja v:=by have h6:=hx.n6;have h3:=hD.d3;have hb:=vK x.zA.length (by omega);have dH:base x.zA.length x.zA.length*D≤21*3:=K6 hb.2.1 h3;have e:=zTg hD.d1 hv.1;rw[zAQ (by have:(zEV (base x.zA.length x.zA.length) D v).length=base x.zA.length x.zA.length:=wC;omega) (by rw[e,hv.1];omega),e]
theorem zK8(hc:wR (suf x 0))(hr:zFK x m D):∃C pc K rows,zWb x m=ja C∧f_f x m=ja K∧zH (zMR x m K) ([],0)=ja rows∧f_j m.Prime rows=ja C∧Red m.Prime (base x.zA.length x.zA.length*D) C pc∧base x.zA.length x.zA.length*D≤63:=by
 obtain⟨R,pv,r1,r2,r3,r4⟩:=zQ4 hx hD;obtain⟨K,pk,k1,k2,k3⟩:=zIB hx hD hc hr;have hK:=k3.len_le;have hl:(gl K.length fun i=>cl m.Prime (base x.zA.length x.zA.length*D) R pv (K.getD i []) R.length).length=K.length:=wC;obtain⟨C,pc,c1,c2,c3,_⟩:=kR hD.p (n:=base x.zA.length x.zA.length*D) (rows:=gl K.length fun i=>cl m.Prime (base x.zA.length x.zA.length*D) R pv (K.getD i []) R.length) (by omega) (by omega) (fun i hi=>by rw[hl]at hi;rw[xU hi];exact(r4 _ (k3.row i hi)).1)
 refine⟨C,pc,K,_,?_,k2,?_,c2,c3,r3⟩
 ·unfold zWb
  rw[r1,bs,k1,bs,vJ (body:=zMP m R K) K.length (fun i=>cl m.Prime (base x.zA.length x.zA.length*D) R pv (K.getD i []) R.length) (fun i acc hi ha=>by
   unfold zMP;simp only
   rw[xD hi,zN,yX [] hi,bs,(r4 _ (k3.row i hi)).2.1,bs,yN (by simp only[J6,Ju];omega),bs,zC (by omega) (by omega),bs];rfl) (fun acc=>by
   unfold zMP;simp only
   rw[xP,zI]),bs]
  show(f_p m.Prime (gl K.length _)).bind _=_;rw[c1,bs]
 ·exact vJ (body:=zMR x m K) K.length (fun i=>cl m.Prime (base x.zA.length x.zA.length*D) R pv (K.getD i []) R.length) (fun i acc hi ha=>by
   unfold zMR;simp only
   rw[xD hi,zN,yX [] hi,bs,(r4 _ (k3.row i hi)).2.2,bs,zNR hx hD (r4 _ (k3.row i hi)).1,bs,yN (by simp only[J6,Ju];omega),bs,zC (by omega) (by omega),bs];rfl) (fun acc=>by
   unfold zMR;simp only
   rw[xP,zI])
end
end Go.Pl

namespace Go.Pl
open Go Go.Ab Go.Wk Go.Pc
end Go.Pl

namespace Go.Pl
open Go Go.Ab Go.Wk Go.Pc
def zVx(x:SPr):Prop:=0<x.zA.length∧ ∀i,i<x.zA.length→at0 x.zA i=at0 x.zA 0
theorem zMs{x:SPr}(h0:0<x.zA.length)(hl:x.zA.length≤1048576){f:Option Bool}{body:Int→Option (Int⊕(Unit⊕Bool))}(hf:f=(zH body 0).bind fun r=>match r with|.inl _=>ja jc|.inr r=>ja r)
  (hb:∀s,body s=cond (decide (s<(x.zA.length:Int))) ((ixO x.zA s).bind fun v2=>(ixO x.zA 0).bind fun v3=>cond (v2 != v3) (ja (.inr (.inr jd))) ((rng (s+1)).bind fun v4=>ja (.inl v4))) (ja (.inr (.inl ())))):IsB f (zVx x):=by
 refine(zA4 (body:=body) x.zA.length (fun i=>at0 x.zA i=at0 x.zA 0) hf (fun i hi _=>?_) ?_).iff ⟨fun g=>⟨h0,g⟩,fun g=>g.2⟩
 ·rw[hb,xD hi,zN,yP hi,bs,show(0:Int)=((0:Nat):Int)from rfl,yP h0,bs]
  by_cases g:at0 x.zA i=at0 x.zA 0
  ·rw[zA5 g,zI,zC (by omega) (by omega),bs]
   exact .inl ⟨rfl,g⟩
  ·rw[zAd g,zN]
   exact .inr ⟨rfl,g⟩
 ·rw[hb,xP,zI]
theorem zIC{x:SPr}(hl:x.zA.length≤1048576):IsB (zWa x) (zA7 x∧zVx x):=by
 unfold zWa;rcases zHK hl with⟨h1,h2⟩|⟨h1,h2⟩
 ·rw[h1,bs,Ka,zI]
  by_cases h0:0<x.zA.length
  ·rw[show(((x.zA.length:Nat):Int)==0)=jd from by rw[beq_eq_false_iff_ne];omega,zI]
   exact(zMs h0 hl rfl (fun _=>rfl)).iff ⟨fun g=>⟨h2,g⟩,fun g=>g.2⟩
  ·rw[show(((x.zA.length:Nat):Int)==0)=jc from by rw[beq_iff_eq];omega,zN]
   exact .inr ⟨rfl,fun g=>h0 g.2.1⟩
 ·rw[h1,bs,Kg,zN]
  exact .inr ⟨rfl,fun g=>h2 g.1⟩
theorem zID{x:SPr}(hl:x.zA.length≤1048576):IsB (zWd x) (zA7 x∧zVx x):=by
 unfold zWd;rcases zAP hl with⟨h1,h2⟩|⟨h1,h2⟩
 ·rw[h1,bs,Ka,zI]
  by_cases h0:0<x.zA.length
  ·rw[show(((x.zA.length:Nat):Int)==0)=jd from by rw[beq_eq_false_iff_ne];omega,zI]
   exact(zMs h0 hl rfl (fun _=>rfl)).iff ⟨fun g=>⟨h2,g⟩,fun g=>g.2⟩
  ·rw[show(((x.zA.length:Nat):Int)==0)=jc from by rw[beq_iff_eq];omega,zN]
   exact .inr ⟨rfl,fun g=>h0 g.2.1⟩
 ·rw[h1,bs,Kg,zN]
  exact .inr ⟨rfl,fun g=>h2 g.1⟩
theorem zIx{x:SPr}(hx:zCC x){body:Int×Int→Option ((Int×Int)⊕Int)}
  (hb:∀s:Int×Int,body s=cond (decide (s.2<(x.zA.length:Int))) ((ixO x.zA s.2).bind fun v1=>(rng (s.1*v1)).bind fun v2=>(rng (s.2+1)).bind fun v3=>ja (.inl (v2,v3))) (ja (.inr s.1))):zH body (1,0)=ja (pr x.zA x.zA.length):=by
 have h6:=hx.n6;have hP:∀j,j<x.zA.length→Prime (at0 x.zA j):=fun j hj=>hx.os.2 j hj
 exact zW (body:=body) (r:=pr x.zA x.zA.length) (fun i=>(pr x.zA i,(i:Int))) x.zA.length (fun i hi=>by
  have e1:=zJW hP (x.zA.length-(i+1)) (by omega);rw[show x.zA.length-(x.zA.length-(i+1))=i+1 from by omega]at e1;have e2:=zFC (os:=x.zA) (i:=i+1) fun j hj=>hP j (by omega)
  have e3:=hx.pr;simp only[pr]at e1 e2;rw[hb];simp only
  rw[xD hi,zN,yP hi,bs,zC (n:=pr x.zA i*at0 x.zA i) (by omega) (by omega),bs,zC (by omega) (by omega),bs];rfl) (by
  rw[hb];simp only
  rw[xP,zI])
def zCS(q:Int)(D n:Nat):zG:=⟨q,(D:Int),gl n fun _=>idM D⟩
theorem zDs{q:Int}{D n i:Nat}(h:i<n):(zCS q D n).zR.getD i []=idM D:=by rw[zCS,J2,J3 (by rw[wC];exact h)];simp[gl]
theorem zQ5{x:SPr}{q:Int}{D:Nat}(hq:Prime q)(h6:x.zA.length≤6)(hD:D≤8):f_U x q (D:Int)=ja (zCS q D x.zA.length):=by
 unfold f_U;rw[vJ (body:=zUz x (D:Int)) x.zA.length (fun _=>idM D) (fun i acc hi ha=>by
  unfold zUz;simp only
  rw[xD hi,zN,zN1 hq hD,bs,yN (by simp only[J6,Ju];omega),bs,zC (by omega) (by omega),bs];rfl) (fun acc=>by
  unfold zUz;simp only
  rw[xP,zI]),bs]
 rfl
theorem zNS{x:SPr}{q:Int}{D:Nat}(hq:Prime q)(h6:x.zA.length≤6)(hD:D≤8):zWe x q (D:Int)=ja (zCS q D x.zA.length):=by
 unfold zWe;rw[vJ (body:=zMQ x q (D:Int)) x.zA.length (fun _=>idM D) (fun i acc hi ha=>by
  unfold zMQ;simp only
  rw[xD hi,zN,zBb hq hD,bs,yN (by simp only[J6,Ju];omega),bs,zC (by omega) (by omega),bs];rfl) (fun acc=>by
  unfold zMQ;simp only
  rw[xP,zI]),bs]
 rfl
theorem zVy{q:Int}{D n:Nat}(hq:Prime q)(h1:1≤D)(h3:D≤3):MOk n (zCS q D n) D:=
 ⟨hq,rfl,h1,h3,wC,fun i hi=>by rw[zDs hi];exact qR hq.pos.1⟩
theorem zDt{q:Int}{D n:Nat}:∀(w:List Nat){B:Mx},Mat q D B→(∀a∈w,a<n)→wM q D (zCS q D n).zR w B=B
 | [],_,_,_=>rfl
 |a::w,B,hB,hw=>by show wM q D (zCS q D n).zR w (PM q D B ((zCS q D n).zR.getD a []))=B;rw[zDs (hw a (by simp)),zCL hB];exact zDt w hB fun b hb=>hw b (H7 _ hb)
theorem zTh{x:SPr}(h:Pres x){q:Int}{D:Nat}(hq:Prime q):zFK x (zCS q D x.zA.length) D:=by
 have hI:Mat q D (idM D):=qR hq.pos.1;intro i hi;refine⟨?_,fun j hj1 mc=>?_⟩
 ·show wM q D _ _ _=wM q D _ _ _
  rw[zDt _ hI fun a ha=>by rw[Jt ha];exact hi,zDt _ hI fun a ha=>((tT h (qT h hi) hi).2 a ha).2]
 ·show PM q D _ _=PM q D _ (wM q D _ _ _)
  have:=tT h (uB h (show i<j by omega) mc) hi;rw[zDs hi,zDs mc,zDt _ hI fun a ha=>(this.2 a (by simpa[lcj]using ha)).2]
theorem zIE{x:SPr}(hc:zA7 x)(hp:zVx x):∃C pc,zWc x=ja C∧zWf x=ja C∧Red (at0 x.zA 0) (base x.zA.length x.zA.length) C pc∧base x.zA.length x.zA.length≤21:=by
 have h6:=hc.2.2.n6;have hq:=hc.1.os.2 0 hp.1;have hb:=vK x.zA.length (by omega);obtain⟨C,pc,K,rows,c1,c2,c3,c4,c5,_⟩:=zK8 (m:=zCS (at0 x.zA 0) 1 x.zA.length) hc.2.2 (zVy hq (by omega) (by omega)) hc.2.1 (zTh hc.1 hq);rw[Qt]at c5;refine⟨C,pc,?_,?_,c5,hb.2.1⟩
 ·unfold zWc zYE
  rw[show(0:Int)=((0:Nat):Int)from rfl,yP hp.1,bs,show(1:Int)=((1:Nat):Int)from rfl,zQ5 hq h6 (by omega),bs,bs,c1,bs]
 ·unfold zWf
  rw[show(0:Int)=((0:Nat):Int)from rfl,yP hp.1,bs,show(1:Int)=((1:Nat):Int)from rfl,zNS hq h6 (by omega),bs,c2,bs];have e:zU1=zMR:=rfl;rw[e,show((0:Nat):Int)=0 from rfl,c3,bs];show(f_j (zCS (at0 x.zA 0) 1 x.zA.length).Prime rows).bind _=_;rw[c4,bs]
end Go.Pl

namespace Go.Pl
open Go Go.Ab Go.Wk Go.Pc
end Go.Pl

namespace Go.Pl
open Go Go.Ab Go.Wk Go.Pc
def zIy(N:Nat)(C:Mx):Mx:=gl N fun i=>mkv C.length fun j=>at0 (C.getD j []) i
theorem zTi{body:List Int×Int→Option ((List Int×Int)⊕List Int)}(n:Nat)(F:Nat→Int)(h:∀i acc,i<n→acc.length=i→body (acc,(i:Int))=ja (.inl (acc++[F i],((i+1:Nat):Int))))(he:∀acc,body (acc,(n:Int))=ja (.inr acc)):
  zH body ([],0)=ja (mkv n F):=vJ n F h he
section
variable {q:Int}{N:Nat}{C:Mx} (hC:∀i,i<C.length→Row q N (C.getD i [])) (hl:C.length≤1000)
 include hC hl
theorem zQ6{x:SPr}(h6:x.zA.length≤6)(hN:N=base x.zA.length x.zA.length):f_E x C=ja (zIy N C):=by
 have hb:=vK x.zA.length (by omega);unfold f_E;rw[vJ (body:=zU3 x C) N (fun i=>mkv C.length fun j=>at0 (C.getD j []) i) (fun i acc hi ha=>by
  unfold zU3;simp only
  rw[zBV rfl h6,bs,←hN,xD hi,zN,zTi (body:=zU2 C (acc,(i:Int))) C.length (fun j=>at0 (C.getD j []) i) (fun j acc2 hj ha2=>by
   unfold zU2;simp only
   rw[xD hj,zN,yX [] hj,bs,yP (by rw[(hC j hj).1];exact hi),bs,yN (by simp only[J6,Ju];omega),bs,zC (by omega) (by omega),bs];rfl) (fun acc2=>by
   unfold zU2;simp only
   rw[xP,zI]),bs,yN (by simp only[J6,Ju];omega),bs,zC (by omega) (by omega),bs]
  rfl) (fun acc=>by
  unfold zU3;simp only
  rw[zBV rfl h6,bs,←hN,xP,zI]),bs]
 rfl
end
theorem zIz{N:Nat}{C:Mx}:(zIy N C).length=N:=wC
end Go.Pl

namespace Go.Pl
open Go Go.Ab Go.Wk Go.Pc
section
variable {q:Int} (hq:Prime q) {N E:Nat}{C B:Mx} (hC:∀i,i<C.length→Row q N (C.getD i [])) (hl:C.length≤1000) (hE:E≤1000) (dV:B.length=C.length) (hB:∀i,i<B.length→Row q E (B.getD i []))
 include hq hC hl hE dV hB
theorem zTj{u:zK}(fO:u.Prime=q)(eY:u.yI=(E:Int))(dE:u.Rows=B)(hN:N≤1000):zH (zRf u C (N:Int)) ([],0)=ja (gl N fun i=>zA9 q C.length E ((zIy N C).getD i []) B):=by
 have h7:=hq.pos;exact vJ (body:=zRf u C (N:Int)) N (fun i=>zA9 q C.length E ((zIy N C).getD i []) B) (fun i acc hi ha=>by
  have er:(zIy N C).getD i []=mkv C.length fun j=>at0 (C.getD j []) i:=by rw[zIy,xU hi]
  have gJ:=zW (body:=zU5 u C (acc,(i:Int))) (r:=zA9 q C.length E ((zIy N C).getD i []) B) (fun j=>(zA9 q j E ((zIy N C).getD i []) B,(j:Int))) C.length (fun j hj=>by
   have dn:=(hC j hj).2 i hi;unfold zU5;simp only
   rw[xD hj,zN,yX [] hj,bs,dE,yX [] (by omega),bs,yP (by rw[(hC j hj).1];exact hi),bs,fO,zAv hq (zLU hq) (hB j (by omega)) (by omega) (by omega),bs,zC (by omega) (by omega),bs]
   congr 3
   refine zX fun k hk=>?_
   rw[zA9,yE hk,er];simp only[S];rw[yE hj,Ke,Kc,←Ke]) (by
   unfold zU5;simp only
   rw[xP,zI])
  have e:J1 E (0:Int)=zA9 q 0 E ((zIy N C).getD i []) B:=by rw[uS];exact zX fun j _=>by simp[S]
  rw[show((0:Nat):Int)=0 from rfl]at gJ;unfold zRf;simp only
  rw[xD hi,zN,eY,xM (by omega),bs,e,gJ,bs,yN (by simp only[J6,Ju];omega),bs,zC (by omega) (by omega),bs];rfl) (fun acc=>by
  unfold zRf;simp only
  rw[xP,zI])
end
theorem zGa{x:SPr}{u:zK}(hx:zDB x)(_hu:S2 u.Rows):∃g k,zU4 x u=ja (g,k)∧f_F x u=ja (g,k)∧S2 g:=by
 have hl:x.zA.length≤1048576:=hx.1;have fH:S2 ([]:Mx):=by simp[S2,c2,sm]
 unfold zU4 f_F;rcases(zHK hl).both (zAP hl)with⟨s1,i1,hc⟩|⟨s1,i1,_⟩
 ·rw[s1,i1,bs,bs,Ka,zI,zI]
  rcases(zQm (u:=u)).both (zQl (u:=u))with⟨s2,i2,hM⟩|⟨s2,i2,_⟩
  ·rw[s2,i2,bs,bs,Ka,zI,zI]
   rcases(zIC hl).both (zID hl)with⟨s3,i3,hp⟩|⟨s3,i3,_⟩
   ·have h6:=hc.2.2.n6
    have hq:=hc.1.os.2 0 hp.2.1;rw[s3,i3,bs,bs,Ka,zI,zI,show(0:Int)=((0:Nat):Int)from rfl,yP hp.2.1,bs,bs]
    by_cases g:u.Prime=at0 x.zA 0
    ·rw[zA5 g,zI,zI]
     rcases(zAO u.yI 1 3).both (kN u.yI 1 3)with⟨s4,i4,h4⟩|⟨s4,i4,_⟩
     ·rw[s4,i4,bs,bs,Ka,zI,zI]
      unfold zYD zYF;rw[zIx hc.2.2 (body:=zUy x) (fun _=>rfl),zIx hc.2.2 (body:=zU0 x) (fun _=>rfl)];simp only[bs]
      by_cases g2:pr x.zA x.zA.length> 81
      ·rw[jf g2,zN,zN]
       exact⟨_,_,rfl,rfl,fH⟩
      ·obtain⟨C,pc,c1,c2,c3,c4⟩:=zIE hc hp.2
       have hCl:=c3.len_le;obtain⟨hM1,E,hM2,hM3,hM4,hM5⟩:=hM;rw[je g2,zI,zI,c1,bs,c2,bs]
       by_cases g3:(u.Rows.length:Int)=(C.length:Int)
       ·rw[zA5 g3,zI,zI,zQ6 c3.row (by omega) h6 rfl,bs,g,hM3,zIl hq (D:=C.length) (by omega) (by omega) (fun i hi=>?_) (by rw[zIz];omega) (by omega) (fun i hi=>?_),bs,zHV rfl h6,bs,show((0:Nat):Int)=0 from rfl,zTj hq c3.row (by omega) (by omega) (E:=E) (B:=u.Rows) (by omega) (fun i hi=>by have:=hM5 i hi;rwa [g]at this) g hM3 rfl (by omega),bs,zIz]
        ·refine⟨_,_,rfl,rfl,?_⟩
         have e1:=zW7 (c:=Pl.c1) (b:=3) (xs:=gl (base x.zA.length x.zA.length) fun i=>zA9 (at0 x.zA 0) C.length E ((zIy (base x.zA.length x.zA.length) C).getD i []) u.Rows) (fun r hr=>by obtain⟨i,_,rfl⟩:=Js.1 hr;show(mkv _ _).length≤3;rw[yB];omega)
         rw[wC]at e1;simp only[S2,Pl.c2,wC];omega
        ·rw[zIz]at hi
         rw[zIy,xU hi];exact⟨yB _ _,fun j hj=>by rw[yE hj];exact(c3.row j hj).2 i hi⟩
        ·have:=hM5 i (by omega)
         rwa [g]at this
       ·rw[zAd g3,zN,zN]
        exact⟨_,_,rfl,rfl,fH⟩
     ·rw[s4,i4,bs,bs,Kg,zN,zN]
      exact⟨_,_,rfl,rfl,fH⟩
    ·rw[zAd g,zN,zN]
     exact⟨_,_,rfl,rfl,fH⟩
   ·rw[s3,i3,bs,bs,Kg,zN,zN]
    exact⟨_,_,rfl,rfl,fH⟩
  ·rw[s2,i2,bs,bs,Kg,zN,zN]
   exact⟨_,_,rfl,rfl,fH⟩
 ·rw[s1,i1,bs,bs,Kg,zN,zN]
  exact⟨_,_,rfl,rfl,fH⟩
theorem zI0(x0:SPr)(x1:zK)(v0:zOW x0)(v1:zVh x1)
  (h:zDB x0→S2 x1.Rows→ ∃g k,zU4 x0 x1=ja (g,k)∧f_F x0 x1=ja (g,k)∧S2 g):zWg x0 x1=ja jc:=by
 unfold zWg;rw[zHA v0 (by decide) (by decide),bs];rcases zOX (c:=zL2 x0) (b:=1048576) (by decide) (by decide)with e|⟨e,a0,b0,w0⟩<;>rw[e]
 ·rfl
 rw[zI,zSy v1 a0 b0,bs];rcases zOX (c:=c2 x1.Rows) a0 b0 with e|⟨e,a1,b1,w1⟩<;>rw[e]
 ·rfl
 have s0:zDB x0:=zDB.of w0;have s1:S2 x1.Rows:=w1;obtain⟨g,k,hs,hi,sg⟩:=h s0 s1;have t0:=zPh s0;have q1:=zHD (x:=x1.Rows);have qg:=zHD (x:=g);have sg':=sg;simp only[S2]at sg';rw[zI,zHB s0,bs,zSz s1,bs];simp only[bs];rw[hs,bs,hi,bs];simp only
 rw[zBy sg,bs];simp only[beq_self_eq_true,Ka,zI,bne_self_eq_false];rw[zHC s0,bs,Ka,zI,zSw s1,bs,Ka,zI,zD0 s0 (by decide) (by decide),bs];simp only
 rw[zNC s1 (by omega) (by omega),bs];simp only
 rw[je (by omega),zI,bs,Ka,zI];rw[zAN sg (by decide) (by omega),bs];simp only
 rw[zL1 sg (by decide) (by omega),bs,je (by omega),zI,bne_self_eq_false,zI,bs];simp only
 rw[zBy sg,bs,beq_self_eq_true,Ka,zI,bne_self_eq_false,zI,bs,je (by omega),zI,bne_self_eq_false,zI]
theorem zGb(x0:SPr)(x1:zK)(v0:zOW x0)(v1:zVh x1):zWg x0 x1=ja jc:=
 zI0 x0 x1 v0 v1 zGa
end Go.Pl
