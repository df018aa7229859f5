/- The program's CoverMap returns what the reference's returns,for all arguments;no conditions. -/
import Derived.Test.YtmoaeebpmcafpaaGreatPlB
import Derived.Test.YtmoaeebpmcafpaaGreatWF
open List renaming replicate→J1,getD_eq_getElem?_getD→J3,getElem?_eq_getElem→J5,mem_cons→J7,length_cons→J8,length_append→J9,range→Jb,length_replicate→Jc,mem_append→Jd,append_nil→Jf,append_assoc→Jj,mem_map→Jl,take_of_length_le→Jn,take_left'→Jo,replicate_succ→Jq,map_cons→Jr,take_succ_eq_append_getElem→Js,length_map→Jt,length_nil→Jx,getElem_mem→Jy,drop_left'→Jz,nil_append→K0,mem_iff_getElem→K4,cons_append→K5,getElem?_replicate→Kb,all_eq_true→Kc,take_zero→Kd,reverse_reverse→Kh,length_take→Kk,range'→Kl,getElem?_append_left→Kn,length_drop→Kr,range_eq_range'→L8,mem_flatMap→Lg,map_append→Lm,mem_range→Ln,replicate_succ'→Lo,flatMap_cons→Lp,eq_of_mem_replicate→Lr,replicate_zero→Lv,length_range→H4,drop_eq_nil_of_le→Hh,mem_append_right→Hk,drop_eq_getElem_cons→Hl,flatten_cons→Hn,getD_cons_zero→Gj,ext_getElem→Gx,mem_append_left→U5,drop_zero→U6,map_nil→Ub,not_mem_nil→Ut,reverse_cons→Uw,flatten_nil→Q9,map_map→Ja7,mem_of_mem_head?→Jap,findSome?_cons→Jb8,head?_cons→Jcb,range'_succ→Jcw,flatMap_append→Jcz
open Int renaming toNat_natCast→J6,mul_emod→Ju,emod_eq_of_lt→Jw,emod_emod→K1,add_emod→K9,emod_lt_of_pos→Kf,emod_nonneg→Kq,mul_zero→La,mul_one→Ls,add_zero→Lt,mul_le_mul_of_nonneg_left→Lx,natCast_add→Hi,sub_emod→Qa,natCast_mul→Qp,zero_mul→Qr,lt_trichotomy→Jce
open Nat renaming zero_add→Ja,lt_or_ge→Jg,le_refl→Jh,mul_le_mul→Jm,mul_le_mul_right→K6,succ_mul→K8,zero_le→Ka,div_add_mod→L4,div_lt_iff_lt_mul→Ll,add_sub_cancel_left→Lu,mod_lt→Hb,mul_one→Hj,zero_mul→Uv,add_sub_cancel→Jan,sub_zero→Jav,mul_pos→Jbc,eq_zero_or_pos→Jbs
open Bool renaming not_true→Ji,not_false→K7,false_eq_true→Ho
open Option renaming map_some→Ha,some→Hu,bind→Gv,isSome_none→Uj,getD_some→Jbb
open Prod renaming mk→Jba
open Option renaming some→iF,none→iG
open Bool renaming true→iH,false→iI
namespace Go.Pl
open Go Go.Ab Go.Wk Go.Pc
variable {k j i D q l n c N r a M:Nat}{A u:Mx}{m:zB}{y:Vec}{w':List Nat}{v:List Int}{s:Int}{out o1:List zN}
section
variable {D D2:Nat}{x:SPr}{m m2:zB}{T T2:Mx}{φ:Vec→Vec} (h:Pres x) (hE:ExB x.zA.length D x m T) (hT:∀i,i<T.length→Row m.Prime D (T.getD i [])) (gQ:ExB x.zA.length D2 x m2 T2) (hJ:∀i,i<T2.length→Row m2.Prime D2 (T2.getD i [])) (hF:Fh x.zA.length D D2 m m2 T T2 φ)
 include h hE hT gQ hJ hF
theorem zYW{k:Nat}(hk:k<x.zA.length){c:Vec}(hc:V (suf (exx D x m T) (k+1)) c):∀q,Fm φ (x.zA.length-(k+1)) (pw (mul (suf (exx D x m T) (k+1))) (zeros (suf (exx D x m T) (k+1)).length) c q)=pw (mul (suf (exx D2 x m2 T2) (k+1))) (zeros (suf (exx D2 x m2 T2) (k+1)).length) (Fm φ (x.zA.length-(k+1)) c) q
 |0=>yCw h hE hT gQ hJ hF (by omega)
 |q+1=>by have ok:=uK h hE hT (k:=k+1) (by omega);have hq:V (suf (exx D x m T) (k+1)) (pw (mul (suf (exx D x m T) (k+1))) (zeros (suf (exx D x m T) (k+1)).length) c q):=vW (by grind[xJ]) q (wS ok);have ih:=zYW hk hc q;rw[pw,vL,pw,vL];show Fm φ _ (mul _ (pw _ _ c q) c)=mul _ (pw _ _ (Fm φ _ c) q) (Fm φ _ c);rw[zOU h hE hT gQ hJ hF _ (k+1) (by omega:k+1+(x.zA.length-(k+1))=x.zA.length) _ _ hq hc,ih]
theorem yAt(hk:k≤j)(hj:j<x.zA.length):V (suf (exx D x m T) (k+1)) (((exx D x m T).zV.getD j []).drop (k+1))∧Fm φ (x.zA.length-(k+1)) (((exx D x m T).zV.getD j []).drop (k+1))=((exx D2 x m2 T2).zV.getD j []).drop (k+1):=by
 have hn:=hE.hn;have hb:=wT x.zA.length (by omega);have hpx:V (suf x (k+1)) ((x.zV.getD j []).drop (k+1)):=by grind[kG,zLl,qN]
 rw[zE7 h hE hT hk hj,zE7 h gQ hJ hk hj];exact⟨by grind[zDM,zCs],by rw[zAR (vJ h (by omega) hpx),hF.t _ (by omega)]⟩
theorem yAu(hk:k≤i)(hi:i<j)(hj:j<x.zA.length):V (suf (exx D x m T) (k+1)) ((((exx D x m T).zG.getD i []).getD (j-(i+1)) []).drop (k+1))∧Fm φ (x.zA.length-(k+1)) ((((exx D x m T).zG.getD i []).getD (j-(i+1)) []).drop (k+1))=(((exx D2 x m2 T2).zG.getD i []).getD (j-(i+1)) []).drop (k+1):=by
 have hn:=hE.hn;have hb:=zBf x.zA.length (by omega) i (by omega);have aJ:V (suf x (k+1)) ((lcj x i j).drop (k+1)):=by grind[kG,zLl,uI]
 rw[zGq h hE hT hk hi hj,zGq h gQ hJ hk hi hj];exact⟨by grind[zDM,zEb],by rw[zAR (vJ h (by omega) aJ),hF.t _ (by omega)]⟩
theorem zXw(h1:k+1≤j)(h2:j<x.zA.length):Fm φ (x.zA.length-(k+1)) (xP ((exx D x m T).zA.length-(k+1)) (j-(k+1)))=xP ((exx D2 x m2 T2).zA.length-(k+1)) (j-(k+1)):=by rw[zRI h hE hT h1 h2,zRI h gQ hJ h1 h2,zAR (by simp[xP,zeros]),hF.z]
theorem zXx(hk:k<x.zA.length):LCQ (fun k a b=>Fm φ (x.zA.length-k) a=Fm φ (x.zA.length-k) b) x (exx D x m T) k↔LCn x (exx D2 x m2 T2) k:=by
 have hl:=wG h hE hT;have ok:=uK h hE hT (k:=k+1) (by omega);have cW:=zOU h hE hT gQ hJ hF _ (k+1) (by omega:k+1+(x.zA.length-(k+1))=x.zA.length);have ep:=fun v hv=>zU1 h hE hT gQ hJ hF hk cW (v:=v) hv
 have c7:=zRJ h hE hT hk;have e1:∀j,k+1≤j→j<x.zA.length→(c1Q (fun k a b=>Fm φ (x.zA.length-k) a=Fm φ (x.zA.length-k) b) (exx D x m T) k j↔c1E (exx D2 x m2 T2) k j):=fun j h1 h2=>by obtain⟨p1,p2⟩:=yAt h hE hT gQ hJ hF (k:=k) (j:=j) (by omega) h2;unfold c1Q c1E;show Fm φ _ _=Fm φ _ _↔_;rw[zYW h hE hT gQ hJ hF hk (zNf h hE hT hk h1 h2),zQE h hE hT gQ hJ hF h1 h2,ep _ p1,p2,tK h hE hT h2,tK h gQ hJ h2]
 have e2:∀i j,k+1≤i→i<j→j<x.zA.length→(c2Q (fun k a b=>Fm φ (x.zA.length-k) a=Fm φ (x.zA.length-k) b) (exx D x m T) k i j↔c2E (exx D2 x m2 T2) k i j):=fun i j h1 gR h2=>by obtain⟨p1,p2⟩:=yAu h hE hT gQ hJ hF (k:=k) (by omega) gR h2;have ci:=zNf h hE hT hk h1 (by omega);have cj:=zNf h hE hT hk (by omega) h2;unfold c2Q c2E;show Fm φ _ _=Fm φ _ _↔_;rw[cW _ _ cj ci,cW _ _ ci (zAQ h hE hT hk p1),zQE h hE hT gQ hJ hF h1 (by omega),zQE h hE hT gQ hJ hF (by omega) h2,ep _ p1,p2]
 have e3:Fm φ (x.zA.length-(k+1)) (sig (suf (exx D x m T) (k+1)) (lvl (exx D x m T) k) (lvl (exx D x m T) k).w)=Fm φ (x.zA.length-(k+1)) (lvl (exx D x m T) k).w↔sig (suf (exx D2 x m2 T2) (k+1)) (lvl (exx D2 x m2 T2) k) (lvl (exx D2 x m2 T2) k).w=(lvl (exx D2 x m2 T2) k).w:=by rw[ep _ c7,yAs h hE hT gQ hJ hF hk]
 have e4:∀j,k+1≤j→j<x.zA.length→(c4Q (fun k a b=>Fm φ (x.zA.length-k) a=Fm φ (x.zA.length-k) b) (exx D x m T) k j↔c4E (exx D2 x m2 T2) k j):=fun j h1 h2=>by have hg:=zDm h hE hT h1 h2;unfold c4Q c4E;show Fm φ _ _=Fm φ _ _↔_;rw[cW _ _ c7 (zOT h hE hT hk _ hg),cW _ _ hg c7,zLn h hE hT gQ hJ hF hk cW _ hg,zXw h hE hT gQ hJ hF h1 h2,yAs h hE hT gQ hJ hF hk,zBK h hE hT hk,zBK h gQ hJ hk]
 constructor
 ·intro g
  exact⟨fun j h1 h2=>(e1 j h1 h2).1 (g.c1 j h1 h2),fun i h1 hi j gR h2=>(e2 i j h1 (by omega) h2).1 (g.c2 i h1 hi j gR h2),e3.1 g.c3,fun j h1 h2=>(e4 j h1 h2).1 (g.c4 j h1 h2)⟩
 ·intro g
  exact⟨fun j h1 h2=>(e1 j h1 h2).2 (g.c1 j h1 h2),fun i h1 hi j gR h2=>(e2 i j h1 (by omega) h2).2 (g.c2 i h1 hi j gR h2),e3.2 g.c3,fun j h1 h2=>(e4 j h1 h2).2 (g.c4 j h1 h2)⟩
theorem zU2{m0:zB}(hM:Mv D x.zA.length m0 m)(hx:wN (suf x 0))(hr:zC6 x m2 D2):∃L,f_P ⟨x,m0,T⟩=iF L∧L.length≤1000∧(∀r∈L,Row m.Prime D r)∧((∀r∈L,φ r=zeros D2)↔wN (suf (exx D2 x m2 T2) 0)):=by
 have hp:=hE.m.p.pos;have aj:=gQ.m.p.pos;obtain⟨L,e,g⟩:=zUr h hE hT hM (Z:=fun r=>φ r=zeros D2) (Q:=fun k a b=>Fm φ (x.zA.length-k) a=Fm φ (x.zA.length-k) b) (fun k hk a b ha hb e=>by
  obtain⟨y,u,rfl,hy,hu,_,e7⟩:=prV h hE hT hk ha;obtain⟨z,v,rfl,hz,hv,_,mh⟩:=prV h hE hT hk hb;rw[Jo e7,Jo mh]at e;subst e;rw[Jz e7,Jz e7,zAR e7,zAR e7,List.append_cancel_left_eq];have ha:=zAm (p:=m.Prime) (D:=D) (r:=u) (s:=v) (k:=-1) hE.m.p;have hs:adv m.Prime D (vZ m.Prime D u (-1) v) v=u:=by refine Eq.trans (yB (g:=fun j=>at0 u j) fun j hj=>?_) (vH hu.1).symm;have hr:=hu.2 j hj;rw[vZ,yA hj,Int.emod_add_emod,show at0 u j+ -1*at0 v j+at0 v j=at0 u j from by omega,Jw (by omega) (by omega)]
  have hφ:=hF.add _ _ ha hv;rw[hs]at hφ;have hra:=hF.row _ ha;have hrv:=hF.row _ hv;constructor
  ·intro g
   rw[hφ,g,uG hrv]
  ·intro g
   rw[hφ,tS]at g;have:=(zXl (u:=φ v) hra (xQ (p:=m.Prime) (D:=D2) (by omega))).1 (by grind[zAO]);exact this) hx
 refine⟨L,e,g.len,g.row,g.iff.trans ?_⟩
 grind[zLb,zXx]
end
theorem zF4{D:Nat}{f:Nat→Int}:∀B:Nat,S (B*D) f=S B fun q=>S D fun l=>f (q*D+l)
 |0=>by rw[Uv];rfl
 |B+1=>by rw[K8,zHd,zF4 B];rfl
def blk(D:Nat)(w:Vec)(q:Nat):Vec:=mkv D fun j=>at0 w (q*D+j)
theorem kV{B:Nat}(hq:q<B)(hl:l<D):q*D+l<B*D:=by
 have:=K6 D (show q+1≤B by omega)
 grind
theorem zQF{p:Int}{B:Nat}{w:Vec}(hw:Row p (B*D) w)(hq:q<B):Row p D (blk D w q):=
 ⟨zY _ _,fun j hj=>by rw[blk,yA hj];exact hw.2 _ (kV hq hj)⟩
theorem vQ(hl:l<D):(q*D+l)/D=q∧(q*D+l)%D=l:=by grind[Nat.mul_comm,Nat.mul_add_div,Nat.div_eq_of_lt,Nat.mul_add_mod,Nat.mod_eq_of_lt]
def ABk(B D:Nat)(A:Mx):Mx:=gl (B*D) fun i=>mkv (B*D) fun j=>if i/D=j/D then ent A (i%D) (j%D)else 0
theorem zQG{B:Nat}(hi:i<B*D)(hj:j<B*D):ent (ABk B D A) i j=if i/D=j/D then ent A (i%D) (j%D)else 0:=by
 show at0 ((gl (B*D) _).getD i []) j=_
 grind[yA]
theorem zXy{p:Int}{B:Nat}(hp:2≤p)(hD:0<D)(hA:Mat p D A):Mat p (B*D) (ABk B D A):=by
 refine⟨wU,fun i hi=>?_⟩;rw[ABk,wF hi];refine⟨zY _ _,fun j hj=>?_⟩;rw[yA hj];split
 ·exact(hA.2 (i%D) (Hb _ hD)).2 _ (Hb _ hD)
 ·omega
theorem zNh{p:Int}{B:Nat}{u:Vec}(hq:q<B)(hl:l<D):at0 (xY p (B*D) u (ABk B D A)) (q*D+l)=S D (fun i=>at0 u (q*D+i)*ent A i l)%p:=by
 rw[xY,yA (kV hq hl),zF4]
 congr 1
 rw[jX (k:=q) hq fun i hi gg=>?_]
 ·refine xZ fun i hi=>?_
  rw[zQG (kV hq hi) (kV hq hl),(vQ hi).1,(vQ hi).2,(vQ hl).1,(vQ hl).2,if_pos rfl]
 ·rw[xZ (g:=fun _=>0) fun j hj=>?_,qD]
  rw[zQG (kV hi hj) (kV hq hl),(vQ hj).1,(vQ hl).1,if_neg gg,La]
theorem zXz{p:Int}{B:Nat}{u:Vec}(hq:q<B):blk D (xY p (B*D) u (ABk B D A)) q=xY p D (blk D u q) A:=by
 refine yB fun l hl=>?_
 grind[zNh,xZ,blk,yA]
theorem zNi{B:Nat}{w:Vec}(hw:w.length=B*D)(hq:q<B):(w.drop (q*D)).take D=blk D w q:=by
 have h1:=K6 D (show q+1≤B by omega);rw[K8]at h1;apply Gx
 ·grind[blk,zY]
 grind[blk,mkv]
theorem zU3{B:Nat}{w:Vec}(hw:w.length=B*D)(hq:q<B):w.take (q*D)++blk D w q=w.take ((q+1)*D):=by rw[←zNi hw hq,K8,List.take_add]
def mBk(B D n:Nat)(m:zB):zB:=⟨m.Prime,((B*D:Nat):Int),(Jb n).map fun k=>ABk B D (m.zF.getD k [])⟩
theorem zLo{B:Nat}(hk:k<n):(mBk B D n m).zF.getD k []=ABk B D (m.zF.getD k []):=by grind[mBk]
theorem yAv{B:Nat}(hm:MOk n m D)(hB:1≤B)(h2:B*D≤200):zTK n (mBk B D n m) (B*D):=by have h1:=hm.d1;have hp:=hm.p.pos;refine⟨hm.p,Jbc (by omega) (by omega),h2,by simp[mBk],fun i hi=>?_⟩;rw[zLo hi];exact zXy (by show 2≤m.Prime;omega) (by omega) (hm.mat i hi)
theorem yAw{B:Nat}(hm:MOk n m D)(h2:B*D≤200):Mv (B*D) n m (mBk B D n m):=by
 refine⟨rfl,fun k hk u hu=>?_⟩;have h1:=hm.d1;have h3:=hm.d3;have fC:=hu.1;have ar:=hm.len;have hA:=hm.mat k hk;rw[zLo hk];have hR:(xY m.Prime (B*D) u (ABk B D (m.zF.getD k []))).length=B*D:=by rw[xY,zY]
 unfold f_X;have:=zX (body:=zL4 m u (k:Int)) (r:=xY m.Prime (B*D) u (ABk B D (m.zF.getD k []))) (fun i=>((xY m.Prime (B*D) u (ABk B D (m.zF.getD k []))).take (i*D),((i*D:Nat):Int))) B (fun i hi=>by
  have gO:=K6 D (show i+1≤B by omega);rw[K8]at gO;unfold zL4;simp only
  rw[iL (by omega),zM,hm.d,zE (by omega) (by omega),bs];have pe:yD u ((i*D:Nat):Int) (((i*D:Nat):Int)+(D:Int))=iF (blk D u i):=by
   unfold yD;rw[if_pos ⟨by omega,by omega,by omega⟩]
   congr 1
   rw[show(((i*D:Nat):Int)+(D:Int)).toNat=i*D+D from by omega,J6,Lu];exact zNi fC hi
  rw[pe,bs,yO [] (by omega),bs,zCj hm.p (by omega) (zQF hu hi) hA,bs,←zXz (B:=B) hi,yI (by rw[Kk,blk,zY];omega),bs,zU3 hR hi,bs,K8];rfl) (by
  unfold zL4;simp only
  rw[iJ (by omega),zQ,Jn (by omega)])
 rw[Uv,Kd]at this;rw[show((0:Nat):Int)=0 from rfl]at this;rw[this,bs];rfl
def phi(p:Int)(B D:Nat)(c w:Vec):Vec:=mkv D fun j=>S B (fun q=>at0 c q*at0 w (q*D+j))%p
theorem zX0{p:Int}{B:Nat}{c w:Vec}(hp:2≤p):Row p D (phi p B D c w):=⟨zY _ _,fun j hj=>by rw[phi,yA hj];exact⟨Kq _ (by omega),by have:=Kf (S B fun q=>at0 c q*at0 w (q*D+j)) (show 0<p by omega);omega⟩⟩
def Tc(N D:Nat)(c:Vec):Mx:=gl N fun i=>blk D c i
theorem yAx{B:Nat}{TB:Mx}{c:Vec}(hm:MOk n m D)(hN:B=N*D)(hb:base n n=N)(hc:Row m.Prime B c)(ht:∀i,i<N→TB.getD i []=mkv (B*D) fun j=>if j/D=i*D+j%D then 1 else 0):Fh n (B*D) D (mBk B D n m) m TB (Tc N D c) (phi m.Prime B D c):=by
 have hp:=hm.p.pos;have h1:=hm.d1;refine⟨rfl,fun u _=>zX0 (by show 2≤m.Prime;omega),?_,fun u v hu hv=>?_,fun k hk u hu=>?_,fun r hr=>?_⟩
 ·rw[show zeros D=mkv D fun _=>0 from uH D]
  refine yB fun j hj=>?_
  rw[xZ (g:=fun _=>0) fun q hq=>by rw[uV,La],qD];simp
 ·refine yB fun j hj=>?_
  rw[phi,phi,yA hj,yA hj];show _%m.Prime=(_%m.Prime+_%m.Prime)%m.Prime;rw[←K9,←zDf];refine zAl fun q hq=>?_
  rw[yA (kV hq hj),←Int.mul_add];show(at0 c q*((at0 u (q*D+j)+at0 v (q*D+j))%m.Prime))%m.Prime=_
  grind[Ju,K1]
 ·rw[zLo hk]
  refine yB fun j hj=>?_
  show S B (fun q=>at0 c q*at0 (xY m.Prime (B*D) u (ABk B D (m.zF.getD k []))) (q*D+j))%m.Prime=S D (fun l=>at0 (phi m.Prime B D c u) l*ent (m.zF.getD k []) l j)%m.Prime;rw[zAl (g:=fun q=>at0 c q*S D (fun i=>at0 u (q*D+i)*ent (m.zF.getD k []) i j)) (by grind[zNh,Ju,K1])];rw[zAl (f:=fun l=>at0 (phi m.Prime B D c u) l*ent (m.zF.getD k []) l j) (g:=fun l=>S B (fun q=>at0 c q*at0 u (q*D+l))*ent (m.zF.getD k []) l j) (by grind[phi,yA,Ju,K1])]
  congr 1
  rw[xZ (g:=fun q=>S D (fun i=>at0 c q*(at0 u (q*D+i)*ent (m.zF.getD k []) i j))) (by grind[zDg]),zIq];refine xZ fun l hl=>?_
  rw[←zM7]
  grind
 ·rw[hb]at hr
  rw[ht r hr,Tc,wF hr];refine yB fun j hj=>?_
  have gO:r*D+j<B:=by rw[hN];exact kV hr hj
  rw[jX (k:=r*D+j) gO fun q hq gg=>?_]
  ·rw[yA (kV gO hj),(vQ hj).1,(vQ hj).2,if_pos rfl,Ls]
   have:=hc.2 _ gO;exact Jw this.1 (by omega)
  ·rw[yA (kV hq hj),(vQ hj).1,(vQ hj).2,if_neg gg,La]
def uT(N D:Nat):Mx:=gl N fun i=>mkv (N*D*D) fun j=>if j/D=i*D+j%D then 1 else 0
section
variable {x:SPr}{m:zB}{D:Nat} (hx:zAi x) (hD:MOk x.zA.length m D)
 include hx hD
theorem zU4{D2:Nat}{m2:zB}{T:Mx}(hm:zTK x.zA.length m2 D2)(ht:T.length=base x.zA.length x.zA.length):ExB x.zA.length D2 x m2 T:=by have _:=hD;refine⟨hx.n6,rfl,hx.pl,hx.cl,fun i hi=>?_,ht,hm⟩;have:=(hx.tl i hi).2.1;omega
theorem zYX(hy:Row m.Prime (base x.zA.length x.zA.length*D) y):ExB x.zA.length D x m (Tc (base x.zA.length x.zA.length) D y)∧ ∀i,i<(Tc (base x.zA.length x.zA.length) D y).length→Row m.Prime D ((Tc (base x.zA.length x.zA.length) D y).getD i []):=by
 refine⟨zU4 hx hD hD.b wU,fun i hi=>?_⟩
 grind[Tc,zQF]
theorem zU5(h0:0<x.zA.length)(hc:wN (suf x 0))(hr:zC6 x m D):∃L,f_P ⟨x,m,uT (base x.zA.length x.zA.length) D⟩=iF L∧L.length≤1000∧(∀r∈L,Row m.Prime (base x.zA.length x.zA.length*D*D) r)∧
  ∀y,Row m.Prime (base x.zA.length x.zA.length*D) y→((∀r∈L,phi m.Prime (base x.zA.length x.zA.length*D) D y r=zeros D)↔wN (suf (exx D x m (Tc (base x.zA.length x.zA.length) D y)) 0)):=by
 have h6:=hx.n6;have hb:=wT x.zA.length (by omega);have h1:=hD.d1;have h3:=hD.d3;have hp:=hD.p.pos;have hB:base x.zA.length x.zA.length*D≤21*3:=Jm hb.2.1 h3;have hB1:1≤base x.zA.length x.zA.length*D:=Jbc (by omega) (by omega);have hBD:base x.zA.length x.zA.length*D*D≤63*3:=Jm (by omega) h3;have hE:=zU4 hx hD (T:=uT (base x.zA.length x.zA.length) D) (yAv hD hB1 (by omega)) wU;have hT:∀i,i<(uT (base x.zA.length x.zA.length) D).length→Row (mBk (base x.zA.length x.zA.length*D) D x.zA.length m).Prime (base x.zA.length x.zA.length*D*D) ((uT (base x.zA.length x.zA.length) D).getD i []):=fun i hi=>by rw[uT,wU]at hi;rw[uT,wF hi];refine⟨zY _ _,fun j hj=>?_⟩;rw[yA hj];show _∧_≤m.Prime-1;omega
 have hM:=yAw (B:=base x.zA.length x.zA.length*D) hD (by omega);have key:∀y,Row m.Prime (base x.zA.length x.zA.length*D) y→ ∃L,f_P ⟨x,m,uT (base x.zA.length x.zA.length) D⟩=iF L∧L.length≤1000∧(∀r∈L,Row m.Prime (base x.zA.length x.zA.length*D*D) r)∧((∀r∈L,phi m.Prime (base x.zA.length x.zA.length*D) D y r=zeros D)↔wN (suf (exx D x m (Tc (base x.zA.length x.zA.length) D y)) 0)):=fun y hy=>by obtain⟨e1,e2⟩:=zYX hx hD hy;exact zU2 hx.toPres hE hT e1 e2 (yAx hD rfl rfl hy (by grind[uT])) hM hc hr
 obtain⟨L,l1,l2,l3,_⟩:=key (zeros (base x.zA.length x.zA.length*D)) (xQ (by omega))
 grind
end
def zF5(D k:Nat)(L:Mx):List Int:=(L.map fun r=>blk D r k).flatten
theorem zNj{D k:Nat}:∀L:Mx,(zF5 D k L).length=L.length*D
 | []=>by rw[zF5];simp
 |r::L=>by
  have ih:=zNj (D:=D) (k:=k) L
  grind[zF5,blk,zY]
theorem zLp{D k:Nat}:∀(L:Mx)(i j:Nat),i<L.length→j<D→at0 (zF5 D k L) (i*D+j)=at0 (L.getD i []) (k*D+j)
 | [],i,j,hi,_=>by simp at hi
 |r::L,i,j,hi,hj=>by
  have hl:(blk D r k).length=D:=zY _ _;simp only[zF5,Jr,Hn];cases i with
  |zero=>
   rw[Uv,Ja,Gj,at0,J3,Kn (by omega),←J3];show at0 (blk D r k) j=_;rw[blk,yA hj]
  |succ i=>
   have ih:=zLp (D:=D) (k:=k) L i j (by grind) hj;simp only[zF5]at ih
   grind
theorem zU6{p:Int}{B:Nat}{L:Mx}:(∀c,c<L.length*D→(S B fun k=>at0 y k*ent (gl B fun k=>zF5 D k L) k c)%p=0)↔ ∀r∈L,phi p B D y r=zeros D:=by
 have e:∀i j,i<L.length→j<D→(S B fun k=>at0 y k*ent (gl B fun k=>zF5 D k L) k (i*D+j))%p=at0 (phi p B D y (L.getD i [])) j:=fun i j hi hj=>by
  rw[phi,yA hj]
  congr 1
  refine xZ fun k hk=>?_
  show at0 y k*at0 ((gl B fun k=>zF5 D k L).getD k []) (i*D+j)=_
  grind[zLp]
 constructor
 ·intro g r hr
  obtain⟨i,hi,rfl⟩:=K4.1 hr;rw[show zeros D=mkv D fun _=>0 from uH D,vH (D:=D) (v:=phi p B D y L[i]) (zY _ _)];refine yB fun j hj=>?_
  have:=e i j hi hj;rw[J3,J5 hi]at this;rw[←g _ (kV hi hj),this];rfl
 ·intro g c hc
  have hD:0<D:=by grind
  have hi:c/D<L.length:=(Ll hD).2 hc;have hj:c%D<D:=Hb _ hD;rw[show c=c/D*D+c%D from by grind[L4],e _ _ hi hj,g _ (by rw[J3,J5 hi];exact Jy hi),uV]
def zBv(p:Int)(D:Nat)(m:zB):List (Nat×List Nat)→Nat→Nat→Nat→Int
 | [],_,_,_=>0
 |(q,s)::t,r,i,j=>(if q=r then ent (wM p D m.zF s (idM D)) i j else 0)+zBv p D m t r i j
section
variable {p:Int}{D N:Nat}{m:zB}{y:Vec}
theorem zU7{j:Nat}(hj:j<D):∀t:List (Nat×List Nat),(∀q∈t,q.1<N)→at0 (tv p D m (Tc N D y) t) j=(S N fun r=>S D fun i=>at0 y (r*D+i)*zBv p D m t r i j)%p
 | [],_=>by
  show at0 (zeros D) j=_;rw[uV,xZ (g:=fun _=>0) fun r _=>by rw[xZ (g:=fun _=>0) fun i _=>by rw[zBv,La],qD],qD]
  rfl
 |(q,s)::t,h=>by
  have hq:q<N:=h (q,s) (by simp);have ih:=zU7 hj t (by grind);show at0 (adv p D (xY p D ((Tc N D y).getD q []) (wM p D m.zF s (idM D))) (tv p D m (Tc N D y) t)) j=_;rw[show adv p D=fun u v=>mkv D fun j=>(at0 u j+at0 v j)%p from rfl];show at0 (mkv D _) j=_;rw[yA hj,ih,xY,yA hj,←K9]
  congr 1
  have e:(S N fun r=>S D fun i=>at0 y (r*D+i)*zBv p D m ((q,s)::t) r i j)=
    (S N fun r=>S D fun i=>at0 y (r*D+i)*(if q=r then ent (wM p D m.zF s (idM D)) i j else 0))+S N fun r=>S D fun i=>at0 y (r*D+i)*zBv p D m t r i j:=by
   rw[←zDf];refine xZ fun r _=>?_
   rw[←zDf]
   grind[zBv]
  rw[e]
  congr 1
  rw[jX (k:=q) hq fun r _ hr=>by rw[xZ (g:=fun _=>0) (by grind),qD]]
  refine xZ fun l hl=>?_
  rw[if_pos rfl,Tc,wF hq,blk,yA hl]
end
def prR(p:Int)(D:Nat)(m:zB)(t1 t2:List (Nat×List Nat))(k:Nat):List Int:=mkv D fun j=>(zBv p D m t1 (k/D) (k%D) j-zBv p D m t2 (k/D) (k%D) j)%p
section
variable {p:Int}{D N:Nat}{m:zB}{y:Vec}
theorem zQH(hp:2≤p){t1 t2:List (Nat×List Nat)}(h1:∀q∈t1,q.1<N)(h2:∀q∈t2,q.1<N):
  (∀j,j<D→(S (N*D) fun k=>at0 y k*at0 (prR p D m t1 t2 k) j)%p=0)↔tv p D m (Tc N D y) t1=tv p D m (Tc N D y) t2:=by
 have e:∀j,j<D→(S (N*D) fun k=>at0 y k*at0 (prR p D m t1 t2 k) j)%p=(at0 (tv p D m (Tc N D y) t1) j-at0 (tv p D m (Tc N D y) t2) j)%p:=fun j hj=>by
  rw[zU7 hj t1 h1,zU7 hj t2 h2,←Qa,zF4];have e1:((S N fun r=>S D fun i=>at0 y (r*D+i)*zBv p D m t1 r i j)-S N fun r=>S D fun i=>at0 y (r*D+i)*zBv p D m t2 r i j)=S N fun r=>S D fun i=>at0 y (r*D+i)*(zBv p D m t1 r i j-zBv p D m t2 r i j):=by
   have:(S N fun r=>S D fun i=>at0 y (r*D+i)*zBv p D m t1 r i j)=(S N fun r=>S D fun i=>at0 y (r*D+i)*(zBv p D m t1 r i j-zBv p D m t2 r i j))+S N fun r=>S D fun i=>at0 y (r*D+i)*zBv p D m t2 r i j:=by
    rw[←zDf];refine xZ fun r _=>?_
    rw[←zDf]
    grind
   omega
  rw[e1];refine zAl fun r _=>zAl fun i hi=>?_
  grind[vQ,prR,yA,Ju,K1]
 constructor
 ·intro g
  have r1:=zLi (D:=D) (m:=m) (T:=Tc N D y) hp t1;have r2:=zLi (D:=D) (m:=m) (T:=Tc N D y) hp t2;rw[vH r1.1,vH r2.1];refine yB fun j hj=>?_
  have k:=e j hj;rw[g j hj]at k;have b1:=r1.2 j hj;have b2:=r2.2 j hj;have:=Int.emod_emod_of_dvd (at0 (tv p D m (Tc N D y) t1) j-at0 (tv p D m (Tc N D y) t2) j) (Int.dvd_refl p);have ik:p∣at0 (tv p D m (Tc N D y) t1) j-at0 (tv p D m (Tc N D y) t2) j:=by omega
  obtain⟨c,hc⟩:=ik;have:c=0:=by
   rcases Jce c 0 with gH|h0|hgt
   ·have:p*c≤p*(-1):=Lx (by omega) (by omega)
    omega
   ·exact h0
   ·have:p*1≤p*c:=Lx (by omega) (by omega)
    omega
  grind
 simp_all
end
abbrev Trc:=List (Nat×List Nat)
variable {t1 t2:Trc}{prs:List (Trc×Trc)}
structure PD where
 k:Nat
 wd:List Nat
 t:Nat
 r1:Nat
 s1:List Nat
 w1:List Nat
 r2:Nat
 s2:List Nat
 w2:List Nat
variable {d:PD}
section
variable (x:SPr)
abbrev PD.B(d:PD)(t1 t2:Trc):Prop:=zLm x d.k d.r1 d.s1 d.w1 d.r2 d.s2 d.w2 t1 t2
def ups(n i:Nat):List Nat:=Kl (i+1) (n-(i+1))
def pd2(i j k:Nat):PD:=⟨i,[k,j,i],1,base x.zA.length j+(k-(j+1)),[i],j::(nw 0 (lcj x j k)++[i]),base x.zA.length i+(j-(i+1)),[],k::i::nw 0 (lcj x i j)⟩
def pd1(i j:Nat):PD:=⟨i,J1 (yL x j) j++[i],yL x j-1,j,[i],nw 0 (x.zV.getD j [])++[i],base x.zA.length i+(j-(i+1)),[],J1 (yL x j-1) j++i::nw 0 (lcj x i j)⟩
def pd4(i j:Nat):PD:=⟨i,j::J1 (yL x i) i,1,base x.zA.length i+(j-(i+1)),J1 (yL x i-1) i,i::(nw 0 (lcj x i j)++J1 (yL x i-1) i),i,[],j::nw 0 (x.zV.getD i [])⟩
def pd3(i:Nat):PD:=⟨i,J1 (yL x i+1) i,1,i,[i],nw 0 (x.zV.getD i [])++[i],i,[],i::nw 0 (x.zV.getD i [])⟩
def cps:List PD:=
 ((Jb x.zA.length).flatMap fun i=>(ups x.zA.length i).flatMap fun j=>(ups x.zA.length j).map fun k=>pd2 x i j k)++
 (((Jb x.zA.length).flatMap fun i=>(ups x.zA.length i).map fun j=>pd1 x i j)++
 (((Jb x.zA.length).flatMap fun i=>(ups x.zA.length i).map fun j=>pd4 x i j)++
 (Jb x.zA.length).map fun i=>pd3 x i))
end
theorem zF6:j∈ups n i↔i<j∧j<n:=by grind[ups]
section
variable {x:SPr}
theorem zBi{φ:PD→Prop}:(∀d∈cps x,φ d)↔(∀i j k,i<j→j<k→k<x.zA.length→φ (pd2 x i j k))∧(∀i j,i<j→j<x.zA.length→φ (pd1 x i j))∧(∀i j,i<j→j<x.zA.length→φ (pd4 x i j))∧ ∀i,i<x.zA.length→φ (pd3 x i):=by
 constructor
 ·intro g
  refine⟨fun i j k h1 h2 h3=>g _ ?_,fun i j h1 h2=>g _ ?_,fun i j h1 h2=>g _ ?_,fun i h1=>g _ ?_⟩
  ·exact U5 _ (Lg.2 ⟨i,by grind,Lg.2 ⟨j,by grind[zF6],Jl.2 ⟨k,zF6.2 ⟨h2,h3⟩,rfl⟩⟩⟩)
  ·exact Hk _ (U5 _ (Lg.2 ⟨i,by grind,Jl.2 ⟨j,zF6.2 ⟨h1,h2⟩,rfl⟩⟩))
  ·exact Hk _ (Hk _ (U5 _ (Lg.2 ⟨i,by grind,Jl.2 ⟨j,zF6.2 ⟨h1,h2⟩,rfl⟩⟩)))
  ·exact Hk _ (by grind)
 ·rintro⟨g2,g1,g4,g3⟩ d hd
  simp only[cps,Jd,Lg,Jl,Ln,zF6]at hd
  grind
theorem zRM{T:Mx}:zYV x D m T↔ ∀d∈cps x,∀t1 t2,d.B x t1 t2→tv m.Prime D m T t1=tv m.Prime D m T t2:=by
 rw[zBi (φ:=fun d=> ∀t1 t2,d.B x t1 t2→tv m.Prime D m T t1=tv m.Prime D m T t2)];constructor
 ·intro g
  exact⟨fun i j k h1 h2 h3=>g.p2 i j k h1 h2 h3,fun i j h1 h2=>g.p1 i j h1 h2,fun i j h1 h2=>g.p4 i j h1 h2,fun i h1=>g.p3 i h1⟩
 ·rintro⟨g2,g1,g4,g3⟩
  exact⟨fun k j h1 h2=>g1 k j h1 h2,fun k i j h1 h2 h3=>g2 k i j h1 h2 h3,fun k hk=>g3 k hk,fun k j h1 h2=>g4 k j h1 h2⟩
theorem zYY(h6:x.zA.length≤6){w:List Nat}{r:zEA}(hw:∀a∈w,a<x.zA.length)(h:hdS x w=iF r):r.1<base x.zA.length x.zA.length:=by
 unfold hdS at h;have hb:=wT x.zA.length (by omega)
 match w,h with
 | [],h=>cases h
 | [a],h=>
  grind[swp,pws]
 |a::b::w,h=>
  have ha:=hw a (by simp);simp only[swp]at h
  by_cases g:b<a
  ·rw[if_pos g]at h
   cases h;have:=zBf x.zA.length (by omega) b (by omega);omega
  ·rw[if_neg g]at h
   grind[pws]
theorem zYZ(h6:x.zA.length≤6):∀{w:List Nat}{r:zEA},(∀a∈w,a<x.zA.length)→stS x w=iF r→r.1<base x.zA.length x.zA.length
 | [],_,_,h=>by cases h
 |a::w,r,hw,h=>by
  simp only[stS]at h;cases e:hdS x (a::w)with
  |some q=>
   rw[e]at h;cases h;exact zYY h6 hw e
  |none=>
   rw[e]at h;cases e2:stS x w with
   |none=>grind
   |some q=>
    rw[e2]at h;cases h;have:=zYZ (w:=w) (r:=q) h6 (by grind) e2;exact this
theorem Col.lt(h6:x.zA.length≤6){w:List Nat}{tr:Trc}(hc:Col x k w tr w'):∀q∈tr,q.1<base x.zA.length x.zA.length:=by
 induction hc with
 |refl w=>simp
 |step hw hs _ ih=>
  intro q hq;rcases J7.1 hq with rfl|hq
  ·exact zYZ h6 (by grind) hs
  grind
end
section
variable {x:SPr} (h:Pres x) (h6:x.zA.length≤6)
 include h
theorem zNk{u1 u2:Trc}(hk:d.k≤x.zA.length)(a:d.B x t1 t2)(b:d.B x u1 u2):t1=u1∧t2=u2:=by
 obtain⟨⟨v1,y1,rfl,k1⟩,⟨v2,y2,rfl,k2⟩⟩:=a;obtain⟨⟨v3,y3,rfl,k3⟩,⟨v4,y4,rfl,k4⟩⟩:=b;have nn:=fun(y:Vec)(hy:V (suf x d.k) y)=>zGt h (x.zA.length-d.k) d.k (by omega) y hy
 exact⟨by rw[(Col.det k1.col k3.col (nn _ k1.v) (nn _ k3.v)).1],by rw[(Col.det k2.col k4.col (nn _ k2.v) (nn _ k4.v)).1]⟩
 include h6
theorem zHj:∀d∈cps x,d.k<x.zA.length∧(∀a∈d.wd,a<x.zA.length)∧ ∃t1 t2,d.B x t1 t2∧(∀q∈t1,q.1<base x.zA.length x.zA.length)∧ ∀q∈t2,q.1<base x.zA.length x.zA.length:=by
 have fw:∀i j,i<j→j<x.zA.length→ ∀a∈nw 0 (lcj x i j),i+1≤a∧a<x.zA.length:=fun i j hi hj=>(tE h (uI h hi hj) (by omega)).2
 have fR:∀i,i<x.zA.length→ ∀a∈nw 0 (x.zV.getD i []),i+1≤a∧a<x.zA.length:=fun i hi=>(tE h (qN h hi) hi).2
 have cM:=wT x.zA.length (by omega);have cL:=fun i(hi:i<x.zA.length)=>zBf x.zA.length (by omega) i hi
 have key:∀(d:PD),d.k<x.zA.length→(∀a∈d.wd,a<x.zA.length)→d.r1<base x.zA.length x.zA.length→d.r2<base x.zA.length x.zA.length→(∀a∈d.w1,d.k≤a∧a<x.zA.length)→(∀a∈d.w2,d.k≤a∧a<x.zA.length)→d.k<x.zA.length∧(∀a∈d.wd,a<x.zA.length)∧ ∃t1 t2,d.B x t1 t2∧(∀q∈t1,q.1<base x.zA.length x.zA.length)∧ ∀q∈t2,q.1<base x.zA.length x.zA.length:=by
  intro d hk mH b1 b2 c1 c2;obtain⟨u1,y1,k1⟩:=zXv h (x.zA.length-d.k) d.k (by omega) d.w1 c1;obtain⟨u2,y2,k2⟩:=zXv h (x.zA.length-d.k) d.k (by omega) d.w2 c2;refine⟨hk,mH,_,_,⟨⟨u1,y1,rfl,k1⟩,⟨u2,y2,rfl,k2⟩⟩,fun q hq=>?_,fun q hq=>?_⟩
  ·rcases J7.1 hq with rfl|hq
   ·exact b1
   ·exact k1.col.lt h6 q hq
  ·rcases J7.1 hq with rfl|hq
   ·exact b2
   ·exact k2.col.lt h6 q hq
 refine zBi.2 ⟨fun i j k h1 h2 h3=>key _ ?_ ?_ ?_ ?_ ?_ ?_,fun i j h1 h2=>key _ ?_ ?_ ?_ ?_ ?_ ?_,fun i j h1 h2=>key _ ?_ ?_ ?_ ?_ ?_ ?_,fun i h1=>key _ ?_ ?_ ?_ ?_ ?_ ?_⟩
 ·show i<_;omega
 ·intro a ha
  simp only[pd2,J7,Ut,or_false]at ha;omega
 ·have:=cL j (by omega);show base _ j+(k-(j+1))<_;omega
 ·have:=cL i (by omega);show base _ i+(j-(i+1))<_;omega
 ·intro a ha
  simp only[pd2,J7,Jd,Ut,or_false]at ha ⊢
  rcases ha with rfl|ha|rfl
  ·omega
  ·grind
  ·omega
 ·intro a ha
  simp only[pd2,J7]at ha ⊢
  rcases ha with rfl|rfl|ha
  ·omega
  ·omega
  grind
 ·show i<_;omega
 ·intro a ha
  simp only[pd1,Jd,List.mem_singleton]at ha;rcases ha with ha|rfl
  ·grind
  ·omega
 ·show j<_;omega
 ·have:=cL i (by omega);show base _ i+(j-(i+1))<_;omega
 ·intro a ha
  simp only[pd1,Jd,List.mem_singleton]at ha ⊢
  rcases ha with ha|rfl
  ·grind
  ·omega
 ·intro a ha
  simp only[pd1,Jd,J7]at ha ⊢
  rcases ha with ha|rfl|ha
  ·grind
  ·omega
  grind
 ·show i<_;omega
 ·intro a ha
  simp only[pd4,J7]at ha;rcases ha with rfl|ha
  ·omega
  grind
 ·have:=cL i (by omega);show base _ i+(j-(i+1))<_;omega
 ·show i<_;omega
 ·intro a ha
  simp only[pd4,J7,Jd]at ha ⊢
  rcases ha with rfl|ha|ha
  ·omega
  ·grind
  grind
 ·intro a ha
  simp only[pd4,J7]at ha ⊢
  rcases ha with rfl|ha
  ·omega
  grind
 ·exact h1
 ·intro a ha
  have:=Lr (show a∈J1 _ i from ha);omega
 ·show i<_;omega
 ·show i<_;omega
 ·intro a ha
  simp only[pd3,Jd,List.mem_singleton]at ha ⊢
  rcases ha with ha|rfl
  ·grind
  ·omega
 ·intro a ha
  simp only[pd3,J7]at ha ⊢
  rcases ha with rfl|ha
  ·omega
  grind
end
theorem zGu{α:Type}{F:α→Vec}{D:Nat}(hF:∀a,(F a).length=D):∀L:List α,((L.map F).flatten).length=L.length*D
 | []=>by simp
 |a::L=>by rw[Jr,Hn,J9,hF,zGu hF L,J8,K8];omega
theorem zF7{α:Type}{F:α→Vec}{D:Nat}(hF:∀a,(F a).length=D):∀(L:List α)(i j:Nat)(hi:i<L.length),j<D→at0 ((L.map F).flatten) (i*D+j)=at0 (F L[i]) j
 | [],i,j,hi,_=>by simp at hi
 |a::L,i,j,hi,hj=>by
  have hl:=hF a;rw[Jr,Hn];cases i with
  |zero=>
   grind
  |succ i=>
   have ih:=zF7 hF L i j (by grind) hj
   grind
def zAu(p:Int)(D:Nat)(m:zB)(prs:List (Trc×Trc))(k:Nat):List Int:=(prs.map fun q=>prR p D m q.1 q.2 k).flatten
theorem zIM{p:Int}(prs:List (Trc×Trc)):(zAu p D m prs k).length=prs.length*D:=zGu (F:=fun q:Trc×Trc=>prR p D m q.1 q.2 k) (fun _=>zY _ _) prs
theorem zU8{p:Int}(hp:2≤p)(hl:∀q∈prs,(∀r∈q.1,r.1<N)∧ ∀r∈q.2,r.1<N):
  (∀c,c<prs.length*D→(S (N*D) fun k=>at0 y k*ent (gl (N*D) fun k=>zAu p D m prs k) k c)%p=0)↔ ∀q∈prs,tv p D m (Tc N D y) q.1=tv p D m (Tc N D y) q.2:=by
 have e:∀i j(hi:i<prs.length),j<D→(S (N*D) fun k=>at0 y k*ent (gl (N*D) fun k=>zAu p D m prs k) k (i*D+j))=S (N*D) fun k=>at0 y k*at0 (prR p D m prs[i].1 prs[i].2 k) j:=fun i j hi hj=>by
  refine xZ fun k hk=>?_
  show at0 y k*at0 ((gl (N*D) fun k=>zAu p D m prs k).getD k []) (i*D+j)=_
  grind[zAu,zF7,prR,zY]
 constructor
 ·intro g q hq
  obtain⟨i,hi,rfl⟩:=K4.1 hq;refine(zQH hp (hl _ hq).1 (hl _ hq).2).1 fun j hj=>?_
  rw[←e i j hi hj];exact g _ (kV hi hj)
 ·intro g c hc
  have hD:0<D:=by grind
  have hi:c/D<prs.length:=(Ll hD).2 hc;have hj:c%D<D:=Hb _ hD;have hm:=Jy hi;rw[show c=c/D*D+c%D from by grind[L4],e _ _ hi hj];exact(zQH hp (hl _ hm).1 (hl _ hm).2).2 (g _ hm) _ hj
def qY(x:SPr):List PD→List (Trc×Trc)→Prop
 | [],[]=>True
 |d::ds,q::qs=>d.B x q.1 q.2∧qY x ds qs
 |_,_=>False
theorem qY.len{x:SPr}:{ds:List PD}→{qs:List (Trc×Trc)}→qY x ds qs→ds.length=qs.length
 | [],[],_=>rfl
 |d::ds,q::qs,h=>by rw[J8,J8,qY.len h.2]
 | [],_::_,h=>by simp[qY]at h
 |_::_,[],h=>by simp[qY]at h
theorem qY.all{x:SPr}{φ:Trc×Trc→Prop}:{ds:List PD}→{qs:List (Trc×Trc)}→qY x ds qs→(∀d∈ds,∀t1 t2,d.B x t1 t2→φ (t1,t2))→ ∀q∈qs,φ q
 | [],[],_,_,q,hq=>by cases hq
 |d::ds,q::qs,h,g,r,hr=>by
  rcases J7.1 hr with rfl|hr
  ·exact g d (by simp) _ _ h.1
  ·exact qY.all h.2 (by grind) r hr
 | [],_::_,h,_,_,_=>by simp[qY]at h
 |_::_,[],h,_,_,_=>by grind
theorem qY.of{x:SPr}{φ:Trc×Trc→Prop}:{ds:List PD}→{qs:List (Trc×Trc)}→qY x ds qs→(∀q∈qs,φ q)→ ∀d∈ds,∃t1 t2,d.B x t1 t2∧φ (t1,t2)
 | [],[],_,_,d,hd=>by cases hd
 |d::ds,q::qs,h,g,r,hr=>by
  rcases J7.1 hr with rfl|hr
  ·exact⟨q.1,q.2,h.1,g q (by simp)⟩
  ·exact qY.of h.2 (by grind) r hr
 | [],_::_,h,_,_,_=>by grind
 |_::_,[],h,_,_,_=>by simp[qY]at h
section
variable {x:SPr}{m:zB}{D:Nat} (hx:zAi x) (hD:MOk x.zA.length m D)
 include hx hD
theorem zU9(hq:qY x (cps x) prs)(hc:wN (suf x 0))(hr:zC6 x m D)(hy:Row m.Prime (base x.zA.length x.zA.length*D) y):
  (∀c,c<prs.length*D→(S (base x.zA.length x.zA.length*D) fun k=>at0 y k*ent (gl (base x.zA.length x.zA.length*D) fun k=>zAu m.Prime D m prs k) k c)%m.Prime=0)↔wN (suf (exx D x m (Tc (base x.zA.length x.zA.length) D y)) 0):=by
 have hp:=hD.p.pos;have p7:=zHj hx.toPres hx.n6;have gH:∀q∈prs,(∀r∈q.1,r.1<base x.zA.length x.zA.length)∧ ∀r∈q.2,r.1<base x.zA.length x.zA.length:=hq.all fun d hd t1 t2 hb=>by
  obtain⟨hk,_,u1,u2,bz,l1,l2⟩:=p7 d hd;obtain⟨rfl,rfl⟩:=zNk hx.toPres (by omega) hb bz
  grind
 obtain⟨e1,e2⟩:=zYX hx hD hy;rw[zU8 (by omega) gH,←zRL hx.toPres e1 e2 hc hr,zRM];constructor
 ·intro g d hd t1 t2 hb
  obtain⟨u1,u2,bz,e⟩:=hq.of (φ:=fun q=>tv m.Prime D m (Tc (base x.zA.length x.zA.length) D y) q.1=tv m.Prime D m (Tc (base x.zA.length x.zA.length) D y) q.2) g d hd;obtain⟨rfl,rfl⟩:=zNk hx.toPres (by grind) hb bz;exact e
 ·intro g
  exact hq.all (by omega)
theorem yAy:∃prs,qY x (cps x) prs:=by
 have _:=hD;have p7:=zHj hx.toPres hx.n6
 revert p7
 generalize cps x=ds
 intro p7
 induction ds with
 |nil=>exact⟨[],trivial⟩
 |cons d ds ih=>
  obtain⟨qs,hq⟩:=ih (by grind);obtain⟨_,_,t1,t2,hb,_⟩:=p7 d (by simp);exact⟨(t1,t2)::qs,hb,hq⟩
end
section
variable {x:SPr}{m:zB}{D:Nat} (hD:MOk x.zA.length m D)
 include hD
theorem zRN(hi:i<N)(hN:N≤21){T:Mx}:zI (zSm m (T,(i:Int))) (J1 (N*D*D) (0:Int),0)=iF (mkv (N*D*D) fun j=>if j/D=i*D+j%D then 1 else 0):=by
 have h1:=hD.d1;have h3:=hD.d3;have iC:N*D≤21*3:=Jm hN h3;have hB:N*D*D≤63*3:=Jm iC h3;have:=zX (body:=zSm m (T,(i:Int))) (r:=mkv (N*D*D) fun j=>if j/D=i*D+j%D then(1:Int)else 0)
  (fun c=>(mkv (N*D*D) fun j=>if j/D=i*D+j%D∧j%D<c then(1:Int)else 0,(c:Int))) D (fun c hc=>by
  unfold zSm;simp only
  have a1:i*D+D≤N*D:=by rw[←K8];exact K6 _ hi
  have a2:(i*D+c)*D+D≤N*D*D:=by rw[←K8];exact K6 _ (by omega)
  have b1:(i:Int)*(D:Int)=((i*D:Nat):Int):=by rfl
  have b2:((i*D+c:Nat):Int)*(D:Int)=(((i*D+c)*D:Nat):Int):=by rfl
  have b3:((i*D:Nat):Int)+(c:Int)=((i*D+c:Nat):Int):=by omega
  have b4:(((i*D+c)*D:Nat):Int)+(c:Int)=(((i*D+c)*D+c:Nat):Int):=by omega
  rw[hD.d,yT hc,zM,b1,zE (by omega) (by omega),bs,b3,zE (by omega) (by omega),bs,b2,zE (by omega) (by omega),bs,b4,zE (by omega) (by omega),bs,yO 0 (by grind[zY]),bs,zE (by omega) (by omega),bs,J6,qL,cs]
  congr 3
  refine yB fun j hj=>?_
  have br:=L4 j D
  by_cases g:j=(i*D+c)*D+c
  ·have e:=vQ (q:=i*D+c) hc
   grind
  grind) (by
  unfold zSm;simp only
  rw[hD.d,qA,zQ]
  congr 2
  refine yB fun j _=>?_
  have:=Hb j (show 0<D by omega);omega)
 rw[show(mkv (N*D*D) fun j=>if j/D=i*D+j%D∧j%D<0 then(1:Int)else 0)=J1 (N*D*D) 0 from by rw[show J1 (N*D*D) (0:Int)=mkv (N*D*D) fun _=>0 from uH _];simp]at this
 exact this
theorem zIN(hN:N≤21):zI (zWp m (N:Int) ((N*D:Nat):Int)) ([],0)=iF (uT N D):=by
 have h1:=hD.d1;have h3:=hD.d3;have iC:N*D≤21*3:=Jm hN h3;have hB:N*D*D≤63*3:=Jm iC h3;refine vC N (fun i=>mkv (N*D*D) fun j=>if j/D=i*D+j%D then(1:Int)else 0) (fun i acc hi ha=>?_) (fun acc=>?_)
 ·unfold zWp
  simp only
  have b1:((N*D:Nat):Int)*(D:Int)=((N*D*D:Nat):Int):=by rfl
  rw[hD.d,yT hi,zM,b1,zE (by omega) (by omega),bs,xF (by omega),bs,zRN hD hi hN,bs,yI (by simp;omega),bs,zE (by omega) (by omega),bs,cs]
 ·unfold zWp
  simp
theorem zKi{B:Nat}(hB:B≤63){L:Mx}(hL:L.length≤1000)(hr:∀r∈L,r.length=B*D):zI (zWq m ((B:Nat):Int) L) ([],0)=iF (gl B fun k=>zF5 D k L):=by
 have h1:=hD.d1;have h3:=hD.d3;have hLD:L.length*D≤1000*3:=Jm hL h3;have hBD:B*D≤63*3:=Jm hB h3;refine vC B (fun k=>zF5 D k L) (fun k acc hk ha=>?_) (fun acc=>?_)
 ·unfold zWq
  simp only
  have a1:k*D+D≤B*D:=by rw[←K8];exact K6 _ hk
  have inner:zI (zSn m L (acc,(k:Int))) ([],0)=iF (zF5 D k L):=by
   have:=zTX (body:=zSn m L (acc,(k:Int))) L.length D (fun i=>blk D (L.getD i []) k) [] (fun i hi=>zY _ _) (fun i acc2 hi ha2=>by
    unfold zSn;simp only
    have b0:i*D+D≤L.length*D:=by rw[←K8];exact K6 _ hi
    have b1:(k:Int)*(D:Int)=((k*D:Nat):Int):=by rfl
    have b2:((k+1:Nat):Int)*(D:Int)=((k*D+D:Nat):Int):=by grind
    have gj:(L.getD i []).length=B*D:=by grind
    simp only[Jx,Ja]at ha2;rw[hD.d,yT hi,zM,yO [] hi,bs,b1,zE (by omega) (by omega),bs,show(k:Int)+1=((k+1:Nat):Int)from by omega,zE (by omega) (by omega),bs,b2,zE (by omega) (by omega),bs,zGo (by omega),bs,yI (by rw[zY];omega),bs,zE (by omega) (by omega),bs,cs];rfl) (fun acc2=>by
    unfold zSn;simp)
   rw[this,K0,zF5]
   congr 2
   rw[gl];refine Gx (by simp) fun j h1 h2=>?_
   grind
  rw[yT hk,zM,inner,bs,yI (by simp;omega),bs,zE (by omega) (by omega),bs,cs]
 ·unfold zWq
  simp
end
section
variable {x:SPr}{m:zB}{D:Nat} (hx:zAi x) (hD:MOk x.zA.length m D)
 include hx hD
theorem zGL(h0:0<x.zA.length)(hc:wN (suf x 0))(hr:zC6 x m D):∃K pk,f_m x m=iF K∧Red m.Prime (base x.zA.length x.zA.length*D) K pk∧
  ∀y,Row m.Prime (base x.zA.length x.zA.length*D) y→(Sp m.Prime (base x.zA.length x.zA.length*D) K y↔wN (suf (exx D x m (Tc (base x.zA.length x.zA.length) D y)) 0)):=by
 have h6:=hx.n6;have hb:=wT x.zA.length (by omega);have h1:=hD.d1;have h3:=hD.d3;have hB:base x.zA.length x.zA.length*D≤21*3:=Jm hb.2.1 h3;obtain⟨L,l1,l2,l3,l4⟩:=zU5 hx hD h0 hc hr;have hLD:L.length*D≤1000*3:=Jm l2 h3;obtain⟨K,pk,k1,_,k3,k4⟩:=zGm hD.p (c:=L.length*D) (N:=base x.zA.length x.zA.length*D) (A:=gl (base x.zA.length x.zA.length*D) fun k=>zF5 D k L) (by omega) (fun k hk=>by rw[wF hk];refine⟨zNj L,fun j hj=>?_⟩;have hi:j/D<L.length:=(Ll (by omega)).2 hj;have hm:j%D<D:=Hb _ (by omega);have e:=zLp (D:=D) (k:=k) L (j/D) (j%D) hi hm;rw[show j/D*D+j%D=j from by grind[L4]]at e;rw[e];have eI:=l3 (L.getD (j/D) []) (by grind);exact eI.2 _ (kV hk hm)) wU
 refine⟨K,pk,?_,k3,fun y hy=>?_⟩
 ·unfold f_m
  have b1:((base x.zA.length x.zA.length:Nat):Int)*(D:Int)=((base x.zA.length x.zA.length*D:Nat):Int):=by rfl
  rw[zE5 rfl h6,bs,hD.d,b1,zE (by omega) (by omega),bs,zIN hD hb.2.1,bs,l1,bs,zKi hD (by omega) l2 (fun r hr=>(l3 r hr).1),bs,show((L.length:Nat):Int)*(D:Int)=((L.length*D:Nat):Int)from by rfl,zE (by omega) (by omega),bs,k1,bs]
 ·rw[k4 y,←l4 y hy,←zU6 (L:=L)]
end
theorem sN{w:List Nat}{t:Nat}(h:t<w.length):ixO (enW w) (t:Int)=iF (((w.getD t 0:Nat):Int)+1):=by
 rw[yO 0 (by grind)]
 grind
theorem qZ{w:List Nat}{t:Nat}(h:t<w.length):w.drop t=w.getD t 0::w.drop (t+1):=by grind[Hl]
theorem zDB{w:List Nat}{b:Nat}(h1:a≤b)(h2:b≤w.length):yD (enW w) (a:Int) (b:Int)=iF (enW ((w.drop a).take (b-a))):=by
 unfold yD
 simp_all
theorem zUA{w:List Nat}{t o:Nat}{L:Int→Option (Int⊕(Unit⊕Bool))}(hL:L=zP0 (enW w) (t:Int) (enW ((w.drop t).take o))∨L=zP1 (enW w) (t:Int) (enW ((w.drop t).take o)))(ht:t<w.length)(ho:t+o≤w.length)(hl:w.length≤1000000):
  zI L 0=iF (if decide ((w.drop t).take o=J1 o (w.getD t 0))then .inl ()else .inr iI):=by
 have gj:((w.drop t).take o).length=o:=by grind
 have ay:(enW ((w.drop t).take o)).length=o:=by grind
 have cX:∀i,i<o→((w.drop t).take o).getD i 0=w.getD (t+i) 0:=by grind
 have hb:∀i,i<o→L (i:Int)=iF (if(w.getD (t+i) 0==w.getD t 0)then .inl ((i+1:Nat):Int)else .inr (.inr iI)):=fun i hi=>by
  have e1:ixO (enW ((w.drop t).take o)) (i:Int)=iF (((w.getD (t+i) 0:Nat):Int)+1):=by grind[sN]
  have e2:(((w.getD (t+i) 0:Nat):Int)+1 != ((w.getD t 0:Nat):Int)+1)= !(w.getD (t+i) 0==w.getD t 0):=by grind
  rcases hL with rfl|rfl<;>
  ·first|unfold zP0|unfold zP1
   rw[ay,yT hi,zM,e1,bs,sN ht,bs,e2]
   by_cases g:(w.getD (t+i) 0==w.getD t 0)=iH
   ·rw[g,Ji,zQ,zE (by omega) (by omega),bs,cs];rfl
   grind
 have he:L (o:Int)=iF (.inr (.inl ())):=by
  rcases hL with rfl|rfl
  ·unfold zP0
   grind
  ·unfold zP1
   grind
 rw[zJO o (fun i=>w.getD (t+i) 0==w.getD t 0) (by grind) (fun _=>he)]
 congr 1
 have pH:(Jb o).all (fun i=>w.getD (t+i) 0==w.getD t 0)=decide ((w.drop t).take o=J1 o (w.getD t 0)):=by
  rw[Bool.eq_iff_iff,Kc,decide_eq_true_iff];constructor
  ·intro g
   refine Gx (by grind) fun i h1 h2=>?_
   have:=g i (by grind)
   grind
  grind
 rw[pH]
section
variable {x:SPr} (h:Pres x)
 include h
theorem jM(ha:a<x.zA.length):ixO x.zA (a:Int)=iF ((yL x a:Nat):Int)∧2≤yL x a∧yL x a≤7:=by
 have hp:=(h.os.2 a ha).pos;rw[yO 0 ha]
 grind
theorem zUB{w:List Nat}{t:Nat}(ht:t<w.length):(pws x (w.drop t)).isSome=decide (t+yL x (w.getD t 0)≤w.length∧(w.drop t).take (yL x (w.getD t 0))=J1 (yL x (w.getD t 0)) (w.getD t 0)):=by
 have _:=h;have hd:=qZ ht
 by_cases g:(w.drop t).take (yL x (w.getD t 0))=J1 (yL x (w.getD t 0)) (w.getD t 0)
 ·have hl:=zBL g
  rw[Kr]at hl;rw[iL ⟨by omega,g⟩];rw[hd]at g ⊢
  simp only[pws]
  grind
 ·rw[iJ fun z=>g z.2]
  rw[hd]at g ⊢
  simp only[pws]
  grind
theorem zIO{w:List Nat}(hw:∀a∈w,a<x.zA.length)(hl:w.length≤1000000){t:Nat}(ht:t<w.length):f_I x (enW w) (t:Int)=iF (hdS x (w.drop t)).isSome:=by
 have ha:w.getD t 0<x.zA.length:=by grind[Jy]
 obtain⟨o1,o2,o3⟩:=jM h ha;have gj:(enW w).length=w.length:=by simp
 have hd:=qZ ht;have a1:((w.getD t 0:Nat):Int)+1-1=((w.getD t 0:Nat):Int):=by omega
 have a2:(t:Int)+((yL x (w.getD t 0):Nat):Int)=((t+yL x (w.getD t 0):Nat):Int):=by omega
 have h9:=h.os.1;have fin:∀L:List Int→Int→Option (Int⊕(Unit⊕Bool)),(∀o,L (enW ((w.drop t).take o))=zP0 (enW w) (t:Int) (enW ((w.drop t).take o))∨L (enW ((w.drop t).take o))=zP1 (enW w) (t:Int) (enW ((w.drop t).take o)))→
   (cond (decide (((t+yL x (w.getD t 0):Nat):Int)> ((w.length:Nat):Int))) (iF iI) ((iF ((t+yL x (w.getD t 0):Nat):Int)).bind fun v9=>(yD (enW w) (t:Int) v9).bind fun v10=>(zI (L v10) 0).bind fun r14=>match r14 with|(.inl _)=>iF iH|(.inr r14)=>iF r14))=iF (pws x (w.drop t)).isSome:=by
  intro L hL;rw[zUB h ht]
  by_cases g:t+yL x (w.getD t 0)≤w.length
  ·rw[iJ (by omega),zQ,bs,zDB (by omega) g,bs,Lu,zUA (hL _) ht g hl,bs]
   grind
  grind
 unfold f_I;rw[gj,zE (by omega) (by omega),bs]
 by_cases g:t+1<w.length
 ·have pI:=qZ g
  rw[iL (by omega),zM,sN ht,bs,bs,show(t:Int)+1=((t+1:Nat):Int)from by omega,sN g,bs]
  by_cases g2:w.getD (t+1) 0<w.getD t 0
  ·rw[iL (by omega),zM,hd,pI]
   unfold hdS;simp only[swp]
   grind
  ·rw[iJ (by omega),zQ,bs,a1,zE (by omega) (by omega),bs,o1,bs,a2,zE (by omega) (by omega),bs]
   refine(fin (fun v=>zP0 (enW w) (t:Int) v) fun o=>.inl rfl).trans ?_;have:swp x (w.drop t)=iG:=by rw[hd,pI];simp only[swp];grind
   grind[hdS]
 ·rw[iJ (by omega),zQ,sN ht,bs,a1,zE (by omega) (by omega),bs,o1,bs,a2,zE (by omega) (by omega),bs]
  refine(fin (fun v=>zP1 (enW w) (t:Int) v) fun o=>.inr rfl).trans ?_
  grind[swp,hdS]
end
def stI(x:SPr):List Nat→Option (Nat×zEA)
 | []=>iG
 |a::w=>match hdS x (a::w)with
  |some r=>iF (0,r)
  |none=>(stI x w).map fun z=>(z.1+1,z.2)
section
variable {x:SPr}
theorem zLq:∀w:List Nat,stS x w=(stI x w).map fun z=>(z.2.1,z.2.2.1,w.take z.1++z.2.2.2)
 | []=>rfl
 |a::w=>by
  simp only[stS,stI];cases hdS x (a::w)with
  |some r=>rfl
  |none=>
   rw[zLq w];cases stI x w with
   |none=>rfl
   |some z=>rfl
theorem zQI:∀{w:List Nat}{z:Nat×zEA},stI x w=iF z→z.1<w.length∧hdS x (w.drop z.1)=iF z.2
 | [],_,h=>by cases h
 |a::w,z,h=>by
  simp only[stI]at h;cases e:hdS x (a::w)with
  |some r=>
   grind
  |none=>
   rw[e]at h;cases e2:stI x w with
   |none=>grind
   |some q=>
    rw[e2]at h;cases h;obtain⟨h1,h2⟩:=zQI e2
    grind
theorem zNl:∀(k i:Nat)(w:List Nat),i+k=w.length→(Kl i k).findSome? (fun j=>if(hdS x (w.drop j)).isSome then iF (j:Int)else iG)=(stI x (w.drop i)).map fun z=>((i+z.1:Nat):Int)
 |0,i,w,h=>by rw[Hh (by omega)];rfl
 |k+1,i,w,h=>by
  rw[Jcw,Jb8,qZ (by omega)];simp only[stI];cases e:hdS x (w.getD i 0::w.drop (i+1))with
  |some r=>rfl
  |none=>
   simp only[Uj,Ho,if_false];rw[zNl k (i+1) w (by omega)];cases stI x (w.drop (i+1))with
   |none=>rfl
   |some z=>
    grind
section
variable (h:Pres x)
 include h
theorem zBM{w:List Nat}(hw:∀a∈w,a<x.zA.length)(hl:w.length≤1000000):f_Y x (enW w)=iF (match stI x w with|some z=>(z.1:Int)|none=> -1):=by
 have gj:(enW w).length=w.length:=by simp
 unfold f_Y;have:=zJN (body:=zWu x (enW w)) w.length (fun j=>if(hdS x (w.drop j)).isSome then iF (j:Int)else iG) 0 (Ka _) (fun i _ hi _=>by
  unfold zWu;rw[gj,yT hi,zM,zIO h hw hl hi,bs];cases hdS x (w.drop i)with
  |some r=>rfl
  |none=>
   simp only[Uj];rw[zQ,zE (by omega) (by omega),bs,cs];rfl) (fun _=>by
  unfold zWu;simp)
 rw[show((0:Nat):Int)=0 from rfl,Jav,zNl w.length 0 w (by omega),U6]at this;rw[this,bs];cases stI x w with
 |none=>rfl
 |some z=>simp only[Ha,zMr,Ja]
theorem zIP(hn:x.zA.length≤6)(hv:zZR x.zA v):f_z v=iF (enW (nw 0 v))∧(nw 0 v).length≤36:=by
 have hb:∀i,i<v.length→0≤at0 v i∧at0 v i≤6:=fun i hi=>by have h1:=hv.2 i hi;have h2:=(h.os.2 i (by grind)).pos;omega
 have:=zGk 0 v (by grind);have hl:=hv.1
 grind[zAt]
theorem zDn(hn:x.zA.length≤6){w:List Nat}(hw:∀a∈w,a<x.zA.length)(hl:w.length≤900000){t:Nat}{r:zEA}(ht:t<w.length)(hr:hdS x (w.drop t)=iF r):zPz x (enW w) (t:Int)=iF (enW (w.take t++r.2.2)):=by
 have gp:∀i,i<w.length→w.getD i 0<x.zA.length:=by grind[Jy]
 have ha:=gp t ht;obtain⟨o1,o2,o3⟩:=jM h ha;have gj:(enW w).length=w.length:=by simp
 have hd:=qZ ht;have a1:((w.getD t 0:Nat):Int)+1-1=((w.getD t 0:Nat):Int):=by omega
 have a2:(t:Int)+((yL x (w.getD t 0):Nat):Int)=((t+yL x (w.getD t 0):Nat):Int):=by omega
 obtain⟨p1,p2⟩:=zIP h hn (h.tl _ ha).1.1;have h0:yD (enW w) 0 (t:Int)=iF (enW (w.take t)):=by
  have:=zDB (w:=w) (Ka t) (by omega)
  grind
 have hs:∀q,q≤w.length→yD (enW w) (q:Int) (w.length:Int)=iF (enW (w.drop q)):=fun q hq=>by rw[zDB hq (Jh _),Jn (by simp)]
 have pw:swp x (w.drop t)=iG→(rng (((w.getD t 0:Nat):Int)+1-1)).bind (fun v3=>(yD (enW w) 0 (t:Int)).bind fun v4=>(ixO x.zV v3).bind fun v5=>(f_z v5).bind fun r6=>(ixO x.zA v3).bind fun v7=>(rng ((t:Int)+v7)).bind fun v8=>(yD (enW w) v8 (w.length:Int)).bind fun v9=>(f_q [v4,r6,v9]).bind fun r10=>iF r10)=iF (enW (w.take t++r.2.2)):=fun bL=>by
  unfold hdS at hr;rw[bL]at hr;simp only at hr;rw[hd]at hr;simp only[pws]at hr;split at hr
  ·rename_i g
   have eF:=zBL g;rw[←hd,Kr]at eF;cases hr;rw[a1,zE (by omega) (by omega),bs,h0,bs,yO [] (by rw[h.pl];exact ha),bs,p1,bs,o1,bs,a2,zE (by omega) (by omega),bs,hs _ (by omega),bs,qF (by simp) (by simp only[Hn,Q9,J9,Jt,Kk,Kr,Jx,enW];omega),bs]
   simp_all
  ·cases hr
 unfold zPz;rw[gj,zE (by omega) (by omega),bs]
 by_cases g:t+1<w.length
 ·have pI:=qZ g
  have hb:=gp _ g;rw[iL (by omega),zM,sN ht,bs,bs,show(t:Int)+1=((t+1:Nat):Int)from by omega,sN g,bs]
  by_cases g2:w.getD (t+1) 0<w.getD t 0
  ·rw[hd,pI]at hr
   unfold hdS at hr;simp only[swp]at hr;rw[if_pos g2]at hr;cases hr;have fN:=h.tl _ hb;have bW:=fN.2.2 (w.getD t 0-(w.getD (t+1) 0+1)) (by have:=fN.2.1;omega);obtain⟨q1,q2⟩:=zIP h hn bW.1;have b1:((w.getD (t+1) 0:Nat):Int)+1-1=((w.getD (t+1) 0:Nat):Int):=by omega
   have b2:((w.getD t 0:Nat):Int)-((w.getD (t+1) 0:Nat):Int)-1=((w.getD t 0-(w.getD (t+1) 0+1):Nat):Int):=by omega
   rw[iL (by omega),zM,bs,a1,zE (by omega) (by omega),bs,bs,sN g,bs,b1,zE (by omega) (by omega),bs,h0,bs,zE (by omega) (by omega),bs,yO [] (by rw[h.cl];exact hb),bs,zE (by omega) (by omega),bs,b2,zE (by omega) (by omega),bs,yO [] (by have:=fN.2.1;omega),bs,q1,bs,zE (by omega) (by omega),bs,show(t:Int)+2=((t+2:Nat):Int)from by omega,hs _ (by omega),bs,qF (by simp) (by simp only[Hn,Q9,J9,Jt,Kk,Kr,Jx,J8,enW];omega),bs];simp
  ·rw[iJ (by omega),zQ,bs]
   exact pw (by rw[hd,pI];simp only[swp];grind)
 ·rw[iJ (by omega),zQ,sN ht,bs]
  exact pw (by rw[hd,Hh (by omega)];rfl)
end
end
def smx(p:Int)(D N:Nat)(F:Nat→Nat→Nat→Int):List zO:=gl N fun r=>zO.mk p (D:Int) (gl D fun i=>mkv D fun j=>F r i j%p)
def upd(F:Nat→Nat→Nat→Int)(s:Int)(r0:Nat)(A:Mx)(c:Nat):Nat→Nat→Nat→Int:=fun r i j=>F r i j+if r=r0∧i<c then s*ent A i j else 0
theorem zBN{β:Type}{f g:Nat→β}(h:∀i,i<n→f i=g i):gl n f=gl n g:=by simp_all
section
variable {x:SPr}{m:zB}{D N:Nat}{s:Int}{r0:Nat}{A:Mx}{T0:List zO}
theorem zKj(hp:Prime m.Prime)(hD:D≤3)(_:N≤100)(hs:-7≤s∧s≤7)(hr:r0<N)(hA:Mat m.Prime D A){F:Nat→Nat→Nat→Int}{L:(List zO)×Int→Option (((List zO)×Int)⊕(List zO))}
  (hL:L=zWr ⟨x,m,T0⟩ s (r0:Int) (zO.mk m.Prime (D:Int) A)∨L=zWs ⟨x,m,T0⟩ s (r0:Int) (zO.mk m.Prime (D:Int) A)∨L=zWt ⟨x,m,T0⟩ s (r0:Int) (zO.mk m.Prime (D:Int) A)):
  zI L (smx m.Prime D N F,0)=iF (smx m.Prime D N (upd F s r0 A D)):=by
 have aj:=hp.pos;have pU:=hA.1;have gF:∀c,c<D→ ∀(k:Nat),(c:Int)+1=(k:Int)→((ixO A (c:Int)).bind fun v10=>(ixO (smx m.Prime D N (upd F s r0 A c)) (r0:Int)).bind fun v11=>(ixO v11.Rows (c:Int)).bind fun v12=>(f_v v12 v10 s m.Prime).bind fun r13=>(rng ((c:Int)+1)).bind fun v14=>
   (iF (.inl ((smx m.Prime D N (upd F s r0 A c)).set (r0:Int).toNat (zO.mk v11.Prime v11.yR (v11.Rows.set (c:Int).toNat r13)),v14)):Option (((List zO)×Int)⊕(List zO))))=iF (.inl (smx m.Prime D N (upd F s r0 A (c+1)),((c+1:Nat):Int))):=fun c hc k _=>by
  have eI:Row m.Prime D (mkv D fun j=>upd F s r0 A c r0 c j%m.Prime):=⟨zY _ _,fun j hj=>by rw[yA hj];exact⟨Kq _ (by omega),by have:=Kf (upd F s r0 A c r0 c j) (show 0<m.Prime by omega);omega⟩⟩
  rw[yO [] (by omega),bs,smx,zAo hr,bs];simp only
  rw[zAo hc,bs,zBH hp eI (hA.2 c hc) hs (by omega),bs,zE (by omega) (by omega),bs,J6,J6,zDi,zDi,cs]
  congr 3
  refine zBN fun r _=>?_
  by_cases g:r=r0
  ·rw[if_pos g,g]
   congr 1
   refine zBN fun i _=>?_
   by_cases g2:i=c
   ·rw[if_pos g2,g2,vZ]
    refine yB fun j hj=>?_
    rw[yA hj,upd,upd,if_neg (by simp),if_pos (by simp),Lt];simp
   ·rw[if_neg g2]
    refine yB fun j hj=>?_
    rw[upd,upd]
    grind
  ·rw[if_neg g]
   congr 1
   refine zBN fun i _=>yB fun j _=>?_
   rw[upd,upd,if_neg (fun z=>g z.1),if_neg (fun z=>g z.1)]
 have:=zX (body:=L) (r:=smx m.Prime D N (upd F s r0 A D)) (fun c=>(smx m.Prime D N (upd F s r0 A c),(c:Int))) D (fun c hc=>by
  rcases hL with rfl|rfl|rfl
  ·unfold zWr
   grind
  ·unfold zWs
   grind
  ·unfold zWt
   grind) (by
  rcases hL with rfl|rfl|rfl
  ·unfold zWr
   grind
  ·unfold zWs
   grind
  ·unfold zWt
   grind)
 rw[show smx m.Prime D N (upd F s r0 A 0)=smx m.Prime D N F from zBN fun r _=>by
  congr 1
  refine zBN fun i _=>yB fun j _=>?_
  rw[upd,if_neg (by simp),Lt]]at this
 exact this
end
theorem zUC:∀n:Nat,n<7→ ∀j:Nat,j<n→ ∀i:Nat,i<j→((rng ((n:Int)-1)).bind fun v10=>(rng ((i:Int)*v10)).bind fun v11=>(rng ((n:Int)+v11)).bind fun v12=>(rng ((i:Int)-1)).bind fun v13=>(rng ((i:Int)*v13)).bind fun v14=>(sK v14 2).bind fun v15=>(rng (v12-v15)).bind fun v16=>(rng (v16+(j:Int))).bind fun v17=>(rng (v17-(i:Int))).bind fun v18=>(rng (v18-1)).bind fun v19=>iF v19)=iF ((base n i+(j-(i+1)):Nat):Int):=by decide+kernel
section
variable {x:SPr}{m:zB}{D:Nat}{T0:List zO} (h:Pres x) (hn:x.zA.length≤6) (hD:MOk x.zA.length m D)
 include h hn
theorem zGQ{w:List Nat}(hw:∀a∈w,a<x.zA.length)(hl:w.length≤900000){t:Nat}{r:zEA}(ht:t<w.length)(hr:hdS x (w.drop t)=iF r):zYg ⟨x,m,T0⟩ (enW w) (t:Int)=iF (r.1:Int):=by
 have _:=h;have gp:∀i,i<w.length→w.getD i 0<x.zA.length:=by grind[Jy]
 have ha:=gp t ht;have gj:(enW w).length=w.length:=by simp
 have hd:=qZ ht;have a1:((w.getD t 0:Nat):Int)+1-1=((w.getD t 0:Nat):Int):=by omega
 have pw:swp x (w.drop t)=iG→(rng (((w.getD t 0:Nat):Int)+1-1)).bind (fun v3=>iF v3)=iF (r.1:Int):=by grind[hdS,pws,zE]
 unfold zYg;rw[gj,zE (by omega) (by omega),bs]
 by_cases g:t+1<w.length
 ·have pI:=qZ g
  have hb:=gp _ g;rw[iL (by omega),zM,sN ht,bs,bs,show(t:Int)+1=((t+1:Nat):Int)from by omega,sN g,bs]
  by_cases g2:w.getD (t+1) 0<w.getD t 0
  ·rw[hd,pI]at hr
   unfold hdS at hr;simp only[swp]at hr;rw[if_pos g2]at hr;cases hr;have b1:((w.getD (t+1) 0:Nat):Int)+1-1=((w.getD (t+1) 0:Nat):Int):=by omega
   rw[iL (by omega),zM,bs,a1,zE (n:=((w.getD t 0:Nat):Int)) (by omega) (by omega),bs,bs,sN g,bs,b1,zE (n:=((w.getD (t+1) 0:Nat):Int)) (by omega) (by omega),bs]
   grind[zUC]
  ·rw[iJ (by omega),zQ,bs]
   exact pw (by rw[hd,pI];simp only[swp];grind)
 ·rw[iJ (by omega),zQ,sN ht,bs]
  exact pw (by rw[hd,Hh (by omega)];rfl)
 include hD
theorem zGv{w:List Nat}(hw:∀a∈w,a<x.zA.length)(hl:w.length≤60000){t:Nat}{r:zEA}(ht:t<w.length)(hr:hdS x (w.drop t)=iF r)(hs:-7≤s∧s≤7){F:Nat→Nat→Nat→Int}:
  f_j ⟨x,m,smx m.Prime D (base x.zA.length x.zA.length) F⟩ (enW w) (t:Int) s=iF (enW (w.take t++r.2.2),⟨x,m,smx m.Prime D (base x.zA.length x.zA.length) (upd F s r.1 (wM m.Prime D m.zF r.2.1 (idM D)) D)⟩):=by
 have hp:=hD.p.pos;have h3:=hD.d3;have cM:=wT x.zA.length (by omega);have gp:∀i,i<w.length→w.getD i 0<x.zA.length:=by grind[Jy]
 have ha:=gp t ht;obtain⟨o1,o2,o3⟩:=jM h ha;have gj:(enW w).length=w.length:=by simp
 have hd:=qZ ht;have a1:((w.getD t 0:Nat):Int)+1-1=((w.getD t 0:Nat):Int):=by omega
 have a2:(t:Int)+((yL x (w.getD t 0):Nat):Int)=((t+yL x (w.getD t 0):Nat):Int):=by omega
 have hr0:=zYY hn (by grind) hr;have hA:∀z,Mat m.Prime D (wM m.Prime D m.zF z (idM D)):=by grind[zCk,tD]
 have gN:∀q,q≤w.length→yD (enW w) (q:Int) (w.length:Int)=iF (enW (w.drop q)):=fun q hq=>by rw[zDB hq (Jh _),Jn (by simp)]
 have aR:∀q,q≤w.length→f_H m (enW (w.drop q))=iF (zO.mk m.Prime (D:Int) (wM m.Prime D m.zF (w.drop q) (idM D))):=fun q hq=>
  zBt hD (by omega) (by grind) (by grind)
 have pw:swp x (w.drop t)=iG→r.2.1=w.drop (t+yL x (w.getD t 0))∧t+yL x (w.getD t 0)≤w.length:=fun bL=>by
  unfold hdS at hr;rw[bL]at hr;simp only at hr;rw[hd]at hr;simp only[pws]at hr;split at hr
  ·rename_i g
   have eF:=zBL g
   grind[List.drop_drop]
  ·cases hr
 unfold f_j;rw[zGQ h hn hw (by omega) ht hr,bs,zDn h hn hw (by omega) ht hr,bs,gj,zE (by omega) (by omega),bs]
 by_cases g:t+1<w.length
 ·have pI:=qZ g
  have hb:=gp _ g;rw[iJ (by omega),zQ,sN ht,bs,bs,show(t:Int)+1=((t+1:Nat):Int)from by omega,sN g,bs]
  by_cases g2:w.getD (t+1) 0<w.getD t 0
  ·rw[hd,pI]at hr
   unfold hdS at hr;simp only[swp]at hr;rw[if_pos g2]at hr;cases hr;rw[iJ (by omega),zQ,zE (by omega) (by omega),bs,show(t:Int)+2=((t+2:Nat):Int)from by omega,gN _ (by omega),bs,aR _ (by omega),bs,zKj hD.p h3 (by omega) hs hr0 (hA _) (.inr (.inr rfl)),bs]
  ·obtain⟨e1,e2⟩:=pw (by rw[hd,pI];simp only[swp];grind)
   rw[iL (by omega),zM,bs,a1,zE (by omega) (by omega),bs,o1,bs,a2,zE (by omega) (by omega),bs,gN _ e2,bs,aR _ e2,bs,zKj hD.p h3 (by omega) hs hr0 (hA _) (.inr (.inl rfl)),bs,e1]
 ·obtain⟨e1,e2⟩:=pw (by rw[hd,Hh (by omega)];rfl)
  omega
end
inductive Cb (x:SPr) (M:Nat):List Nat→Trc→List Nat→Prop where
 |refl (w:List Nat) (hl:w.length≤M) (hw:∀a∈w,a<x.zA.length):Cb x M w [] w
 |step {w w1 w' s:List Nat}{r:Nat}{tr:Trc} (hl:w.length≤M) (hw:∀a∈w,a<x.zA.length) (hs:stS x w=iF (r,s,w1)) (h:Cb x M w1 tr w'):Cb x M w ((r,s)::tr) w'
theorem Cb.st{x:SPr}{w:List Nat}{tr:Trc}(h:Cb x M w tr w'):w.length≤M∧ ∀a∈w,a<x.zA.length:=by
 cases h with
 |refl _ hl hw=>grind
 |step hl hw _ _=>grind
def zDN(m:zB)(D:Nat)(s:Int):(Nat→Nat→Nat→Int)→Trc→Nat→Nat→Nat→Int
 |F,[]=>F
 |F,(r,z)::tr=>zDN m D s (upd F s r (wM m.Prime D m.zF z (idM D)) D) tr
theorem zQJ{m:zB}{D:Nat}{s:Int}{r i j:Nat}(hi:i<D):∀(tr:Trc)(F:Nat→Nat→Nat→Int),zDN m D s F tr r i j=F r i j+s*zBv m.Prime D m tr r i j
 | [],F=>by rw[zDN,zBv,La,Lt]
 |(q,z)::tr,F=>by
  rw[zDN,zQJ hi tr,upd,zBv,Int.mul_add,Int.add_assoc]
  grind
abbrev zUD(x:SPr)(w:List Nat):Int:=match stI x w with
 |some z=>(z.1:Int)
 |none=> -1
section
variable {x:SPr}{m:zB}{D:Nat} (h:Pres x) (hn:x.zA.length≤6) (hD:MOk x.zA.length m D)
 include h hn hD
theorem zLr(hs:-7≤s∧s≤7){w:List Nat}{tr:Trc}(hc:Cb x 60000 w tr w')(eL:stS x w'=iG):∀F:Nat→Nat→Nat→Int,
  zI (zWv s) (x,m,smx m.Prime D (base x.zA.length x.zA.length) F,enW w,zUD x w)=iF (x,m,smx m.Prime D (base x.zA.length x.zA.length) (zDN m D s F tr)):=by
 induction hc with
 |refl w hl hw=>
  intro F;have e:zUD x w= -1:=by
   rw[zLq]at eL
   grind
  rw[xL,e];rfl
 |step hl hw gF hc ih=>
  rename_i w w1 w2 z r tr;intro F;rw[zLq]at gF;cases g:stI x w with
  |none=>grind
  |some q=>
   rw[g]at gF;obtain⟨t,q⟩:=q;simp only[Ha,Hu.injEq,Jba.injEq]at gF;obtain⟨e1,e2,e3⟩:=gF;obtain⟨ht,hh⟩:=zQI g;simp only at ht hh;have fI:=hc.st;have e:zUD x w=(t:Int):=by grind
   have h1:=zGv h hn hD hw hl ht hh hs (F:=F);rw[e3,e1,e2]at h1;have h2:=zBM h fI.2 (by omega);rw[xL,e];have hb:zWv s (x,m,smx m.Prime D (base x.zA.length x.zA.length) F,enW w,(t:Int))=iF (.inl (x,m,smx m.Prime D (base x.zA.length x.zA.length) (upd F s r (wM m.Prime D m.zF z (idM D)) D),enW w1,zUD x w1)):=by
    unfold zWv
    grind
   rw[hb];simp only
   exact ih eL _
theorem zF8(hs:-7≤s∧s≤7){w:List Nat}{tr:Trc}(hc:Cb x 60000 w tr w')(eL:stS x w'=iG)(F:Nat→Nat→Nat→Int):
  f_u ⟨x,m,smx m.Prime D (base x.zA.length x.zA.length) F⟩ (enW w) s=iF ⟨x,m,smx m.Prime D (base x.zA.length x.zA.length) (zDN m D s F tr)⟩:=by
 have fI:=hc.st;unfold f_u;rw[show f_Y (xR.p ⟨x,m,smx m.Prime D (base x.zA.length x.zA.length) F⟩) (enW w)=iF (zUD x w)from by grind[zBM],bs];have:=zLr h hn hD hs hc eL F
 grind
end
inductive Cl (x:SPr) (k M:Nat):List Nat→Trc→List Nat→Prop where
 |refl (w:List Nat) (hl:w.length≤M) (hw:∀a∈w,k≤a∧a<x.zA.length):Cl x k M w [] w
 |step {w w1 w' s:List Nat}{r:Nat}{tr:Trc} (hl:w.length≤M) (hw:∀a∈w,k≤a∧a<x.zA.length) (hs:stS x w=iF (r,s,w1)) (h:Cl x k M w1 tr w'):Cl x k M w ((r,s)::tr) w'
theorem Cl.trans{x:SPr}{w w1 w2:List Nat}(h:Cl x k M w t1 w1)(h2:Cl x k M w1 t2 w2):Cl x k M w (t1++t2) w2:=by
 induction h with
 |refl w=>exact h2
 |step hl hw hs _ ih=>exact .step hl hw hs (ih h2)
theorem Cl.mono{x:SPr}{M2:Nat}(hM:M≤M2){w:List Nat}{tr:Trc}(h:Cl x k M w tr w'):Cl x k M2 w tr w':=by
 induction h with
 |refl w hl hw=>exact .refl _ (by omega) hw
 |step hl hw hs _ ih=>exact .step (by omega) hw hs ih
theorem Cl.cb{x:SPr}{w:List Nat}{tr:Trc}(h:Cl x k M w tr w'):Cb x M w tr w':=by
 induction h with
 |refl w hl hw=>exact .refl _ hl (by grind)
 |step hl hw hs _ ih=>exact .step hl (by grind) hs ih
theorem Cl.col{x:SPr}{w:List Nat}{tr:Trc}(h:Cl x k M w tr w'):Col x k w tr w':=by
 induction h with
 |refl w hl hw=>exact .refl _
 |step hl hw hs _ ih=>exact .step hw hs ih
section
variable {x:SPr} (h:Pres x)
 include h
theorem zQK:∀(d k:Nat),k+d=x.zA.length→ ∀y,V (suf x k) y→(nw k y).length≤6*d
 |0,k,hk,y,hy=>by
  rw[vX (x:=x) (k:=k) (by omega)]at hy;cases y with
  |nil=>simp[nw]
  |cons b y=>cases hy
 |d+1,k,hk,y,hy=>by
  have hp:=(h.os.2 k (by omega)).pos;rw[yG (x:=x) (by omega)]at hy;cases y with
  |nil=>exact hy.elim
  |cons b y=>
   obtain⟨⟨h1,h2⟩,h3⟩:=hy;have ih:=zQK d (k+1) (by omega) y h3;have cw:b<at0 x.zA k:=h2
   grind[nw]
theorem Cl.ctx(hi:i<x.zA.length)(ha:a<yL x i){s:List Nat}(hs:∀b∈s,i≤b∧b<x.zA.length){w:List Nat}{tr:Trc}(hc:Cl x (i+1) M w tr w'):
  Cl x i (a+M+s.length) (J1 a i++(w++s)) (tr.map fun q=>(q.1,q.2++s)) (J1 a i++(w'++s)):=by
 have mem:∀{w:List Nat},(∀b∈w,i+1≤b∧b<x.zA.length)→ ∀b∈J1 a i++(w++s),i≤b∧b<x.zA.length:=by grind
 induction hc with
 |refl w hl hw=>exact .refl _ (by simp;omega) (mem hw)
 | @step w w1 w' s1 r tr hl hw gF _ ih=>
  refine .step (by simp;omega) (mem hw) ?_ ih;rw[zEB ha a (Jh _) fun b hb=>?_,zLg (by grind[zNd]) gF]
  ·rfl
  ·cases w with
   |nil=>cases gF
   |cons c w=>
    simp only[K5,Jcb,Hu.injEq]at hb;have:=hw c (by simp);omega
theorem zLs(hn:x.zA.length≤6)(hi:i<j)(hj:j<x.zA.length):(nw 0 (lcj x i j)).length≤36:=(zIP h hn (uI h hi hj).1).2
theorem zQL(hn:x.zA.length≤6){i:Nat}:∀{ur:List Nat},(∀b∈ur,i+1≤b∧b<x.zA.length)→(cwd x i ur).length≤36*ur.length
 | [],_=>by simp[cwd]
 |l::ur,hu=>by
  have h1:=hu l (by simp);have h2:=zLs h hn (show i<l by omega) h1.2;have ih:=zQL hn (ur:=ur) fun b hb=>hu b (by simp[hb])
  grind[cwd]
theorem Cl.move(hn6:x.zA.length≤6){i a:Nat}(hi:i<x.zA.length)(ha:a<yL x i):∀{ur:List Nat},(∀b∈ur,i+1≤b∧b<x.zA.length)→stS x ur.reverse=iG→ ∀{z:List Nat},(∀b∈z,i≤b∧b<x.zA.length)→
  Cl x i (a+1+37*ur.length+z.length) (J1 a i++(ur.reverse++i::z)) (mtr x i ur z) (J1 (a+1) i++(cwd x i ur++z))
 | [],_,_,z,hz=>by
  have e:J1 a i++(([]:List Nat).reverse++i::z)=J1 (a+1) i++(cwd x i []++z):=by grind[Lo,cwd]
  rw[e];refine .refl _ (by simp[cwd]) fun b hb=>?_
  grind
 |l::ur,hu,hn,z,hz=>by
  obtain⟨l1,l2⟩:=hu l (by simp);have cZ:∀b∈ur,i+1≤b∧b<x.zA.length:=by grind
  have p6:=tE h (uI h (show i<l by omega) l2) hi;have ba:=zLs h hn6 (show i<l by omega) l2;rw[Uw]at hn ⊢
  have b8:=zGJ (by grind[zNd]) hn;have eS:∀b∈nw 0 (lcj x i l)++z,i≤b∧b<x.zA.length:=by grind
  have ih:=(Cl.move hn6 hi ha cZ b8 eS).mono (M2:=a+1+37*(l::ur).length+z.length) (by grind);rw[show cwd x i (l::ur)++z=cwd x i ur++(nw 0 (lcj x i l)++z)from by simp[cwd]];have e1:ur.reverse++[l]++i::z=ur.reverse++l::i::z:=by simp
  rw[e1];refine .step (by simp;omega) (fun b hb=>?_) ?_ ih
  ·simp only[Jd,J7,List.mem_reverse]at hb
   rcases hb with hb|hb|hb|hb|hb
   ·grind
   ·grind
   ·omega
   all_goals grind
  ·rw[zEB ha a (Jh _) fun b hb=>?_,zUt (by grind) (by omega) hn]
   ·rfl
   ·have:b∈ur.reverse++l::i::z:=by grind[Jap]
    cases e:ur.reverse with
    |nil=>grind
    |cons c t=>
     rw[e]at hb;simp only[K5,Jcb,Hu.injEq]at hb
     grind
end
section
variable {x:SPr} (h:Pres x) (hn:x.zA.length≤6)
 include h hn
theorem zLt{k M W L:Nat}(hk:k<x.zA.length)(P:∀v:List Nat,v.length≤W→(∀a∈v,k+1≤a∧a<x.zA.length)→ ∃tr y,Cl x (k+1) M v tr (nw (k+1) y)∧V (suf x (k+1)) y):∀(z:List Nat),z.length≤L→(∀a∈z,k≤a∧a<x.zA.length)→ ∀(a:Nat),a<yL x k→ ∀(v:List Nat),v.length+z.length≤W→1400+z.length≤W→(∀a∈v,k+1≤a∧a<x.zA.length)→
  ∃tr y,Cl x k (M+L+1500) (J1 a k++(v++z)) tr (nw k y)∧V (suf x k) y
 | [],_,_,a,ha,v,pV,_,hv=>by
  obtain⟨tr,y,c1,c2⟩:=P v (by omega) hv;have ho:=(jM h hk).2.2;have hc:=(Cl.ctx h hk ha (s:=[]) (by simp) c1).mono (M2:=M+L+1500) (by simp;omega);rw[show(fun q:Nat×List Nat=>(q.1,q.2++[]))=id from by grind,List.map_id,Jf,Jf]at hc;refine⟨tr,(a:Int)::y,?_,?_⟩
  ·grind[nw]
  ·rw[yG hk]
   refine⟨⟨by omega,?_⟩,c2⟩;show(a:Int)<at0 x.zA k
   grind
 |l::z,mh,hz,a,ha,v,pV,hW,hv=>by
  have ho:=(jM h hk).2.2;have hzl2:z.length+1≤L:=by omega
  have dq:v.length+(z.length+1)≤W:=by omega
  have hW2:1400+(z.length+1)≤W:=by omega
  have eS:∀b∈z,k≤b∧b<x.zA.length:=by grind
  obtain⟨l1,l2⟩:=hz l (by simp);rcases Jg k l with g|g
  ·obtain⟨tr,y,c1,c2⟩:=zLt (L:=L) hk P z (by omega) eS a ha (v++[l]) (by simp;omega) (by omega) (by grind)
   grind
  ·obtain rfl:l=k:=by omega
   obtain⟨tr1,y1,c1,c2⟩:=P v (by omega) hv;have gO:=zQ9 h (by omega) c2;have pG:∀b∈(nw (l+1) y1).reverse,l+1≤b∧b<x.zA.length:=by grind
   have fb:(nw (l+1) y1).length≤36:=by have:=zQK h (x.zA.length-(l+1)) (l+1) (by omega) y1 c2;omega
   have gC:(cwd x l (nw (l+1) y1).reverse).length≤1296:=by grind[zQL]
   have k1:=(Cl.ctx h hk ha (s:=l::z) hz c1).mono (M2:=M+L+1500) (by simp;omega);have k2:=(Cl.move h hn hk ha pG (by rw[Kh];exact zGt h _ _ (by omega:l+1+(x.zA.length-(l+1))=x.zA.length) y1 c2) eS).mono (M2:=M+L+1500) (by grind);rw[Kh]at k2;have pS:=zLj h pG;rcases Jg (a+1) (yL x l)with g2|g2
   ·obtain⟨tr2,y2,d1,d2⟩:=zLt (L:=L) hk P z (by omega) eS (a+1) g2 (cwd x l (nw (l+1) y1).reverse) (by omega) (by omega) pS
    exact⟨_,y2,k1.trans (k2.trans d1),d2⟩
   ·have g4:a+1=yL x l:=by omega
    have pP:=qN h hk;have pQ:=tE h pP hk;have cU:=(zIP h hn pP.1).2;have aX:∀b∈nw 0 (x.zV.getD l [])++cwd x l (nw (l+1) y1).reverse,l+1≤b∧b<x.zA.length:=fun b hb=>by
     simp only[Jd]at hb;rcases hb with hb|hb
     ·grind
     grind
    obtain⟨tr2,y2,d1,d2⟩:=zLt (L:=L) hk P z (by omega) eS 0 (by omega) _ (by grind) (by omega) aX;rw[Lv,K0,Jj]at d1;have k3:Cl x l (M+L+1500) (J1 (a+1) l++(cwd x l (nw (l+1) y1).reverse++z)) ((l,cwd x l (nw (l+1) y1).reverse++z)::tr2) (nw l y2):=by
     refine .step (by grind[J9,Jc]) (fun b hb=>?_) (by grind[zYK,zNd]) d1;simp only[Jd]at hb;rcases hb with hb|hb|hb
     ·grind
     ·grind
     grind
    exact⟨_,y2,k1.trans (k2.trans k3),d2⟩
def lnB:Nat→Nat→Nat
 |0,l=>l
 |d+1,l=>lnB d (l+1400)+l+1500
theorem zZa:∀(d k:Nat),k+d=x.zA.length→ ∀(L:Nat)(z:List Nat),z.length≤L→(∀a∈z,k≤a∧a<x.zA.length)→ ∃tr y,Cl x k (lnB d L) z tr (nw k y)∧V (suf x k) y
 |0,k,hk,L,z,_,hz=>by
  have:z=[]:=by
   cases z with
   |nil=>rfl
   |cons a z=>have:=hz a (by simp);omega
  subst this;exact⟨[],[],.refl _ (by simp) (by simp),by rw[vX (x:=x) (k:=k) (by omega)];rfl⟩
 |d+1,k,hk,L,z,hl,hz=>by
  have ho:=zNd h (show k<x.zA.length by omega);obtain⟨tr,y,c1,c2⟩:=zLt h hn (M:=lnB d (L+1400)) (W:=L+1400) (L:=L) (by omega) (fun v hv hvm=>zZa d (k+1) (by omega) (L+1400) v hv hvm) z hl hz 0 (by omega) [] (by simp;omega) (by omega) (by simp)
  grind[lnB]
theorem zQM{L:Nat}(hk:k≤x.zA.length){z:List Nat}(hl:z.length≤L){tr:Trc}(hc:qU x k z tr y)(hz:∀a∈z,k≤a∧a<x.zA.length):Cb x (lnB (x.zA.length-k) L) z tr (nw k y)∧stS x (nw k y)=iG:=by obtain⟨tr2,y2,c1,c2⟩:=zZa h hn (x.zA.length-k) k (by omega) L z hl hz;have n1:=zGt h (x.zA.length-k) k (by omega) y hc.v;have n2:=zGt h (x.zA.length-k) k (by omega) y2 c2;obtain⟨e1,e2⟩:=Col.det hc.col c1.col n1 n2;rw[e1,e2];exact⟨c1.cb,n2⟩
end
theorem yAz:∀d:Nat,d<7→lnB d 100≤60000:=by decide
structure PD.Ok (x:SPr) (d:PD):Prop where
 h1:hdS x (d.wd.drop 0)=iF (d.r1,d.s1,d.w1)
 ht:d.t<d.wd.length
 h2:∃q,hdS x (d.wd.drop d.t)=iF (d.r2,d.s2,q)∧d.w2=d.wd.take d.t++q
 l:d.wd.length≤9
 l1:d.w1.length≤100
 l2:d.w2.length≤100
 m1:∀a∈d.w1,d.k≤a∧a<x.zA.length
 m2:∀a∈d.w2,d.k≤a∧a<x.zA.length
section
variable {x:SPr} (h:Pres x) (hn:x.zA.length≤6)
 include h hn
theorem zQN{b:Nat}{s:List Nat}(di:b<a):hdS x (a::b::s)=iF (base x.zA.length b+(a-(b+1)),s,b::(nw 0 (lcj x b a)++s)):=by
 have _:=h;have _:=hn;unfold hdS;simp only[swp]
 grind
theorem zQO{s:List Nat}(ha:a<x.zA.length):hdS x (J1 (yL x a) a++s)=iF (a,s,nw 0 (x.zV.getD a [])++s):=by
 have _:=hn;obtain⟨q,hq⟩:∃q,yL x a=q+2:=⟨yL x a-2,by have:=(jM h ha).2.1;omega⟩;have e:swp x (J1 (yL x a) a++s)=iG:=by rw[hq,Jq,Jq];simp only[K5,swp];simp
 unfold hdS;rw[e];have e2:J1 (yL x a) a++s=a::(J1 (q+1) a++s):=by grind
 have e3:(J1 (yL x a) a++s).take (yL x a)=J1 (yL x a) a:=by simp
 have e4:(J1 (yL x a) a++s).drop (yL x a)=s:=by simp
 rw[e2]at e3 e4;rw[e2];simp only[pws]
 grind
theorem zLu:∀d∈cps x,d.Ok x:=by
 have fw:∀i j,i<j→j<x.zA.length→ ∀a∈nw 0 (lcj x i j),i+1≤a∧a<x.zA.length:=fun i j hi hj=>(tE h (uI h hi hj) (by omega)).2
 have fR:∀i,i<x.zA.length→ ∀a∈nw 0 (x.zV.getD i []),i+1≤a∧a<x.zA.length:=fun i hi=>(tE h (qN h hi) hi).2
 have lcon:∀i j,i<j→j<x.zA.length→(nw 0 (lcj x i j)).length≤36:=fun i j hi hj=>zLs h hn hi hj
 have lpow:∀i,i<x.zA.length→(nw 0 (x.zV.getD i [])).length≤36:=fun i hi=>(zIP h hn (qN h hi).1).2
 have od:∀i,i<x.zA.length→2≤yL x i∧yL x i≤7:=fun i hi=>(jM h hi).2
 refine zBi.2 ⟨fun i j k h1 h2 h3=>?_,fun i j h1 h2=>?_,fun i j h1 h2=>?_,fun i h1=>?_⟩
 ·have c1:=lcon j k h2 h3
  have c2:=lcon i j h1 (by omega);refine⟨zQN h hn h2,by simp[pd2],⟨i::(nw 0 (lcj x i j)++[]),zQN h hn h1,by simp[pd2]⟩,by simp[pd2],by simp only[pd2,J8,J9,Jx];omega,by simp only[pd2,J8];omega,fun a ha=>?_,fun a ha=>?_⟩
  ·simp only[pd2,J7,Jd,Ut,or_false]at ha ⊢
   rcases ha with rfl|ha|rfl
   ·omega
   ·have:=fw j k (by omega) h3 a ha;omega
   ·omega
  ·simp only[pd2,J7]at ha ⊢
   rcases ha with rfl|rfl|ha
   ·omega
   ·omega
   ·have:=fw i j (by omega) (by omega) a ha;omega
 ·have c1:=lpow j h2
  have c2:=lcon i j h1 h2;have o:=od j h2;have e:J1 (yL x j) j++[i]=J1 (yL x j-1) j++[j,i]:=by obtain⟨q,hq⟩:∃q,yL x j=q+1:=⟨yL x j-1,by omega⟩;rw[hq,Lo,Jan,Jj];rfl
  refine⟨zQO h hn h2,by simp only[pd1,J9,Jc,J8,Jx];omega,⟨i::(nw 0 (lcj x i j)++[]),?_,?_⟩,by simp only[pd1,J9,Jc,J8,Jx];omega,by simp only[pd1,J8,J9,Jx];omega,by simp only[pd1,J9,Jc,J8];omega,fun a ha=>?_,fun a ha=>?_⟩
  ·show hdS x ((J1 (yL x j) j++[i]).drop (yL x j-1))=_
   rw[e,Jz (Jc)];exact zQN h hn h1
  ·show _=(J1 (yL x j) j++[i]).take (yL x j-1)++_
   rw[e,Jo (Jc),Jf];rfl
  ·simp only[pd1,Jd,List.mem_singleton]at ha ⊢
   rcases ha with ha|rfl
   ·have:=fR j h2 a ha;omega
   ·omega
  ·simp only[pd1,Jd,J7]at ha ⊢
   rcases ha with ha|rfl|ha
   ·have:=Lr ha;omega
   ·omega
   ·have:=fw i j h1 h2 a ha;omega
 ·have c1:=lpow i (by omega)
  have c2:=lcon i j h1 h2;have o:=od i (by omega);have e:J1 (yL x i) i=i::J1 (yL x i-1) i:=by obtain⟨q,hq⟩:∃q,yL x i=q+1:=⟨yL x i-1,by omega⟩;rw[hq,Jq,Jan]
  refine⟨?_,by simp only[pd4,Jc,J8];omega,⟨nw 0 (x.zV.getD i [])++[],?_,by simp[pd4]⟩,by simp only[pd4,Jc,J8];omega,by simp only[pd4,J8,J9,Jc];omega,by simp only[pd4,J8];omega,fun a ha=>?_,fun a ha=>?_⟩
  ·show hdS x (j::J1 (yL x i) i)=_
   rw[e];exact zQN h hn h1
  ·show hdS x (J1 (yL x i) i)=_
   have:=zQO h hn (s:=[]) (show i<x.zA.length by omega);rw[Jf]at this;exact this
  ·simp only[pd4,J7,Jd]at ha ⊢
   rcases ha with rfl|ha|ha
   ·omega
   ·have:=fw i j h1 h2 a ha;omega
   ·have:=Lr ha;omega
  ·simp only[pd4,J7]at ha ⊢
   rcases ha with rfl|ha
   ·omega
   ·have:=fR i (by omega) a ha;omega
 ·have c1:=lpow i h1
  have o:=od i h1;refine⟨?_,by simp only[pd3,Jc];omega,⟨nw 0 (x.zV.getD i [])++[],?_,?_⟩,by simp only[pd3,Jc];omega,by simp only[pd3,J8,J9,Jx];omega,by simp only[pd3,J8];omega,fun a ha=>?_,fun a ha=>?_⟩
  ·show hdS x (J1 (yL x i+1) i)=_
   rw[Lo];exact zQO h hn h1
  ·show hdS x ((J1 (yL x i+1) i).drop 1)=_
   rw[Jq,List.drop_succ_cons,U6];have:=zQO h hn (s:=[]) h1;rw[Jf]at this;exact this
  ·show i::nw 0 (x.zV.getD i [])=(J1 (yL x i+1) i).take 1++_
   rw[Jq,Jf];rfl
  ·simp only[pd3,Jd,List.mem_singleton]at ha ⊢
   rcases ha with ha|rfl
   ·have:=fR i h1 a ha;omega
   ·omega
  ·simp only[pd3,J7]at ha ⊢
   rcases ha with rfl|ha
   ·omega
   ·have:=fR i h1 a ha;omega
end
section
variable {x:SPr}{m:zB}{D:Nat} (h:Pres x) (hn:x.zA.length≤6) (hD:MOk x.zA.length m D)
 include h hn hD
theorem zRO(hd:d∈cps x)(hb:d.B x t1 t2)(F:Nat→Nat→Nat→Int):
  ((f_j ⟨x,m,smx m.Prime D (base x.zA.length x.zA.length) F⟩ (enW d.wd) ((0:Nat):Int) 1).bind fun r=>(f_u r.2 r.1 1).bind fun k2=>(f_j k2 (enW d.wd) (d.t:Int) (-1)).bind fun r3=>f_u r3.2 r3.1 (-1))=
   iF ⟨x,m,smx m.Prime D (base x.zA.length x.zA.length) (zDN m D (-1) (zDN m D 1 F t1) t2)⟩:=by
 have ok:=zLu h hn d hd;obtain⟨hk,mH,_⟩:=zHj h hn d hd;obtain⟨⟨u1,y1,rfl,k1⟩,⟨u2,y2,rfl,k2⟩⟩:=hb;obtain⟨q,q1,q2⟩:=ok.h2;have hl:=ok.l;have ht:=ok.ht;obtain⟨c1,n1⟩:=zQM h hn (by omega) ok.l1 k1 ok.m1;obtain⟨c2,n2⟩:=zQM h hn (by omega) ok.l2 k2 ok.m2;have up:∀{w w':List Nat}{tr:Trc},Cb x (lnB (x.zA.length-d.k) 100) w tr w'→Cb x 60000 w tr w':=fun{w w' tr} hc=>by
  have hM:=yAz (x.zA.length-d.k) (by omega)
  generalize lnB (x.zA.length-d.k) 100=M at hc hM
  induction hc with
  |refl w hl hw=>exact .refl _ (by omega) hw
  |step hl hw hs _ ih=>exact .step (by omega) hw hs ih
 rw[zGv h hn hD mH (by omega) (by omega) ok.h1 (s:=1) (by omega) (F:=F),bs];simp only[Kd,K0];rw[zF8 h hn hD (by omega) (up c1) n1,bs,zGv h hn hD mH (by omega) ht q1 (s:=-1) (by omega),bs];simp only
 rw[←q2,zF8 h hn hD (by omega) (up c2) n2];rfl
end
theorem zUE{p:Int}(hi:i<D)(hp:m.Prime=p):(mkv D fun j=>zDN m D (-1) (zDN m D 1 (fun _ _ _=>0) t1) t2 r i j%m.Prime)=prR p D m t1 t2 (r*D+i):=by grind[vQ,prR,zQJ]
theorem tF{α β:Type}{f:α→List β}{c:Nat}(hf:∀a,(f a).length≤c):∀l:List α,(l.flatMap f).length≤l.length*c
 | []=>by simp
 |a::l=>by
  have:=tF hf l
  grind[K8]
theorem zHk{x:SPr}(hn:x.zA.length≤6):(cps x).length≤300:=by
 have hu:∀i,(ups x.zA.length i).length≤6:=by grind[ups]
 have h1:=tF (c:=36) (f:=fun i=>(ups x.zA.length i).flatMap fun j=>(ups x.zA.length j).map fun k=>pd2 x i j k) (fun i=>by
  have:=tF (c:=6) (f:=fun j=>(ups x.zA.length j).map fun k=>pd2 x i j k) (by grind) (ups x.zA.length i)
  grind) (Jb x.zA.length)
 have h2:=tF (c:=6) (f:=fun i=>(ups x.zA.length i).map fun j=>pd1 x i j) (by grind) (Jb x.zA.length);have h3:=tF (c:=6) (f:=fun i=>(ups x.zA.length i).map fun j=>pd4 x i j) (by grind) (Jb x.zA.length)
 grind[cps]
section
variable {x:SPr}{m:zB}{D:Nat} (hx:zAi x) (hD:MOk x.zA.length m D)
 include hx hD
theorem zNm(h0:0<x.zA.length)(hc:wN (suf x 0))(hr:zC6 x m D)(hq:qY x (cps x) prs):∃K,f_m x m=iF K∧
  f_O m.Prime (gl (base x.zA.length x.zA.length*D) fun k=>zAu m.Prime D m prs k) ((prs.length*D:Nat):Int)=iF K:=by
 have h6:=hx.n6;have hp:=hD.p.pos;have hb:=wT x.zA.length (by omega);have h3:=hD.d3;have hB:base x.zA.length x.zA.length*D≤21*3:=Jm hb.2.1 h3;have hql:prs.length≤300:=by rw[←hq.len];exact zHk h6
 have hqD:prs.length*D≤300*3:=Jm hql h3;obtain⟨K,pk,k1,k2,k3⟩:=zGL hx hD h0 hc hr;obtain⟨K2,pk2,_,j2,j3,j4⟩:=zGm hD.p (c:=prs.length*D) (N:=base x.zA.length x.zA.length*D) (A:=gl (base x.zA.length x.zA.length*D) fun k=>zAu m.Prime D m prs k) (by omega) (fun k hk=>by rw[wF hk];refine⟨zIM prs,fun j hj=>?_⟩;have aU:0<D:=hD.d1;have hi:j/D<prs.length:=(Ll aU).2 hj;have hm:j%D<D:=Hb _ aU;have e:=zF7 (F:=fun q:Trc×Trc=>prR m.Prime D m q.1 q.2 k) (fun _=>zY _ _) prs (j/D) (j%D) hi hm;rw[show j/D*D+j%D=j from by grind[L4]]at e;rw[zAu,e,prR,yA hm];exact⟨Kq _ (by omega),by have:=Kf (zBv m.Prime D m (prs[j/D]).1 (k/D) (k%D) (j%D)-zBv m.Prime D m (prs[j/D]).2 (k/D) (k%D) (j%D)) (show 0<m.Prime by omega);omega⟩) wU
 have key:∀y,Row m.Prime (base x.zA.length x.zA.length*D) y→(Sp m.Prime (base x.zA.length x.zA.length*D) K y↔Sp m.Prime (base x.zA.length x.zA.length*D) K2 y):=by grind[zU9]
 have e:K=K2:=Red.unique (by omega) k2 j3 ⟨fun i hi=>(key _ (k2.row i hi)).1 (qG hi),fun i hi=>(key _ (j3.row i hi)).2 (qG hi)⟩
 grind
end
section
variable {x:SPr}{m:zB}{D:Nat} (h0:x.zA.length=0) (hD:MOk x.zA.length m D)
 include h0 hD
theorem zRP{T:Mx}:f_P ⟨x,m,T⟩=iF []:=by
 have _:=hD;unfold f_P;rw[xL];unfold zSi
 grind
theorem zOV:∃K pk,f_m x m=iF K∧f_O m.Prime [] 0=iF K∧Red m.Prime 0 K pk:=by
 obtain⟨K,pk,k1,k2,k3,_⟩:=zGm hD.p (c:=0) (N:=0) (A:=[]) (by omega) (by simp) rfl;refine⟨K,pk,?_,k2,k3⟩;unfold f_m;have e1:=zIN hD (N:=0) (by omega);have e2:=zKi hD (B:=0) (L:=[]) (by omega) (by simp) (by simp);rw[Uv]at e1;rw[zE5 h0 (by omega),bs,hD.d,show base 0 0=0 from rfl,show((0:Nat):Int)*(D:Int)=((0:Nat):Int)from by simp,zE (by omega) (by omega),bs,e1,bs,zRP h0 hD,bs,e2,bs,show((([]:Mx).length:Nat):Int)*(D:Int)=((0:Nat):Int)from by simp,zE (by omega) (by omega),bs]
 grind
end
theorem yDz{v:Int}:f_l [v] 4=iF [v,v,v,v]:=by
 unfold f_l;have h:=zX (body:=zCx) (r:=[v,v,v,v]) (fun i=>match i with|0=>([v,0,0,0],1)|1=>([v,v,0,0],2)|_=>([v,v,v,v],4)) 2 (fun i hi=>by
  match i,hi with
  |0,_=>rfl
  |1,_=>simp[zCx,yD,wX,rng,inR]) (by rfl)
 rw[show decide ((4:Int)<0)=iI from rfl,zQ,zMF (by rfl),bs];have hl:xI (IntKind.wrap .i64 4)=iF 4:=by rfl
 simp only[hl,bs];rw[show decide ((0:Int)> 0)=iI from rfl,zQ,show decide ((4:Int)> 9223372036854775807)=iI from by decide,zQ]
 grind[wX]
theorem yD0{v:Int}:f_l [v] 6=iF [v,v,v,v,v,v]:=by
 unfold f_l;have h:=zX (body:=zCx) (r:=[v,v,v,v,v,v]) (fun i=>match i with|0=>([v,0,0,0,0,0],1)|1=>([v,v,0,0,0,0],2)|2=>([v,v,v,v,0,0],4)|_=>([v,v,v,v,v,v],6)) 3 (fun i hi=>by
  match i,hi with
  |0,_=>rfl
  |1,_=>simp[zCx,yD,wX,rng,inR]
  |2,_=>rfl) (by rfl)
 rw[show decide ((6:Int)<0)=iI from rfl,zQ,zMF (by rfl),bs];have hl:xI (IntKind.wrap .i64 6)=iF 6:=by rfl
 simp only[hl,bs];rw[show decide ((0:Int)> 0)=iI from rfl,zQ,show decide ((6:Int)> 9223372036854775807)=iI from by decide,zQ];have e2:wX (J1 6 (0:Int)) 0 (([v]:List Int).take ((J1 6 (0:Int)).length-0))=[v,0,0,0,0,0]:=by rfl
 grind
theorem yD1{v:Int}:f_l [v] 8=iF [v,v,v,v,v,v,v,v]:=by
 unfold f_l;have h:=zX (body:=zCx) (r:=[v,v,v,v,v,v,v,v]) (fun i=>match i with|0=>([v,0,0,0,0,0,0,0],1)|1=>([v,v,0,0,0,0,0,0],2)|2=>([v,v,v,v,0,0,0,0],4)|_=>([v,v,v,v,v,v,v,v],8)) 3 (fun i hi=>by
  match i,hi with
  |0,_=>rfl
  |1,_=>simp[zCx,yD,wX,rng,inR]
  |2,_=>simp[zCx,yD,wX,rng,inR]) (by rfl)
 rw[show decide ((8:Int)<0)=iI from rfl,zQ,zMF (by rfl),bs];have hl:xI (IntKind.wrap .i64 8)=iF 8:=by rfl
 simp only[hl,bs];rw[show decide ((0:Int)> 0)=iI from rfl,zQ,show decide ((8:Int)> 9223372036854775807)=iI from by decide,zQ];have e2:wX (J1 8 (0:Int)) 0 (([v]:List Int).take ((J1 8 (0:Int)).length-0))=[v,0,0,0,0,0,0,0]:=by rfl
 grind
theorem zBj{β:Type}{body:List β×Int→Option ((List β×Int)⊕List β)}(s n B:Nat)(F:Nat→List β)(a0:List β)(hB:a0.length+((Kl s n).flatMap F).length≤B)
  (h:∀i acc,s≤i→i<s+n→acc.length+(F i).length≤B→body (acc,((i+1:Nat):Int))=iF (.inl (acc++F i,((i+1+1:Nat):Int))))(he:∀acc,body (acc,((s+n+1:Nat):Int))=iF (.inr acc)):
  zI body (a0,((s+1:Nat):Int))=iF (a0++(Kl s n).flatMap F):=by
 have:=zX (body:=body) (r:=a0++(Kl s n).flatMap F) (fun i=>(a0++(Kl s i).flatMap F,((s+i+1:Nat):Int))) n (fun i hi=>by
  have e:(Kl s (i+1)).flatMap F=(Kl s i).flatMap F++F (s+i):=by rw[List.range'_1_concat,Jcz,Lp,List.flatMap_nil,Jf]
  have hle:((Kl s (i+1)).flatMap F).length≤((Kl s n).flatMap F).length:=by
   obtain⟨k,rfl⟩:∃k,n=i+1+k:=⟨n-(i+1),by omega⟩;have e3:Kl s (i+1+k)=Kl s (i+1)++Kl (s+(i+1)) k:=List.range'_append_1.symm
   grind
  grind) (he _)
 grind
def CPd(d:PD):zN:=⟨enW d.wd,enW d.w1,enW d.w2⟩
section
variable {x:SPr} (h:Pres x) (hn:x.zA.length≤6)
 include h
theorem zNn{v:Int}(ha:a<x.zA.length):zNP v ((yL x a:Nat):Int)=iF (J1 (yL x a) v):=by
 have hp:=h.os.2 a ha;have e:=(jM h ha).1;have e2:at0 x.zA a=((yL x a:Nat):Int):=by grind[yQ]
 grind[zNP,zDh]
theorem zRQ{v:Int}(ha:a<x.zA.length):zNP v (((yL x a+1:Nat)):Int)=iF (J1 (yL x a+1) v):=by
 have hp:=h.os.2 a ha;have e:=(jM h ha).1;have e2:at0 x.zA a=((yL x a:Nat):Int):=by grind[yQ]
 rw[e2]at hp;have:yL x a=2∨yL x a=3∨yL x a=5∨yL x a=7:=by rcases hp with g|g|g|g<;>omega
 unfold zNP;rcases this with g|g|g|g<;>rw[g]
 ·exact(congrArg (fun o=>Gv o _) (zDh (v:=v) (o:=3) (.inr (.inl rfl)))).trans rfl
 ·exact(congrArg (fun o=>Gv o _) (yDz (v:=v))).trans rfl
 ·exact(congrArg (fun o=>Gv o _) (yD0 (v:=v))).trans rfl
 ·exact(congrArg (fun o=>Gv o _) (yD1 (v:=v))).trans rfl
 include hn
theorem zF9(hd:d∈cps x)(ho:out.length≤100000):f_Z (enW d.wd) (d.t:Int) out x=iF (out++[CPd d]):=by have ok:=zLu h hn d hd;obtain⟨_,mH,_⟩:=zHj h hn d hd;obtain⟨q,q1,q2⟩:=ok.h2;have hl:=ok.l;have ht:=ok.ht;unfold f_Z;rw[show(0:Int)=((0:Nat):Int)from rfl,zDn h hn mH (by omega) (by omega) ok.h1,bs,zDn h hn mH (by omega) ht q1,bs,yI (by grind),bs];simp only[Kd,K0];rw[←q2];rfl
end
theorem zCw{α β:Type}{f:α→β}:∀l:List α,(l.flatMap fun a=>[f a])=l.map f
 | []=>rfl
 |a::l=>by rw[Lp,zCw l];rfl
theorem zA8(hN:N≤6):(ups N i).length≤6:=by grind[ups]
section
variable {x:SPr} (h:Pres x) (hn:x.zA.length≤6)
 include h hn
theorem yCx(gR:i<j)(hj:j<x.zA.length){o2:List zN}(ho:out.length≤3000):
  zI (zSo x (o1,((i+1:Nat):Int)) (o2,((j+1:Nat):Int))) (out,((j+1+1:Nat):Int))=iF (out++(ups x.zA.length j).map fun k=>CPd (pd2 x i j k)):=by
 have hm:=((zBi (x:=x) (φ:=fun d=>d∈cps x)).1 fun d hd=>hd).1;have hu:=zA8 (i:=j) hn;have:=zBj (body:=zSo x (o1,((i+1:Nat):Int)) (o2,((j+1:Nat):Int))) (j+1) (x.zA.length-(j+1)) 4000 (fun k=>[CPd (pd2 x i j k)]) out (by rw[zCw,Jt];grind) (fun k acc hk1 fV hb=>by
  unfold zSo;simp only
  have e:([((k+1:Nat):Int),((j+1:Nat):Int),((i+1:Nat):Int)])=enW (pd2 x i j k).wd:=by rfl
  rw[iL (by omega),zM,e,show(1:Int)=((pd2 x i j k).t:Int)from rfl,zF9 h hn (by grind) (by omega),bs,show((k+1:Nat):Int)+((pd2 x i j k).t:Int)=((k+1+1:Nat):Int)from rfl,zE (by omega) (by omega),bs]) (fun acc=>by
  unfold zSo
  grind)
 rw[zCw]at this;exact this
theorem yCy(hi:i<x.zA.length)(ho:out.length≤2000):
  zI (zSp x (o1,((i+1:Nat):Int))) (out,((i+1+1:Nat):Int))=iF (out++(ups x.zA.length i).flatMap fun j=>(ups x.zA.length j).map fun k=>CPd (pd2 x i j k)):=by
 have hu:=zA8 (i:=i) hn;have hf:=tF (c:=6) (f:=fun j=>(ups x.zA.length j).map fun k=>CPd (pd2 x i j k)) (by grind[zA8]) (ups x.zA.length i);have:=zBj (body:=zSp x (o1,((i+1:Nat):Int))) (i+1) (x.zA.length-(i+1)) 3000 (fun j=>(ups x.zA.length j).map fun k=>CPd (pd2 x i j k)) out (by grind[ups]) (fun j acc hj1 bg hb=>by
  unfold zSp;simp only
  rw[iL (by omega),zM,show((j+1:Nat):Int)+1=((j+1+1:Nat):Int)from by omega,zE (by omega) (by omega),bs,yCx h hn (by omega) (by omega) (by omega),bs,bs]) (fun acc=>by
  unfold zSp
  grind)
 exact this
theorem yCz:zI (zSq x) ([],1)=iF ((Jb x.zA.length).flatMap fun i=>(ups x.zA.length i).flatMap fun j=>(ups x.zA.length j).map fun k=>CPd (pd2 x i j k)):=by
 have hf:=tF (c:=36) (f:=fun i=>(ups x.zA.length i).flatMap fun j=>(ups x.zA.length j).map fun k=>CPd (pd2 x i j k)) (fun i=>by
  have:=tF (c:=6) (f:=fun j=>(ups x.zA.length j).map fun k=>CPd (pd2 x i j k)) (by grind[zA8]) (ups x.zA.length i)
  grind[zA8]) (Jb x.zA.length)
 rw[H4]at hf;have:=zBj (body:=zSq x) 0 x.zA.length 2000 (fun i=>(ups x.zA.length i).flatMap fun j=>(ups x.zA.length j).map fun k=>CPd (pd2 x i j k)) [] (by grind[L8]) (fun i acc aD fX hb=>by
  unfold zSq;simp only
  rw[iL (by omega),zM,show((i+1:Nat):Int)+1=((i+1+1:Nat):Int)from by omega,zE (by omega) (by omega),bs,yCy h hn (by omega) (by omega),bs,bs]) (fun acc=>by
  unfold zSq
  grind)
 grind[L8]
theorem yC0(hi:i<x.zA.length)(ho:out.length≤3000):
  zI (zSr x (o1,((i+1:Nat):Int))) (out,((i+1+1:Nat):Int))=iF (out++(ups x.zA.length i).map fun j=>CPd (pd1 x i j)):=by
 have hm:=((zBi (x:=x) (φ:=fun d=>d∈cps x)).1 fun d hd=>hd).2.1;have hu:=zA8 (i:=i) hn;have:=zBj (body:=zSr x (o1,((i+1:Nat):Int))) (i+1) (x.zA.length-(i+1)) 4000 (fun j=>[CPd (pd1 x i j)]) out (by rw[zCw,Jt];rw[ups]at hu;omega) (fun j acc hj1 bg hb=>by
  have ho:=jM h (show j<x.zA.length by omega);unfold zSr;simp only
  have e:J1 (yL x j) ((j+1:Nat):Int)++[((i+1:Nat):Int)]=enW (pd1 x i j).wd:=by show _=enW (J1 (yL x j) j++[i]);simp only[enW,Lm,List.map_replicate,Jr,Ub];rfl
  have et:((yL x j:Nat):Int)-1=((pd1 x i j).t:Int):=by show _=((yL x j-1:Nat):Int);omega
  rw[iL (by omega),zM,show((j+1:Nat):Int)-1=(j:Int)from by omega,zE (n:=(j:Int)) (by omega) (by omega),bs,ho.1,bs,zNn h (by omega),bs,yI (by simp only[Jc,J8,Jx];omega),bs,bs,ho.1,bs,zE (n:=((yL x j:Nat):Int)-1) (by omega) (by omega),bs,e,et,zF9 h hn (hm i j (by omega) (by omega)) (by simp only[J8,Jx]at hb;omega),bs,show((j+1:Nat):Int)+1=((j+1+1:Nat):Int)from by omega,zE (by omega) (by omega),bs]) (fun acc=>by
  unfold zSr;simp only
  rw[iJ (by omega),zQ])
 rw[zCw]at this;exact this
theorem yC1(ho:out.length≤1000):zI (zSs x) (out,1)=iF (out++(Jb x.zA.length).flatMap fun i=>(ups x.zA.length i).map fun j=>CPd (pd1 x i j)):=by
 have hf:=tF (c:=6) (f:=fun i=>(ups x.zA.length i).map fun j=>CPd (pd1 x i j)) (by grind[zA8]) (Jb x.zA.length);rw[H4]at hf;have:=zBj (body:=zSs x) 0 x.zA.length 2000 (fun i=>(ups x.zA.length i).map fun j=>CPd (pd1 x i j)) out (by grind[L8]) (fun i acc aD fX hb=>by
  unfold zSs;simp only
  rw[iL (by omega),zM,show((i+1:Nat):Int)+1=((i+1+1:Nat):Int)from by omega,zE (by omega) (by omega),bs,yC0 h hn (by omega) (by omega),bs,bs]) (fun acc=>by
  unfold zSs
  grind)
 grind[L8]
theorem yC2(hi:i<x.zA.length)(ho:out.length≤3000):
  zI (zSt x (o1,((i+1:Nat):Int))) (out,((i+1+1:Nat):Int))=iF (out++(ups x.zA.length i).map fun j=>CPd (pd4 x i j)):=by
 have hm:=((zBi (x:=x) (φ:=fun d=>d∈cps x)).1 fun d hd=>hd).2.2.1;have hu:=zA8 (i:=i) hn;have ho:=jM h hi;have:=zBj (body:=zSt x (o1,((i+1:Nat):Int))) (i+1) (x.zA.length-(i+1)) 4000 (fun j=>[CPd (pd4 x i j)]) out (by rw[zCw,Jt];grind) (fun j acc hj1 bg hb=>by
  unfold zSt;simp only
  have e:[((j+1:Nat):Int)]++J1 (yL x i) ((i+1:Nat):Int)=enW (pd4 x i j).wd:=by show _=enW (j::J1 (yL x i) i);simp
  rw[iL (by omega),zM,show((i+1:Nat):Int)-1=(i:Int)from by omega,zE (n:=(i:Int)) (by omega) (by omega),bs,ho.1,bs,zNn h hi,bs,yI (by simp only[Jc,J8,Jx];omega),bs,e,show(1:Int)=((pd4 x i j).t:Int)from rfl,zF9 h hn (hm i j (by omega) (by omega)) (by simp only[J8,Jx]at hb;omega),bs,show((j+1:Nat):Int)+((pd4 x i j).t:Int)=((j+1+1:Nat):Int)from rfl,zE (by omega) (by omega),bs]) (fun acc=>by
  unfold zSt
  grind)
 rw[zCw]at this;exact this
theorem yC3(ho:out.length≤1000):zI (zSu x) (out,1)=iF (out++(Jb x.zA.length).flatMap fun i=>(ups x.zA.length i).map fun j=>CPd (pd4 x i j)):=by
 have hf:=tF (c:=6) (f:=fun i=>(ups x.zA.length i).map fun j=>CPd (pd4 x i j)) (by grind[zA8]) (Jb x.zA.length);rw[H4]at hf;have:=zBj (body:=zSu x) 0 x.zA.length 2000 (fun i=>(ups x.zA.length i).map fun j=>CPd (pd4 x i j)) out (by grind[L8]) (fun i acc aD fX hb=>by
  unfold zSu;simp only
  rw[iL (by omega),zM,show((i+1:Nat):Int)+1=((i+1+1:Nat):Int)from by omega,zE (by omega) (by omega),bs,yC2 h hn (by omega) (by omega),bs,bs]) (fun acc=>by
  unfold zSu
  grind)
 grind[L8]
theorem yC4(ho:out.length≤1000):zI (zSv x) (out,1)=iF (out++(Jb x.zA.length).map fun i=>CPd (pd3 x i)):=by
 have hm:=((zBi (x:=x) (φ:=fun d=>d∈cps x)).1 fun d hd=>hd).2.2.2;have:=zBj (body:=zSv x) 0 x.zA.length 2000 (fun i=>[CPd (pd3 x i)]) out (by rw[zCw,Jt,List.length_range'];omega) (fun i acc aD fX hb=>by
  have ho:=jM h (show i<x.zA.length by omega);unfold zSv;simp only
  have e:J1 (yL x i+1) ((i+1:Nat):Int)=enW (pd3 x i).wd:=by show _=enW (J1 (yL x i+1) i);simp
  rw[iL (by omega),zM,show((i+1:Nat):Int)-1=(i:Int)from by omega,zE (n:=(i:Int)) (by omega) (by omega),bs,ho.1,bs,show((yL x i:Nat):Int)+1=((yL x i+1:Nat):Int)from by omega,zE (n:=((yL x i+1:Nat):Int)) (by omega) (by omega),bs,zRQ h (by omega),bs,e,show(1:Int)=((pd3 x i).t:Int)from rfl,zF9 h hn (hm i (by omega)) (by simp only[J8,Jx]at hb;omega),bs,show((i+1:Nat):Int)+((pd3 x i).t:Int)=((i+1+1:Nat):Int)from rfl,zE (by omega) (by omega),bs]) (fun acc=>by
  unfold zSv
  grind)
 grind[zCw,L8]
theorem zED:f_e x=iF ((cps x).map CPd):=by
 have hl:=zHk (x:=x) hn;have em:(cps x).map CPd=((Jb x.zA.length).flatMap fun i=>(ups x.zA.length i).flatMap fun j=>(ups x.zA.length j).map fun k=>CPd (pd2 x i j k))++(((Jb x.zA.length).flatMap fun i=>(ups x.zA.length i).map fun j=>CPd (pd1 x i j))++(((Jb x.zA.length).flatMap fun i=>(ups x.zA.length i).map fun j=>CPd (pd4 x i j))++(Jb x.zA.length).map fun i=>CPd (pd3 x i))):=by simp only[cps,Lm,List.map_flatMap,Ja7];rfl
 have aB:((cps x).map CPd).length≤300:=by grind
 rw[em]at aB;simp only[J9]at aB;unfold f_e;rw[yCz h hn,bs,yC1 h hn (by omega),bs,yC3 h hn (by grind),bs,yC4 h hn (by simp only[J9];omega),bs,em];simp
end
theorem yD2:yAL=zNQ:=rfl
theorem yD3:yAM=zNQ:=rfl
theorem qY.get{x:SPr}:{ds:List PD}→{qs:List (Trc×Trc)}→qY x ds qs→ ∀k(h1:k<ds.length)(h2:k<qs.length),(ds[k]).B x (qs[k]).1 (qs[k]).2
 | [],[],_,k,h1,_=>by simp at h1
 |d::ds,q::qs,h,0,_,_=>h.1
 |d::ds,q::qs,h,k+1,h1,h2=>by simpa using qY.get h.2 k (by simpa using h1) (by simpa using h2)
 | [],_::_,h,_,_,_=>by grind
 |_::_,[],h,_,_,_=>by grind
theorem zRR{p:Int}(hk:k<prs.length):zAu p D m (prs.take (k+1)) q=zAu p D m (prs.take k) q++prR p D m (prs[k]).1 (prs[k]).2 q:=by grind[zAu,Js]
section
variable {x:SPr}{m:zB}{D:Nat} (hD:MOk x.zA.length m D)
 include hD
theorem yC5:zI (zSw ⟨m.Prime,(D:Int),idM D⟩) (idM D,0)=iF (gl D fun _=>mkv D fun _=>0):=by
 have h3:=hD.d3;have:=zX (body:=zSw ⟨m.Prime,(D:Int),idM D⟩) (r:=gl D fun _=>mkv D fun _=>0) (fun i=>(gl D fun a=>mkv D fun j=>if j=a then(if a<i then 0 else 1)else 0,(i:Int))) D (fun i hi=>by
  unfold zSw;simp only
  rw[qE,yT hi,zM,zAo hi,bs,yQ (by grind[zY]),bs,zE (by omega) (by omega),bs];simp only[J6];rw[zDi,qL]
  grind) (by
  unfold zSw;simp only
  rw[qE,qA,zQ]
  simp_all)
 have e:(gl D fun a=>mkv D fun j=>if j=a then(if a<0 then(0:Int)else 1)else 0)=idM D:=rfl
 grind
theorem yC6(hN:N≤100):zI (zSx m (N:Int)) ([],0)=iF (smx m.Prime D N fun _ _ _=>0):=by
 refine(vC (body:=zSx m (N:Int)) N (fun _=>zO.mk m.Prime (D:Int) (gl D fun _=>mkv D fun _=>0)) (fun i acc hi ha=>?_) (fun acc=>?_)).trans ?_
 ·unfold zSx
  simp only
  rw[yT hi,zM,hD.d,zBs hD.p (by have:=hD.d3;omega),bs]
  grind[yC5,yI,zE]
 ·unfold zSx
  simp
 ·rfl
section
variable {N:Nat}{G:Nat→Nat→Nat→Int}{R:Nat→List Int}
abbrev zFA(p:Int)(D:Nat)(G:Nat→Nat→Nat→Int)(R:Nat→List Int)(k:Nat):List Int:=R k++mkv D fun j=>G (k/D) (k%D) j%p
theorem yC7(hN:N≤100)(hR:∀k,(R k).length≤100000)(hr:r<N){z:Mx}:
  zI (zSy m (z,(r:Int)) ⟨m.Prime,(D:Int),gl D fun i=>mkv D fun j=>G r i j%m.Prime⟩) (gl (N*D) fun k=>if k<r*D then zFA m.Prime D G R k else R k,0)=iF (gl (N*D) fun k=>if k<(r+1)*D then zFA m.Prime D G R k else R k):=by
 have h3:=hD.d3;have h1:=hD.d1;have hb:(r+1)*D≤N*D:=K6 D (by omega);have bz:N*D≤100*3:=Jm hN h3;rw[K8]at hb;have:=zX (body:=zSy m (z,(r:Int)) ⟨m.Prime,(D:Int),gl D fun i=>mkv D fun j=>G r i j%m.Prime⟩) (r:=gl (N*D) fun k=>if k<(r+1)*D then zFA m.Prime D G R k else R k) (fun i=>(gl (N*D) fun k=>if k<r*D+i then zFA m.Prime D G R k else R k,(i:Int))) D (fun i hi=>by
  obtain⟨e1,e2⟩:=vQ (q:=r) hi;unfold zSy;simp only
  rw[wU,yT hi,zM,zAo hi,bs,hD.d,←Qp,zE (by omega) (by omega),bs,←Hi,zE (by omega) (by omega),bs,zAo (by omega),bs,if_neg (by omega),yI (by rw[zY];have:=hR (r*D+i);omega),bs,zE (by omega) (by omega),bs];simp only[J6];rw[zDi]
  grind) (by
  unfold zSy
  grind)
 exact this
theorem yC8(hN:N≤100)(hR:∀k,(R k).length≤100000):zI (zNQ m ⟨x,m,smx m.Prime D N G⟩) (gl (N*D) R,0)=iF (gl (N*D) (zFA m.Prime D G R)):=by
 have gj:(smx m.Prime D N G).length=N:=wU;have:=zX (body:=zNQ m ⟨x,m,smx m.Prime D N G⟩) (r:=gl (N*D) (zFA m.Prime D G R)) (fun i=>(gl (N*D) fun k=>if k<i*D then zFA m.Prime D G R k else R k,(i:Int))) N (fun i hi=>by
  unfold zNQ;simp only
  rw[gj,yT hi,zM,smx,zAo hi,bs,yC7 hD hN hR hi,bs,zE (by omega) (by omega),bs];rfl) (by
  unfold zNQ
  simp_all)
 grind
end
end
theorem yC9{x:SPr}(h:Pres x):∀d∈cps x,2≤d.wd.length∧((d.wd.getD 0 0=d.wd.getD 1 0∧d.wd.getD (d.wd.length-1) 0≠d.wd.getD 0 0∧d.t=d.wd.length-2)∨(d.wd.getD 0 0=d.wd.getD 1 0∧d.wd.getD (d.wd.length-1) 0=d.wd.getD 0 0∧d.t=1)∨(d.wd.getD 0 0≠d.wd.getD 1 0∧d.t=1)):=by
 refine zBi.2 ⟨fun i j k h1 h2 h3=>?_,fun i j h1 h2=>?_,fun i j h1 h2=>?_,fun i h1=>?_⟩
 ·refine⟨by simp[pd2],.inr (.inr ⟨?_,rfl⟩)⟩
  show k≠j;omega
 ·have o:=(jM h h2).2
  obtain⟨q,hq⟩:∃q,yL x j=q+2:=⟨yL x j-2,by omega⟩;simp only[pd1,hq,J9,Jc,J8,Jx];refine⟨by omega,.inl ⟨rfl,?_,by omega⟩⟩;have:(J1 (q+2) j++[i]).getD (q+2+(0+1)-1) 0=i:=by simp
  grind
 ·have o:=(jM h (show i<x.zA.length by omega)).2
  obtain⟨q,hq⟩:∃q,yL x i=q+2:=⟨yL x i-2,by omega⟩;simp only[pd4,hq,Jc,J8]
  grind
 ·have o:=(jM h h1).2
  obtain⟨q,hq⟩:∃q,yL x i=q+2:=⟨yL x i-2,by omega⟩;simp only[pd3,hq,Jc];simp
section
variable {x:SPr}{m:zB}{D:Nat} (h:Pres x) (hn:x.zA.length≤6) (hD:MOk x.zA.length m D)
 include h hn hD
theorem zX1(hq:qY x (cps x) prs)(hk:k<(cps x).length)(hN:N=base x.zA.length x.zA.length):
  zSz x m (N:Int) ((cps x).map CPd) (gl (N*D) (fun q=>zAu m.Prime D m (prs.take k) q),(k:Int))=iF (.inl (gl (N*D) (fun q=>zAu m.Prime D m (prs.take (k+1)) q),((k+1:Nat):Int))):=by
 subst hN;have hl:=hq.len;have hd:=Jy hk;have fV:k<prs.length:=by omega
 have cM:=wT x.zA.length (by omega);have h3:=hD.d3;have h1:=hD.d1;have gC:=zHk (x:=x) hn;have co:=zRO h hn hD hd (hq.get k hk fV) (fun _ _ _=>0);obtain⟨w2,ht⟩:=yC9 h _ hd;have hlw:=(zLu h hn _ hd).l;have fN:=(zLu h hn _ hd).ht;have hR:∀q,(zAu m.Prime D m (prs.take k) q).length≤100000:=fun q=>by rw[zIM,Kk];have:min k prs.length*D≤300*3:=Jm (by omega) h3;omega
 have cD:=yC8 (x:=x) (G:=zDN m D (-1) (zDN m D 1 (fun _ _ _=>0) (prs[k]).1) (prs[k]).2) hD (show base x.zA.length x.zA.length≤100 by omega) hR;have erow:gl (base x.zA.length x.zA.length*D) (zFA m.Prime D (zDN m D (-1) (zDN m D 1 (fun _ _ _=>0) (prs[k]).1) (prs[k]).2) (fun q=>zAu m.Prime D m (prs.take k) q))=gl (base x.zA.length x.zA.length*D) fun q=>zAu m.Prime D m (prs.take (k+1)) q:=tR fun q _=>by have hm:q%D<D:=Hb _ (by omega);rw[zRR fV,zFA,zUE hm rfl,show q/D*D+q%D=q from by grind[L4]]
 rw[erow]at cD;have hix:ixO ((cps x).map CPd) (k:Int)=iF (CPd (cps x)[k]):=by grind[zAa]
 generalize (cps x)[k]=d at*
 have key:∀K:xR→Option ((Mx×Int)⊕Mx),((f_j ⟨x,m,smx m.Prime D (base x.zA.length x.zA.length) fun _ _ _=>0⟩ (enW d.wd) 0 1).bind fun r=>(f_u r.2 r.1 1).bind fun k2=>(f_j k2 (enW d.wd) (d.t:Int) (-1)).bind fun r3=>(f_u r3.2 r3.1 (-1)).bind K)=K ⟨x,m,smx m.Prime D (base x.zA.length x.zA.length) (zDN m D (-1) (zDN m D 1 (fun _ _ _=>0) (prs[k]).1) (prs[k]).2)⟩:=fun K=>by have e:=congrArg (fun o=>Gv o K) co;simp only[Option.bind_assoc,bs]at e;exact e
 unfold zSz;simp only
 rw[Jt,yT hk,zM,hix,bs,yC6 hD (by omega),bs];simp only[CPd];have i0:=sN (w:=d.wd) (t:=0) (by omega);have i1:=sN (w:=d.wd) (t:=1) (by omega);have il:=sN (w:=d.wd) (t:=d.wd.length-1) (by omega);rw[show((0:Nat):Int)=0 from rfl]at i0;rw[show((1:Nat):Int)=1 from rfl]at i1;rw[i0,bs,i1,bs,Jt];rcases ht with⟨t1,t2,t3⟩|⟨t1,t2,t3⟩|⟨t1,t3⟩
 ·rw[show((((d.wd.getD 0 0:Nat):Int)+1)==(((d.wd.getD 1 0:Nat):Int)+1))=iH from by grind,zM,zE (by omega) (by omega),bs,show(d.wd.length:Int)-1=((d.wd.length-1:Nat):Int)from by omega,il,bs,show((((d.wd.getD (d.wd.length-1) 0:Nat):Int)+1) != (((d.wd.getD 0 0:Nat):Int)+1))=iH from by rw[bne_iff_ne];omega,zM,zE (by omega) (by omega),bs,show(d.wd.length:Int)-2=(d.t:Int)from by omega,key,cD,bs,zE (by omega) (by omega),bs]
  rfl
 ·rw[show((((d.wd.getD 0 0:Nat):Int)+1)==(((d.wd.getD 1 0:Nat):Int)+1))=iH from by grind,zM,zE (by omega) (by omega),bs,show(d.wd.length:Int)-1=((d.wd.length-1:Nat):Int)from by omega,il,bs,show((((d.wd.getD (d.wd.length-1) 0:Nat):Int)+1) != (((d.wd.getD 0 0:Nat):Int)+1))=iI from by rw[t2];exact bne_self_eq_false _,zQ]
  rw[t3]at key;rw[show(1:Int)=((1:Nat):Int)from rfl]at*
  rw[key,yD2,cD,bs,zE (by omega) (by omega),bs];rfl
 ·rw[show((((d.wd.getD 0 0:Nat):Int)+1)==(((d.wd.getD 1 0:Nat):Int)+1))=iI from by grind,zQ]
  rw[t3]at key;rw[show(1:Int)=((1:Nat):Int)from rfl]at*
  rw[key,yD3,cD,bs,zE (by omega) (by omega),bs];rfl
end
section
variable {x:SPr}{m:zB}{D:Nat} (hx:zAi x) (hD:MOk x.zA.length m D)
 include hx hD
theorem zJp(hc:wN (suf x 0))(hr:zC6 x m D):∃K pk,f_m x m=iF K∧f_f x m=iF K∧Red m.Prime (base x.zA.length x.zA.length*D) K pk:=by
 have h6:=hx.n6;have h3:=hD.d3;have h1:=hD.d1;have cM:=wT x.zA.length (by omega);have hbD:base x.zA.length x.zA.length*D≤21*3:=Jm cM.2.1 h3;obtain⟨prs,hq⟩:=yAy hx hD;have hl:=hq.len;have gC:=zHk (x:=x) h6;have fU:=zX (body:=zSz x m ((base x.zA.length x.zA.length:Nat):Int) ((cps x).map CPd)) (r:=gl (base x.zA.length x.zA.length*D) (fun q=>zAu m.Prime D m prs q)) (fun k=>(gl (base x.zA.length x.zA.length*D) (fun q=>zAu m.Prime D m (prs.take k) q),(k:Int))) (cps x).length (fun k hk=>zX1 hx.toPres h6 hD hq hk rfl) (by
  unfold zSz
  grind)
 have e0:gl (base x.zA.length x.zA.length*D) (fun q=>zAu m.Prime D m (prs.take 0) q)=J1 (base x.zA.length x.zA.length*D) ([]:List Int):=by simp only[Kd,zAu,Ub,Q9];rw[List.eq_replicate_iff];simp
 rw[e0]at fU;have m6:f_f x m=cond (decide (((gl (base x.zA.length x.zA.length*D) (fun q=>zAu m.Prime D m prs q)).length:Int)> 0)) (
   (ixO (gl (base x.zA.length x.zA.length*D) (fun q=>zAu m.Prime D m prs q)) 0).bind fun v32=>(f_O m.Prime (gl (base x.zA.length x.zA.length*D) (fun q=>zAu m.Prime D m prs q)) (v32.length:Int)).bind fun r33=>iF r33) (
   (f_O m.Prime (gl (base x.zA.length x.zA.length*D) (fun q=>zAu m.Prime D m prs q)) 0).bind fun r34=>iF r34):=by
  unfold f_f;rw[zIy rfl h6,bs,hD.d,←Qp,zE (by omega) (by omega),bs,xF (by omega),bs,zED hx.toPres h6,bs]
  grind
 rcases Jbs x.zA.length with h0|h0
 ·obtain⟨K,pk,k1,k2,k3⟩:=zOV h0 hD
  grind
 ·obtain⟨K,pk,k1,k2,_⟩:=zGL hx hD h0 hc hr
  obtain⟨K2,j1,j2⟩:=zNm hx hD h0 hc hr hq;rw[k1]at j1;cases j1;refine⟨K,pk,k1,?_,k2⟩;have py:0<base x.zA.length x.zA.length*D:=Jbc (by omega) h1;rw[m6,wU,iL (by omega),zM,show(0:Int)=((0:Nat):Int)from rfl,zAo py,bs,zIM,j2,bs]
end
theorem zUF(hD:1≤D)(hl:v.length=n*D):(zE6 n D v).flatten=v:=by
 have hF:∀i:Nat,(mkv D fun j=>at0 v (i*D+j)).length=D:=fun i=>zY _ _
 have h1:(zE6 n D v).flatten.length=n*D:=by have:=zGu (F:=fun i=>mkv D fun j=>at0 v (i*D+j)) hF (Jb n);rw[H4]at this;exact this
 refine(vH h1).trans (((yB fun k hk=>?_)).trans (vH hl).symm);have hi:k/D<n:=(Ll (by omega)).2 hk;have hm:k%D<D:=Hb _ (by omega);have e:=zF7 (F:=fun i=>mkv D fun j=>at0 v (i*D+j)) hF (Jb n) (k/D) (k%D) (by grind) hm;rw[show k/D*D+k%D=k from by grind[L4]]at e;rw[List.getElem_range,yA hm,show k/D*D+k%D=k from by grind[L4]]at e;exact e
section
variable {x:SPr}{m:zB}{D:Nat} (hx:zAi x) (hD:MOk x.zA.length m D)
 include hx hD
theorem zKk:∃R pv,zNN x m=iF R∧Red m.Prime (base x.zA.length x.zA.length*D) R pv∧base x.zA.length x.zA.length*D≤63∧ ∀v,Row m.Prime (base x.zA.length x.zA.length*D) v→
  Row m.Prime (base x.zA.length x.zA.length*D) (cl m.Prime (base x.zA.length x.zA.length*D) R pv v R.length)∧zPr m.Prime R v=iF (cl m.Prime (base x.zA.length x.zA.length*D) R pv v R.length)∧
  zSl x m v=iF (zE6 (base x.zA.length x.zA.length) D (cl m.Prime (base x.zA.length x.zA.length*D) R pv v R.length)):=by
 have h3:=hD.d3;obtain⟨R,pv,r1,r2,r3,r4,r5,r6⟩:=zON hx hD;refine⟨R,pv,r1,r4,r6,fun v hv=>?_⟩;have gC:=zE3 hD.p (by omega) r4 hv R.length;refine⟨gC,zE4 hD.p (by omega) r4 hv (by omega),?_⟩;unfold zSl yAJ;rw[r2,bs,r3,bs,bs,zIz hD.p (by omega) r4 hv (by omega),bs,hD.d,zI2 hD.d1 gC.1 (by omega),bs]
theorem zOW(hv:Row m.Prime (base x.zA.length x.zA.length*D) v):f_q (zE6 (base x.zA.length x.zA.length) D v)=iF v:=by have h6:=hx.n6;have h3:=hD.d3;have hb:=wT x.zA.length (by omega);have bO:base x.zA.length x.zA.length*D≤21*3:=Jm hb.2.1 h3;have e:=zUF hD.d1 hv.1;rw[qF (by grind[zE6]) (by rw[e,hv.1];omega),e]
theorem zLv(hc:wN (suf x 0))(hr:zC6 x m D):∃C pc K rows,zYj x m=iF C∧f_f x m=iF K∧zI (zNT x m K) ([],0)=iF rows∧f_i m.Prime rows=iF C∧Red m.Prime (base x.zA.length x.zA.length*D) C pc∧base x.zA.length x.zA.length*D≤63:=by
 obtain⟨R,pv,r1,r2,r3,r4⟩:=zKk hx hD;obtain⟨K,pk,k1,k2,k3⟩:=zJp hx hD hc hr;have hK:=k3.len_le;have hl:(gl K.length fun i=>cl m.Prime (base x.zA.length x.zA.length*D) R pv (K.getD i []) R.length).length=K.length:=wU;obtain⟨C,pc,c1,c2,c3,_⟩:=jP hD.p (n:=base x.zA.length x.zA.length*D) (rows:=gl K.length fun i=>cl m.Prime (base x.zA.length x.zA.length*D) R pv (K.getD i []) R.length) (by omega) (by omega) (fun i hi=>by rw[hl]at hi;rw[wF hi];exact(r4 _ (k3.row i hi)).1)
 refine⟨C,pc,K,_,?_,k2,?_,c2,c3,r3⟩
 ·unfold zYj
  rw[r1,bs,k1,bs,vC (body:=zNR m R K) K.length (fun i=>cl m.Prime (base x.zA.length x.zA.length*D) R pv (K.getD i []) R.length) (fun i acc hi ha=>by
   unfold zNR;simp only
   rw[yT hi,zM,yO [] hi,bs,(r4 _ (k3.row i hi)).2.1,bs,yI (by simp only[J8,Jx];omega),bs,zE (by omega) (by omega),bs];rfl) (fun acc=>by
   unfold zNR;simp),bs]
  grind
 ·exact vC (body:=zNT x m K) K.length (fun i=>cl m.Prime (base x.zA.length x.zA.length*D) R pv (K.getD i []) R.length) (fun i acc hi ha=>by
   unfold zNT;simp only
   rw[yT hi,zM,yO [] hi,bs,(r4 _ (k3.row i hi)).2.2,bs,zOW hx hD (r4 _ (k3.row i hi)).1,bs,yI (by simp only[J8,Jx];omega),bs,zE (by omega) (by omega),bs];rfl) (fun acc=>by
   unfold zNT;simp)
end
def zRS(x:SPr):Prop:=0<x.zA.length∧ ∀i,i<x.zA.length→at0 x.zA i=at0 x.zA 0
theorem zNo{x:SPr}(h0:0<x.zA.length)(hl:x.zA.length≤1048576){f:Option Bool}{body:Int→Option (Int⊕(Unit⊕Bool))}(hf:f=(zI body 0).bind fun r=>match r with|.inl _=>iF iH|.inr r=>iF r)
  (hb:∀s,body s=cond (decide (s<(x.zA.length:Int))) ((ixO x.zA s).bind fun v2=>(ixO x.zA 0).bind fun v3=>cond (v2 != v3) (iF (.inr (.inr iI))) ((rng (s+1)).bind fun v4=>iF (.inl v4))) (iF (.inr (.inl ())))):IsB f (zRS x):=by
 refine(sZ (body:=body) x.zA.length (fun i=>at0 x.zA i=at0 x.zA 0) hf (fun i hi _=>?_) ?_).iff ⟨fun g=>⟨h0,g⟩,fun g=>g.2⟩
 ·rw[hb,yT hi,zM,yQ hi,bs,show(0:Int)=((0:Nat):Int)from rfl,yQ h0,bs]
  by_cases g:at0 x.zA i=at0 x.zA 0
  ·rw[jV g,zQ,zE (by omega) (by omega),bs]
   grind
  grind
 grind
theorem zJq{x:SPr}(hl:x.zA.length≤1048576):IsB (zYh x) (qC x∧zRS x):=by
 unfold zYh;rcases zIp hl with⟨h1,h2⟩|⟨h1,h2⟩
 ·rw[h1,bs,Ji,zQ]
  by_cases h0:0<x.zA.length
  ·rw[show(((x.zA.length:Nat):Int)==0)=iI from by grind,zQ]
   exact(zNo h0 hl rfl (fun _=>rfl)).iff (by grind)
  ·rw[show(((x.zA.length:Nat):Int)==0)=iH from by grind,zM]
   exact .inr ⟨rfl,fun g=>h0 g.2.1⟩
 ·rw[h1,bs,K7,zM]
  exact .inr (by grind)
theorem zJr{x:SPr}(hl:x.zA.length≤1048576):IsB (zWy x) (qC x∧zRS x):=by
 unfold zWy;rcases jW hl with⟨h1,h2⟩|⟨h1,h2⟩
 ·rw[h1,bs,Ji,zQ]
  by_cases h0:0<x.zA.length
  ·rw[show(((x.zA.length:Nat):Int)==0)=iI from by grind,zQ]
   exact(zNo h0 hl rfl (fun _=>rfl)).iff (by grind)
  ·rw[show(((x.zA.length:Nat):Int)==0)=iH from by grind,zM]
   exact .inr ⟨rfl,fun g=>h0 g.2.1⟩
 ·rw[h1,bs,K7,zM]
  exact .inr (by grind)
theorem zIQ{x:SPr}(hx:zAi x){body:Int×Int→Option ((Int×Int)⊕Int)}
  (hb:∀s:Int×Int,body s=cond (decide (s.2<(x.zA.length:Int))) ((ixO x.zA s.2).bind fun v1=>(rng (s.1*v1)).bind fun v2=>(rng (s.2+1)).bind fun v3=>iF (.inl (v2,v3))) (iF (.inr s.1))):zI body (1,0)=iF (pr x.zA x.zA.length):=by
 have h6:=hx.n6;have hP:∀j,j<x.zA.length→Prime (at0 x.zA j):=fun j hj=>hx.os.2 j hj
 exact zX (body:=body) (r:=pr x.zA x.zA.length) (fun i=>(pr x.zA i,(i:Int))) x.zA.length (fun i hi=>by
  have e1:=zKN hP (x.zA.length-(i+1)) (by omega);rw[show x.zA.length-(x.zA.length-(i+1))=i+1 from by omega]at e1;have e2:=zGf (os:=x.zA) (i:=i+1) (by grind);have e3:=hx.pr;simp only[pr]at e1 e2;rw[hb];simp only
  rw[yT hi,zM,yQ hi,bs,zE (n:=pr x.zA i*at0 x.zA i) (by omega) (by omega),bs,zE (by omega) (by omega),bs];rfl) (by
  grind)
def xV(q:Int)(D n:Nat):zB:=⟨q,(D:Int),gl n fun _=>idM D⟩
theorem zBO{q:Int}(h:i<n):(xV q D n).zF.getD i []=idM D:=by rw[xV,J3,J5 (by grind)];simp[gl]
theorem zRT{x:SPr}{q:Int}(hq:Prime q)(h6:x.zA.length≤6)(hD:D≤8):f_T x q (D:Int)=iF (xV q D x.zA.length):=by
 unfold f_T;rw[vC (body:=zL5 x (D:Int)) x.zA.length (fun _=>idM D) (fun i acc hi ha=>by
  unfold zL5;simp only
  rw[yT hi,zM,zEy hq hD,bs,yI (by grind),bs,zE (by omega) (by omega),bs];rfl) (fun acc=>by
  unfold zL5;simp),bs]
 rfl
theorem zOX{x:SPr}{q:Int}(hq:Prime q)(h6:x.zA.length≤6)(hD:D≤8):zYm x q (D:Int)=iF (xV q D x.zA.length):=by
 unfold zYm;rw[vC (body:=zNS x q (D:Int)) x.zA.length (fun _=>idM D) (fun i acc hi ha=>by
  unfold zNS;simp only
  rw[yT hi,zM,zBs hq hD,bs,yI (by grind),bs,zE (by omega) (by omega),bs];rfl) (fun acc=>by
  unfold zNS;simp),bs]
 rfl
theorem zQP{q:Int}(hq:Prime q)(h1:1≤D)(h3:D≤3):MOk n (xV q D n) D:=
 ⟨hq,rfl,h1,h3,wU,fun i hi=>by rw[zBO hi];exact tD hq.pos.1⟩
theorem zDC{q:Int}{D n:Nat}:∀(w:List Nat){B:Mx},Mat q D B→(∀a∈w,a<n)→wM q D (xV q D n).zF w B=B
 | [],_,_,_=>rfl
 |a::w,B,hB,hw=>by show wM q D (xV q D n).zF w (PM q D B ((xV q D n).zF.getD a []))=B;rw[zBO (hw a (by simp)),zBF hB];exact zDC w hB (by grind)
theorem zUG{x:SPr}(h:Pres x){q:Int}(hq:Prime q):zC6 x (xV q D x.zA.length) D:=by
 have hI:Mat q D (idM D):=tD hq.pos.1;intro i hi;refine⟨?_,fun j hj1 bg=>?_⟩
 ·show wM q D _ _ _=wM q D _ _ _
  rw[zDC _ hI (by grind),zDC _ hI fun a ha=>((tE h (qN h hi) hi).2 a ha).2]
 ·show PM q D _ _=PM q D _ (wM q D _ _ _)
  have:=tE h (uI h (show i<j by omega) bg) hi;rw[zBO hi,zBO bg,zDC _ hI (by grind)]
theorem zJs{x:SPr}(hc:qC x)(hp:zRS x):∃C pc,zYk x=iF C∧zYn x=iF C∧Red (at0 x.zA 0) (base x.zA.length x.zA.length) C pc∧base x.zA.length x.zA.length≤21:=by
 have h6:=hc.2.2.n6;have hq:=hc.1.os.2 0 hp.1;have hb:=wT x.zA.length (by omega);obtain⟨C,pc,K,rows,c1,c2,c3,c4,c5,_⟩:=zLv (m:=xV (at0 x.zA 0) 1 x.zA.length) hc.2.2 (by grind[zQP]) hc.2.1 (zUG hc.1 hq);rw[Hj]at c5;refine⟨C,pc,?_,?_,c5,hb.2.1⟩
 ·unfold zYk zWx
  rw[show(0:Int)=((0:Nat):Int)from rfl,yQ hp.1,bs,show(1:Int)=((1:Nat):Int)from rfl,zRT hq h6 (by omega),bs,bs,c1,bs]
 ·unfold zYn
  rw[show(0:Int)=((0:Nat):Int)from rfl,yQ hp.1,bs,show(1:Int)=((1:Nat):Int)from rfl,zOX hq h6 (by omega),bs,c2,bs];have e:zW0=zNT:=rfl
  grind
theorem zKl:(J1 D (0:Int)).set i 1=mkv D fun j=>if j=i then 1 else 0:=by rw[uH,qL]
theorem zIR(hD:D≤1000):f_C (D:Int)=iF (idM D):=by
 unfold f_C;rw[vC (body:=zIW (D:Int)) D (fun i=>mkv D fun j=>if j=i then 1 else 0) (fun i acc hi ha=>by
  unfold zIW;simp only
  rw[yT hi,zM,xF (by omega),bs,vP,Kb,if_pos hi,bs,J6,zKl,yI (by grind),bs,zE (by omega) (by omega),bs];rfl) (fun acc=>by
  unfold zIW;simp),bs]
 rfl
theorem zIS{p:Int}(hD:D≤1000):f_G p (D:Int)=iF (zO.mk p (D:Int) (idM D)):=by
 unfold f_G;rw[vC (body:=zL1 (D:Int)) D (fun i=>mkv D fun j=>if j=i then 1 else 0) (fun i acc hi ha=>by
  unfold zL1;simp only
  rw[yT hi,zM,xF (by omega),bs,vP,Kb,if_pos hi,bs,J6,zKl,yI (by grind),bs,zE (by omega) (by omega),bs];rfl) (fun acc=>by
  unfold zL1;simp),bs]
 rfl
theorem zOY{x:SPr}{q:Int}(h6:x.zA.length≤6)(hD:D≤1000):f_T x q (D:Int)=iF (xV q D x.zA.length):=by
 unfold f_T;rw[vC (body:=zL5 x (D:Int)) x.zA.length (fun _=>idM D) (fun i acc hi ha=>by
  unfold zL5;simp only
  rw[yT hi,zM,zIR hD,bs,yI (by grind),bs,zE (by omega) (by omega),bs];rfl) (fun acc=>by
  unfold zL5;simp),bs]
 rfl
theorem zUH{body:List Int×Int→Option ((List Int×Int)⊕List Int)}(n:Nat)(F:Nat→Int)(h:∀i acc,i<n→acc.length=i→body (acc,(i:Int))=iF (.inl (acc++[F i],((i+1:Nat):Int))))(he:∀acc,body (acc,(n:Int))=iF (.inr acc)):
  zI body ([],0)=iF (mkv n F):=vC n F h he
theorem zX2{p:Int}{r:List Int}(hr:Row p D r):xY p D r (idM D)=r:=by rw[xY];refine Eq.trans (yB fun j hj=>?_) (vH hr.1).symm;rw[jX (k:=j) hj fun l hl gg=>by rw[ent,zBd hl,yA hj,if_neg (fun h=>gg h.symm),La],ent,zBd hj,yA hj,if_pos rfl,Ls];exact sH (hr.2 j hj)
def zOZ(n c:Nat)(u:Mx):Mx:=gl n fun i=>mkv 1 fun _=>at0 (u.getD i []) c
theorem zNp(h:i<n):(zOZ n c u).getD i []=mkv 1 fun _=>at0 (u.getD i []) c:=by rw[zOZ,wF h]
theorem zIT{q:Int}(ha:a<n)(hv:Row q D v):stp (xV q D n) D u v a=vZ q D v 1 (u.getD a []):=by
 show vZ q D (xY q D v ((xV q D n).zF.getD a [])) 1 (u.getD a [])=_
 grind[zBO,zX2]
section
variable {q:Int} (hq:Prime q) {n D c:Nat} (hc:c<D)
 include hq hc
theorem yD4(hv:Row q D v):Row q 1 (mkv 1 fun _=>at0 v c):=⟨zY _ _,fun i hi=>by have _:=hq;rw[yA hi];exact hv.2 c hc⟩
theorem zPa{u:Mx}:∀(w:List Nat)(v:List Int),(∀a∈w,a<n)→Row q D v→at0 (ev (xV q D n) D u v w) c=at0 (ev (xV q 1 n) 1 (zOZ n c u) (mkv 1 fun _=>at0 v c) w) 0
 | [],v,_,_=>by rfl
 |a::w,v,hw,hv=>by have ha:=hw a (by simp);show at0 (ev (xV q D n) D u (stp (xV q D n) D u v a) w) c=at0 (ev (xV q 1 n) 1 (zOZ n c u) (stp (xV q 1 n) 1 (zOZ n c u) (mkv 1 fun _=>at0 v c) a) w) 0;have ee:(mkv 1 fun _=>at0 (vZ q D v 1 (u.getD a [])) c)=vZ q 1 (mkv 1 fun _=>at0 v c) 1 (mkv 1 fun _=>at0 (u.getD a []) c):=yB (by grind[vZ,yA]);rw[zIT ha hv,zIT ha (yD4 hq hc hv),zPa w _ (by grind) (zAm hq),zNp ha,ee]
theorem zX3{rel:Rl}(h1:∀a∈rel.1,a<n)(h2:∀a∈rel.2,a<n):at0 (dfc (xV q D n) D u rel) c=at0 (dfc (xV q 1 n) 1 (zOZ n c u) rel) 0:=by
 have hz:=zE1 (p:=q) (D:=D) (by have:=hq.pos;omega);have e0:(mkv 1 fun _=>at0 (z0 D) c)=z0 1:=by
  have:at0 (z0 D) c=0:=by grind
  rw[this];rfl
 have e1:=zPa hq hc (u:=u) rel.1 (z0 D) h1 hz;have e2:=zPa hq hc (u:=u) rel.2 (z0 D) h2 hz;rw[e0]at e1 e2;show at0 (vZ q D _ (-1) _) c=at0 (vZ q 1 _ (-1) _) 0
 grind[vZ,yA]
end
theorem zUI{kk:Nat}(hi:i<n)(hc:c<D):at0 ((uv n D kk).getD i []) c=if i*D+c=kk then 1 else 0:=by
 have:i*D+c<n*D:=by have:=zCo (D:=D) hi;omega
 grind[uv,zE6,yA,qQ]
theorem zLw{q:Int}(hq:Prime q){n:Nat}{u:Mx}(hu:∀i,i<n→u.getD i []=mkv 1 fun _=>0):∀w:List Nat,(∀a∈w,a<n)→ev (xV q 1 n) 1 u (z0 1) w=z0 1
 | [],_=>rfl
 |a::w,hw=>by
  have ha:=hw a (by simp);show ev (xV q 1 n) 1 u (stp (xV q 1 n) 1 u (z0 1) a) w=z0 1;have e:stp (xV q 1 n) 1 u (z0 1) a=z0 1:=by rw[zIT ha (zE1 (by have:=hq.pos;omega)),hu a ha];rfl
  rw[e];exact zLw hq hu w (by grind)
theorem yA0{x:SPr}(h:Pres x):∀rel∈wD x,(∀a∈rel.1,a<x.zA.length)∧ ∀a∈rel.2,a<x.zA.length:=by
 intro rel hr;simp only[wD,Jd,Jl,Lg,Ln,R2]at hr;rcases hr with⟨i,hi,rfl⟩|⟨i,hi,j,hj,rfl⟩
 ·exact⟨fun a ha=>by rw[Lr ha];exact hi,fun a ha=>((tE h (qN h hi) hi).2 a ha).2⟩
 ·have hl:=(h.tl i hi).2.1
  have bW:=(h.tl i hi).2.2 j hj;refine⟨fun a ha=>?_,fun a ha=>?_⟩
  ·simp only[r2,J7,Ut,or_false]at ha
   omega
  ·simp only[r2,J7]at ha
   rcases ha with rfl|ha
   ·exact hi
   ·exact((tE h bW hi).2 a ha).2
section
variable {x:SPr} (hx:zAi x) {q:Int} (hq:Prime q) {D:Nat} (h1:1≤D) (h3:D≤3)
 include hx hq h1 h3
theorem zUJ(hi:i<x.zA.length)(hk:k<D)(hr:r<base x.zA.length x.zA.length)(hc:c<D):
  ent (tT x (xV q D x.zA.length) D) (i*D+k) (r*D+c)=if c=k then ent (tT x (xV q 1 x.zA.length) 1) i r else 0:=by
 have hl:=zIE hx.toPres hx.n6;have i6:i*D+k<x.zA.length*D:=by have:=zCo (D:=D) hi;omega
 have cR:r<(wD x).length:=by omega
 have mp:(wD x)[r]? =iF (wD x)[r]:=have _:=h3;by simp
 obtain⟨z1,z2⟩:=yA0 hx.toPres _ (Jy cR);have e1:ent (tT x (xV q D x.zA.length) D) (i*D+k) (r*D+c)=at0 (dfc (xV q D x.zA.length) D (uv x.zA.length D (i*D+k)) (wD x)[r]) c:=by show at0 ((zFu _ _ _).getD (i*D+k) []) (r*D+c)=_;rw[zFu,wF i6,zFt hc (wD x) r (wD x)[r] (fun _ _=>zFi) mp]
 have e2:ent (tT x (xV q 1 x.zA.length) 1) i r=at0 (dfc (xV q 1 x.zA.length) 1 (uv x.zA.length 1 i) (wD x)[r]) 0:=by
  have:=zFt (F:=dfc (xV q 1 x.zA.length) 1 (uv x.zA.length 1 i)) (show 0<1 by omega) (wD x) r (wD x)[r] (fun _ _=>zFi) mp;show at0 ((zFu _ _ _).getD i []) r=_
  grind[zFu,wF]
 rw[e1,e2,zX3 hq hc z1 z2]
 by_cases e:c=k
 ·subst e
  rw[if_pos rfl]
  congr 2
  refine tR fun i' fu=>yB fun j hj=>?_
  rw[zUI fu hc,qQ,yA (by omega)]
  by_cases g:i'=i
  ·grind
  ·have:¬i'*D+c=i*D+c:=by grind[Nat.eq_of_mul_eq_mul_right]
   omega
 ·rw[if_neg e]
  have hu:∀i',i'<x.zA.length→(zOZ x.zA.length c (uv x.zA.length D (i*D+k))).getD i' []=mkv 1 fun _=>0:=fun i' fu=>by
   rw[zNp fu];refine yB fun _ _=>?_
   rw[zUI fu hc,if_neg]
   grind[vQ]
  show at0 (vZ q 1 _ (-1) _) 0=0;rw[vZ,yA (by omega),zLw hq hu _ z1,zLw hq hu _ z2];rfl
def zGw(N D c:Nat)(v:List Int):List Int:=mkv N fun r=>at0 v (r*D+c)
theorem yA1(hv:Sp q (base x.zA.length x.zA.length*D) (tT x (xV q D x.zA.length) D) v)(hc:c<D):Sp q (base x.zA.length x.zA.length) (tT x (xV q 1 x.zA.length) 1) (zGw (base x.zA.length x.zA.length) D c v):=by
 obtain⟨cf,fE⟩:=hv;refine⟨fun i=>cf (i*D+c),fun r hr=>?_⟩;have hrc:r*D+c<base x.zA.length x.zA.length*D:=by have:=zCo (D:=D) hr;omega
 have e:=fE (r*D+c) hrc;have hl:(tT x (xV q D x.zA.length) D).length=x.zA.length*D:=wU;have bc:(tT x (xV q 1 x.zA.length) 1).length=x.zA.length:=by rw[show(tT x (xV q 1 x.zA.length) 1).length=x.zA.length*1 from wU,Hj]
 rw[hl,zF4]at e;rw[bc,zGw,yA hr,←e]
 congr 1
 refine xZ fun i hi=>?_
 rw[jX (k:=c) hc fun k hk gg=>by rw[zUJ hx hq h1 h3 hi hk hr hc,if_neg (fun g=>gg g.symm),La],zUJ hx hq h1 h3 hi hc hr hc,if_pos rfl]
theorem yA2{y:List Int}(hy:Sp q (base x.zA.length x.zA.length) (tT x (xV q 1 x.zA.length) 1) y)(hc:c<D):Sp q (base x.zA.length x.zA.length*D) (tT x (xV q D x.zA.length) D) (mkv (base x.zA.length x.zA.length*D) fun k=>if k%D=c then at0 y (k/D)else 0):=by
 obtain⟨cf,fE⟩:=hy;have hl:(tT x (xV q D x.zA.length) D).length=x.zA.length*D:=wU;have bc:(tT x (xV q 1 x.zA.length) 1).length=x.zA.length:=by rw[show(tT x (xV q 1 x.zA.length) 1).length=x.zA.length*1 from wU,Hj]
 refine⟨fun kk=>if kk%D=c then cf (kk/D)else 0,fun j hj=>?_⟩;have hD:0<D:=h1;have hr:j/D<base x.zA.length x.zA.length:=(Ll hD).2 hj;have hm:j%D<D:=Hb _ hD;have ej:j/D*D+j%D=j:=by grind[L4]
 rw[hl,zF4,yA hj];have key:(S x.zA.length fun i=>S D fun k=>(if(i*D+k)%D=c then cf ((i*D+k)/D)else 0)*ent (tT x (xV q D x.zA.length) D) (i*D+k) j)=if j%D=c then S x.zA.length fun i=>cf i*ent (tT x (xV q 1 x.zA.length) 1) i (j/D)else 0:=by
  have e1:∀i,i<x.zA.length→(S D fun k=>(if(i*D+k)%D=c then cf ((i*D+k)/D)else 0)*ent (tT x (xV q D x.zA.length) D) (i*D+k) j)=if j%D=c then cf i*ent (tT x (xV q 1 x.zA.length) 1) i (j/D)else 0:=fun i hi=>by
   rw[jX (k:=c) hc fun k hk gg=>by rw[(vQ (q:=i) hk).2,if_neg gg,Qr]];rw[(vQ (q:=i) hc).1,(vQ (q:=i) hc).2,if_pos rfl];have e2:=zUJ hx hq h1 h3 hi hc hr hm
   grind
  rw[xZ e1];split
  all_goals grind[qD]
 grind
end
theorem zPb{p a b:Int}(h:a%p=(b+s)%p):s%p=(a-b)%p:=by
 have e:s=(b+s)-b:=by omega
 rw[e,Qa,←h,←Qa]
theorem zQQ{p:Int}(hp:Prime p)(hn:n≤100000){R:Mx}{pv:Nat→Nat}(h:Red p n R pv)(hv:Row p n v):Sp p n R (mkv n fun j=>at0 (cl p n R pv v R.length) j-at0 v j):=by obtain⟨cf,fE⟩:=zQu hp hn h hv R.length (Jh _);exact⟨cf,fun j hj=>by rw[yA hj];exact zPb (fE j hj)⟩
section
variable {x:SPr} (hx:zAi x) {q:Int} (hq:Prime q) {D:Nat} (h1:1≤D) (h3:D≤3)
 include hx hq h1 h3
theorem yA3{R1 RD:Mx}{p1 pD:Nat→Nat}(k1:Red q (base x.zA.length x.zA.length) R1 p1)(kD:Red q (base x.zA.length x.zA.length*D) RD pD)
  (e1:∀v,Sp q (base x.zA.length x.zA.length) R1 v↔Sp q (base x.zA.length x.zA.length) (tT x (xV q 1 x.zA.length) 1) v)(eD:∀v,Sp q (base x.zA.length x.zA.length*D) RD v↔Sp q (base x.zA.length x.zA.length*D) (tT x (xV q D x.zA.length) D) v)
  (hv:Row q (base x.zA.length x.zA.length*D) v)(hr:r<base x.zA.length x.zA.length)(hc:c<D):
  at0 (cl q (base x.zA.length x.zA.length*D) RD pD v RD.length) (r*D+c)=at0 (cl q (base x.zA.length x.zA.length) R1 p1 (zGw (base x.zA.length x.zA.length) D c v) R1.length) r:=by
 have h7:=hq.pos;have hb:=wT x.zA.length (by have:=hx.n6;omega);have hbD:base x.zA.length x.zA.length*D≤21*3:=Jm hb.2.1 h3;have fx:∀r,r<base x.zA.length x.zA.length→r*D+c<base x.zA.length x.zA.length*D:=fun r hr=>by have:=zCo (D:=D) hr;omega
 have aZ:Row q (base x.zA.length x.zA.length) (zGw (base x.zA.length x.zA.length) D c v):=⟨zY _ _,fun i hi=>by rw[zGw,yA hi];exact hv.2 _ (fx i hi)⟩;have hw:=zE3 hq (by omega) kD hv RD.length;have hu:=zE3 hq (by omega) k1 aZ R1.length;have zw:=fun i(hi:i<RD.length)=>zO7 hq (by omega) kD hv RD.length (Jh _) i hi
 have zu:=fun i(hi:i<R1.length)=>zO7 hq (by omega) k1 aZ R1.length (Jh _) i hi
 have dA:=yA1 hx hq h1 h3 ((eD _).1 (zQQ hq (by omega) kD hv)) hc;have dC:=zQQ hq (by omega) k1 aZ
 generalize cl q (base x.zA.length x.zA.length*D) RD pD v RD.length=w at*
 generalize cl q (base x.zA.length x.zA.length) R1 p1 (zGw (base x.zA.length x.zA.length) D c v) R1.length=u at*
 have hE:Sp q (base x.zA.length x.zA.length) R1 (mkv (base x.zA.length x.zA.length) fun r=>at0 w (r*D+c)-at0 u r):=by
  refine zAN (k:=-1) ((e1 _).2 dA) dC fun j hj=>?_
  rw[zGw,yA hj,yA hj,yA hj,zGw,yA hj,yA (fx j hj)]
  grind
 refine Decidable.byContradiction fun gg=>?_
 obtain⟨i,hi,_,g2⟩:=k1.lead hE ⟨r,hr,by
  rw[yA hr];have a1:=hw.2 (r*D+c) (fx r hr);have a2:=hu.2 r hr;intro g;rcases Jce (at0 w (r*D+c)-at0 u r) 0 with h0|h0|h0
  ·have:(at0 w (r*D+c)-at0 u r+q)%q=0:=by simp_all
   rw[Jw (by omega) (by omega)]at this;omega
  ·omega
  ·rw[Jw (by omega) (by omega)]at g
   omega⟩
 have bP:=k1.lt i hi;rw[yA bP,zu i hi]at g2;have hbs:=(eD _).2 (yA2 hx hq h1 h3 ((e1 _).1 (qG (p:=q) (n:=base x.zA.length x.zA.length) hi)) hc);have gx:=k1.one i hi;have bat:∀j,j<base x.zA.length x.zA.length*D→at0 (mkv (base x.zA.length x.zA.length*D) fun k=>if k%D=c then at0 (R1.getD i []) (k/D)else 0) j=if j%D=c then ent R1 i (j/D)else 0:=fun j hj=>yA hj
 obtain⟨i',fu,b1,b2⟩:=kD.lead hbs ⟨p1 i*D+c,fx _ bP,by rw[bat _ (fx _ bP),(vQ (q:=p1 i) hc).2,if_pos rfl,(vQ (q:=p1 i) hc).1,gx,Jw (by omega) (by omega)];omega⟩
 have hj:=kD.lt i' fu;have hpv:pD i'=p1 i*D+c:=by
  rw[bat _ hj]at b2
  by_cases gm:pD i'%D=c
  ·rw[if_pos gm]at b2
   have hge:p1 i≤pD i'/D:=Nat.le_of_not_lt fun gH=>b2 (by rw[k1.low i hi _ gH];simp)
   have ej:pD i'/D*D+pD i'%D=pD i':=by grind[L4]
   have hm:=K6 D hge;rcases Jg (p1 i*D+c) (pD i')with gH|hle
   ·have:=b1 _ gH
    rw[bat _ (fx _ bP),(vQ (q:=p1 i) hc).2,if_pos rfl,(vQ (q:=p1 i) hc).1,gx,Jw (by omega) (by omega)]at this;omega
   ·omega
  ·rw[if_neg gm]at b2
   simp at b2
 have:=zw i' fu;rw[hpv]at this;rw[this]at g2;simp at g2
end
def zNq(x:SPr)(m:zB)(D:Nat):Prop:=∀i,i<x.zA.length→m.zF.getD i []=idM D
theorem zX4{x:SPr}(hD:MOk x.zA.length m D)(hA:zNq x m D):m=xV m.Prime D x.zA.length:=by
 obtain⟨p,d,a⟩:=m;have h2:=hD.d;have h3:=hD.len;simp only at h2 h3;subst h2;rw[xV]
 congr 1
 refine Gx (by simp_all) fun i h1 h2=>?_
 have:=hA i (by omega);simp only at this;rw[J3,J5 h1]at this
 simp_all
theorem yCA(hD:MOk n m D)(hi:i<n):(m.zF.getD i []).length≤1000∧ ∀r∈m.zF.getD i [],r.length≤1000:=by
 have h:=hD.mat i hi;have h3:=hD.d3;refine⟨by rw[h.1];omega,fun r hr=>?_⟩;obtain⟨k,hk,rfl⟩:=K4.1 hr;have:=(h.2 k (by rw[←h.1];exact hk)).1
 grind
section
variable {x:SPr}{m:zB}{D:Nat} (hD:MOk x.zA.length m D) (h6:x.zA.length≤6)
 include hD h6
theorem zJt:(zI (zIX m) 0=iF (.inl ())∧zNq x m D)∨(zI (zIX m) 0=iF (.inr iI)∧ ¬zNq x m D):=by
 have h3:=hD.d3;rcases chk (body:=zIX m) x.zA.length 0 (Ka _) (fun i=>m.zF.getD i []=idM D) (fun _=>iI) (fun i _ hi _=>by
  obtain⟨t1,t2⟩:=yCA hD hi;unfold zIX;rw[hD.len,yT hi,zM,yO [] (by rw[hD.len];exact hi),bs,hD.d,zIR (by omega),bs,zEz t1 t2,bs]
  by_cases g:m.zF.getD i []=idM D
  ·rw[show(m.zF.getD i []==idM D)=iH from by simp_all,Ji,zQ,zE (by omega) (by omega),bs]
   simp_all
  ·rw[show(m.zF.getD i []==idM D)=iI from beq_eq_false_iff_ne.2 g,K7,zM]
   simp_all) (by
  unfold zIX;rw[hD.len,qA,zQ])with⟨c1,c2⟩|⟨i,_,hi,c1,c2⟩
 ·exact .inl ⟨c1,fun i hi=>c2 i (Ka _) hi⟩
 ·exact .inr ⟨c1,fun g=>c2 (g i hi)⟩
theorem zEc:(zI (zIY x m) 0=iF (.inl ())∧zNq x m D)∨(zI (zIY x m) 0=iF (.inr 5)∧ ¬zNq x m D):=by
 have h3:=hD.d3;rcases chk (body:=zIY x m) x.zA.length 0 (Ka _) (fun i=>m.zF.getD i []=idM D) (fun _=>(5:Int)) (fun i _ hi _=>by
  obtain⟨t1,t2⟩:=yCA hD hi;unfold zIY;rw[yT hi,zM,yO [] (by rw[hD.len];exact hi),bs,hD.d,zIS (by omega),bs,zDZ t1 t2,bs]
  by_cases g:m.zF.getD i []=idM D
  ·rw[show(m.zF.getD i []==idM D)=iH from by simp_all,Ji,zQ,zE (by omega) (by omega),bs]
   simp_all
  ·rw[show(m.zF.getD i []==idM D)=iI from beq_eq_false_iff_ne.2 g,K7,zM]
   simp_all) (by
  unfold zIY;simp)with⟨c1,c2⟩|⟨i,_,hi,c1,c2⟩
 ·exact .inl ⟨c1,fun i hi=>c2 i (Ka _) hi⟩
 ·exact .inr ⟨c1,fun g=>c2 (g i hi)⟩
end
theorem zUK{x:SPr}{T:Mx}(hx:zCW x)(hm:zIe m)(hT:S2 T):∃c,zYo x m T=iF c∧zYp x m T=iF c∧
  (c=0→qC x∧zRS x∧ ∃D,MOk x.zA.length m D∧m=xV (at0 x.zA 0) D x.zA.length∧zCv x m D T):=by
 have hl:x.zA.length≤1048576:=hx.1;have ar:=S3.len hm;have aS:T.length≤1048576:=hT.len;unfold zYo zYp yAO;rcases(zJl (m:=m) hl).both (zJm (m:=m) hl ar)with⟨s1,i1,hM⟩|⟨s1,i1,_⟩
 ·obtain⟨hc,D,hD,hr⟩:=hM
  have h6:=hc.2.2.n6;simp only[s1,i1,bs,Ji,zQ];rcases(zMX hc.2.2 hD aS).both (zMY hc.2.2 hD aS)with⟨s2,i2,hF⟩|⟨s2,i2,_⟩
  ·simp only[s2,i2,bs,Ji,zQ]
   rcases(zJq hl).both (zJr hl)with⟨s3,i3,_,hp⟩|⟨s3,i3,_⟩
   ·have h0:ixO x.zA 0=iF (at0 x.zA 0):=by
     rw[show(0:Int)=((0:Nat):Int)from rfl,yQ hp.1]
    simp only[s3,i3,bs,Ji,zQ,h0];have io:zYl x=iF (if pr x.zA x.zA.length> 81 then 3 else 0):=by
     unfold zYl;have ic:zPm x=iF iH:=by
      rcases jW hl with⟨h,_⟩|⟨_,h⟩
      all_goals grind
     unfold yAN;rw[ic,bs,Ji,zQ,i3,bs,Ji,zQ,zIQ hc.2.2 (body:=zWz x) (fun _=>rfl),bs,bs]
     by_cases g:pr x.zA x.zA.length> 81
     ·simp_all
     ·rw[iJ g,zQ,if_neg g]
    have uk:zYi x=iF (pr x.zA x.zA.length):=by unfold zYi;rw[zIQ hc.2.2 (body:=zWw x) (fun _=>rfl),bs]
    simp only[io,uk,bs];rcases zJt hD h6 with⟨t1,hA⟩|⟨t1,hA⟩
    ·simp only[t1,bs]
     by_cases g:m.Prime=at0 x.zA 0
     ·rw[show(m.Prime==at0 x.zA 0)=iH from by simp_all,jV g,Ji,zQ,zQ]
      rcases(zXq hc.1 ((yCu hc.2.2 hD hF).b hD) hF.2 (Mv.self hD) hc.2.1 hr).both (zQ6 hc.2.2 hD hF)with⟨s4,i4,_⟩|⟨s4,i4,_⟩
      ·simp only[s4,i4,bs,Ji,zQ]
       rcases zEc hD h6 with⟨u1,_⟩|⟨_,hB⟩
       ·simp only[u1,bs]
        have em:=zX4 hD hA
        by_cases g2:pr x.zA x.zA.length> 81
        ·rw[iL g2,zM,if_pos g2]
         simp
        ·rw[iJ g2,zQ,if_neg g2]
         exact⟨_,rfl,rfl,by grind⟩
       grind
      simp_all
     ·rw[show(m.Prime==at0 x.zA 0)=iI from beq_eq_false_iff_ne.2 g,kF g,K7,zM,zM]
      simp
    ·simp only[t1,bs,K7,zM]
     refine⟨5,rfl,?_,fun h=>by cases h⟩
     by_cases g:m.Prime=at0 x.zA 0
     ·rw[jV g,zQ]
      rcases zQ6 hc.2.2 hD hF with⟨i4,_⟩|⟨i4,_⟩
      ·simp only[i4,bs,Ji,zQ]
       grind[zEc]
      simp_all
     ·rw[kF g,zM]
   simp_all
  simp_all
 simp_all
def zX5(D:Nat)(w:List Int)(C:Mx)(pc:Nat→Nat):Mx:=gl C.length fun j=>mkv D fun c=>at0 w (pc j*D+c)
theorem zX6{T:Mx}(hl:T.length=N)(hT:∀i,i<T.length→(T.getD i []).length=D)(hr:r<N)(hc:c<D):at0 T.flatten (r*D+c)=at0 (T.getD r []) c:=by
 have:=zFt (F:=fun v:List Int=>v) hc T r (T.getD r []) (fun v hv=>by
  obtain⟨i,hi,rfl⟩:=K4.1 hv
  grind) (by
  grind)
 grind[List.map_id']
section
variable {x:SPr}{D:Nat}{T:Mx} (hc:qC x) (hp:zRS x) (hD:MOk x.zA.length (xV (at0 x.zA 0) D x.zA.length) D) (hT:zCv x (xV (at0 x.zA 0) D x.zA.length) D T)
 include hc hp hD hT
theorem zPc:∃M,f_s x (xV (at0 x.zA 0) D x.zA.length) T=iF M∧zYq x (xV (at0 x.zA 0) D x.zA.length) T=iF ⟨at0 x.zA 0,(D:Int),M⟩∧M.length≤21∧ ∀i,i<M.length→Row (at0 x.zA 0) D (M.getD i []):=by
 have h6:=hc.2.2.n6;have hq:=hc.1.os.2 0 hp.1;have h7:=hq.pos;have h1:=hD.d1;have h3:=hD.d3;have hb:=wT x.zA.length (by omega);have hbD:base x.zA.length x.zA.length*D≤21*3:=Jm hb.2.1 h3;obtain⟨C,pc,c1,c2,c3,c4⟩:=zJs hc hp;have hCl:=c3.len_le;have hD1:MOk x.zA.length (xV (at0 x.zA 0) 1 x.zA.length) 1:=by grind[zQP]
 obtain⟨R1,p1,a1,a2,a3,a4⟩:=zMZ hc.2.2 hD1;obtain⟨RD,pD,b1,b2,b3,b4⟩:=zMZ hc.2.2 hD;rw[show(xV (at0 x.zA 0) 1 x.zA.length).Prime=at0 x.zA 0 from rfl,Hj]at a2 a3;rw[show(xV (at0 x.zA 0) D x.zA.length).Prime=at0 x.zA 0 from rfl]at b2 b3;obtain⟨t1,t2,t3⟩:=zOO hc.2.2 hD hT;rw[show(xV (at0 x.zA 0) D x.zA.length).Prime=at0 x.zA 0 from rfl]at t1;obtain⟨RD',pD',d1,d2,d3,d4⟩:=zKk hc.2.2 hD;rw[b1]at d1;cases d1;rw[show(xV (at0 x.zA 0) D x.zA.length).Prime=at0 x.zA 0 from rfl]at d2 d4;have hw:=d4 _ t1;have gC:=fun r c(hr:r<base x.zA.length x.zA.length)(bw:c<D)=>yA3 hc.2.2 hq h1 h3 a2 d2 a3 b3 t1 hr bw
 generalize cl (at0 x.zA 0) (base x.zA.length x.zA.length*D) RD pD' T.flatten RD.length=w at hw gC
 have fx:∀r c,r<base x.zA.length x.zA.length→c<D→r*D+c<base x.zA.length x.zA.length*D:=fun r c hr bw=>by have:=zCo (D:=D) hr;omega
 have aS:∀i,i<T.length→(T.getD i []).length=D:=fun i hi=>(hT.2 i hi).1
 have ir:∀c,c<D→Row (at0 x.zA 0) (base x.zA.length x.zA.length) (zGw (base x.zA.length x.zA.length) D c T.flatten):=fun c bw=>⟨zY _ _,fun i hi=>by rw[zGw,yA hi];exact t1.2 _ (fx i c hi bw)⟩
 have gj:(zX5 D w C pc).length=C.length:=wU;refine⟨zX5 D w C pc,?_,?_,by omega,fun i hi=>?_⟩
 ·unfold f_s zWx
  have e0:ixO x.zA 0=iF (at0 x.zA 0):=by rw[show(0:Int)=((0:Nat):Int)from rfl,yQ hp.1]
  rw[c1,bs,e0,bs,show(1:Int)=((1:Nat):Int)from rfl,zOY h6 (by omega),bs,bs,a1,bs];rw[vC (body:=zW1 (xV (at0 x.zA 0) D x.zA.length) C) C.length (fun _=>J1 D (0:Int)) (fun i acc hi ha=>by
   unfold zW1;simp only
   rw[yT hi,zM,hD.d,xF (by omega),bs,yI (by grind),bs,zE (by omega) (by omega),bs];rfl) (fun acc=>by
   unfold zW1;simp),bs]
  have pE:=zX (body:=zW3 (xV (at0 x.zA 0) D x.zA.length) T C R1) (r:=zX5 D w C pc) (fun k=>(gl C.length fun j=>mkv D fun c=>if c<k then at0 w (pc j*D+c)else 0,(k:Int))) D (fun k hk=>by
   have bp:zI (zS0 T (gl C.length fun j=>mkv D fun c=>if c<k then at0 w (pc j*D+c)else 0,(k:Int))) ([],0)=iF (zGw (base x.zA.length x.zA.length) D k T.flatten):=by
    rw[zGw];refine(zUH (body:=zS0 T _) (base x.zA.length x.zA.length) (fun r=>at0 T.flatten (r*D+k)) (fun i acc hi ha=>?_) (fun acc=>?_))
    ·unfold zS0
     simp only
     rw[hT.1,yT hi,zM,yO [] (by rw[hT.1];exact hi),bs,yQ (by rw[aS i (by rw[hT.1];exact hi)];exact hk),bs,yI (by simp only[J8,Jx];omega),bs,zE (by omega) (by omega),bs,zX6 hT.1 aS hi hk];rfl
    ·unfold zS0
     simp only
     rw[hT.1,qA,zQ]
   have gM:=zE4 hq (by omega) a2 (ir k hk) (by omega);have hu:=zE3 hq (by omega) a2 (ir k hk) R1.length;have gO:=zX (body:=zW2 C (gl C.length fun j=>mkv D fun c=>if c<k then at0 w (pc j*D+c)else 0,(k:Int)) (cl (at0 x.zA 0) (base x.zA.length x.zA.length) R1 p1 (zGw (base x.zA.length x.zA.length) D k T.flatten) R1.length)) (r:=gl C.length fun j=>mkv D fun c=>if c<k+1 then at0 w (pc j*D+c)else 0) (fun j=>(gl C.length fun j'=>mkv D fun c=>if c<k∨(c=k∧j'<j)then at0 w (pc j'*D+c)else 0,(j:Int))) C.length (fun j hj=>by
    have ae:=c3.lt j hj;have hld:=zHb (c3.row j hj).1 (by omega) ae (fun i hi=>c3.low j hj i hi) (by have:=c3.one j hj;show ent C j (pc j)≠0;omega)
    unfold zW2;simp only
    rw[yT hj,zM,zAo hj,bs,yO [] hj,bs,hld,bs,yQ (by rw[hu.1];exact ae),bs,yQ (by rw[zY];exact hk),bs,zE (by omega) (by omega),bs];simp only[J6];rw[qL,zDi,←gC (pc j) k ae hk]
    congr 3
    refine tR fun j' _=>?_
    by_cases e:j'=j
    ·subst e
     rw[if_pos rfl];refine yB fun c _=>?_
     by_cases e2:c=k
     ·subst e2;simp
     omega
    ·rw[if_neg e]
     refine yB fun c _=>?_
     omega) (by
    unfold zW2;simp only
    rw[qA,zQ]
    congr 2
    refine tR fun j' mz=>yB fun c _=>?_
    omega)
   have e00:(gl C.length fun j'=>mkv D fun c=>if c<k∨(c=k∧j'<0)then at0 w (pc j'*D+c)else 0)=gl C.length fun j=>mkv D fun c=>if c<k then at0 w (pc j*D+c)else 0:=by simp
   rw[e00,show((0:Nat):Int)=0 from rfl]at gO;unfold zW3;simp only
   rw[hD.d,yT hk,zM,bp,bs,show(xV (at0 x.zA 0) D x.zA.length).Prime=at0 x.zA 0 from rfl,gM,bs,gO,bs,zE (by omega) (by omega),bs];rfl) (by
   unfold zW3;simp only
   rw[hD.d,qA,zQ]
   congr 2
   exact tR fun j _=>yB (by omega))
  have ez:(gl C.length fun j=>mkv D fun c=>if c<0 then at0 w (pc j*D+c)else 0)=gl C.length fun _=>J1 D (0:Int):=tR fun j _=>by rw[uH];rfl
  rw[ez,show((0:Nat):Int)=0 from rfl]at pE
  grind
 ·unfold zYq
  rw[t3,bs,hw.2.2,bs,c2,bs,zGH hq (by omega) c3 (by omega),bs];rw[vC (body:=zKp (zE6 (base x.zA.length x.zA.length) D w) (gl C.length fun i=>(pc i:Int))) C.length (fun j=>mkv D fun c=>at0 w (pc j*D+c)) (fun i acc hi ha=>by
   have bP:=c3.lt i hi;unfold zKp;simp only
   rw[wU,yT hi,zM,zAo hi,bs,zE6,zAo bP,bs,kS (by grind[zY]),bs,yI (by simp only[J8,Jx];omega),bs,zE (by omega) (by omega),bs];rfl) (fun acc=>by
   unfold zKp;simp),bs]
  rfl
 ·rw[gj]at hi
  rw[zX5,wF hi];exact⟨zY _ _,fun c bw=>by rw[yA bw];exact hw.1.2 _ (fx _ c (c3.lt i hi) bw)⟩
end
theorem zIU{x:SPr}{T:Mx}(hx:zCW x)(hm:zIe m)(hT:S2 T):∃g k,zW4 x m T=iF (g,k)∧zS1 x m T=iF (g,k)∧S2 g.Rows:=by
 have b7:S2 ([]:Mx):=by simp[S2,c2,sm]
 obtain⟨c,e1,e2,e3⟩:=zUK hx hm hT;unfold zW4 zS1;rw[e1,e2,bs,bs]
 by_cases g:c=0
 ·obtain⟨hc,hp,D,hD,em,hF⟩:=e3 g
  subst g;rw[em]at hD hF ⊢
  have h3:=hD.d3;obtain⟨M,m1,m2,m3,m4⟩:=zPc hc hp hD hF;rw[show((0:Int) != 0)=iI from rfl,zQ,zQ,m1,bs,m2,bs]
  by_cases g2:(M.length:Int)> 8
  ·rw[iL g2,zM,zM]
   exact⟨_,_,rfl,rfl,b7⟩
  ·rw[iJ g2,zQ,zQ]
   unfold yAK;rw[zRB (by omega) (fun i hi=>by rw[(m4 i hi).1];omega),bs,bs];refine⟨_,_,rfl,rfl,?_⟩;have e1:=zYH (c:=Pl.c1) (b:=3) (xs:=M) (fun r hr=>by obtain⟨i,hi,rfl⟩:=K4.1 hr;have:=(m4 i hi).1;rw[J3,J5 hi]at this;simp only[Jbb]at this;show(M[i]).length≤3;omega)
   show M.length+sm Pl.c1 M≤1048576;omega
 ·rw[show(c != 0)=iH from by simpa using g,zM,zM]
  exact⟨_,_,rfl,rfl,b7⟩
theorem zLx(x0:SPr)(x1:zB)(x2:Mx)(v0:zQk x0)(v1:zXb x1)(v2:VL (VL VI) x2)
  (h:zCW x0→zIe x1→S2 x2→ ∃g k,zW4 x0 x1 x2=iF (g,k)∧zS1 x0 x1 x2=iF (g,k)∧S2 g.Rows):zW5 x0 x1 x2=iF iH:=by
 unfold zW5;rw[zIf v0 (by decide) (by decide),bs];rcases zKM (c:=zMw x0) (b:=1048576) (by decide) (by decide)with e|⟨e,a0,b0,w0⟩<;>rw[e]
 ·rfl
 rw[zQ,zTC v1 a0 b0,bs];rcases zKM (c:=zTB x1) a0 b0 with e|⟨e,a1,b1,w1⟩<;>rw[e]
 ·rfl
 rw[zQ,zGb v2 a1 b1,bs];rcases zKM (c:=c2 x2) a1 b1 with e|⟨e,a2,b2,w2⟩<;>rw[e]
 ·rfl
 have s0:zCW x0:=zCW.of w0;have s1:zIe x1:=zIe.of w1;have s2:S2 x2:=w2;obtain⟨g,k,hs,hi,sg⟩:=h s0 s1 s2;have t0:=zQx s0;have q1:=zOs (x:=x1.zF);have w1':=w1;simp only[zTB]at w1';have q2:=zGd (x:=x2);have qg:=zGd (x:=g.Rows);rw[zQ,zIg s0,bs,zTD s1,bs,zGc s2,bs];simp only[bs];rw[hs,bs,hi,bs];simp only
 rw[zMP sg,bs];simp only[Ji,zQ,bne_self_eq_false];rw[zIh s0,bs,Ji,zQ,zTE s1,bs,Ji,zQ,zD2 s2,bs,beq_self_eq_true,Ji,zQ,zDK s0 (by decide) (by decide),bs];simp only
 rw[zOt s1 (by omega) (by omega),bs];simp only
 rw[zBb s2 (by omega) (by omega),bs];simp only
 rw[iJ (by omega),zQ,bs,Ji,zQ];rw[zOG sg (by decide) (by decide),bs];simp only
 rw[zOH sg (by decide) (by decide),bs,iJ (by omega),zQ,bne_self_eq_false,zQ,bs];simp only
 rw[zMP sg,bs,Ji,zQ,bne_self_eq_false,zQ,bs,iJ (by omega),zQ,bne_self_eq_false,zQ]
theorem zIV(x0:SPr)(x1:zB)(x2:Mx)(v0:zQk x0)(v1:zXb x1)(v2:VL (VL VI) x2):zW5 x0 x1 x2=iF iH:=
 by grind[zLx,zIU]
end Go.Pl
