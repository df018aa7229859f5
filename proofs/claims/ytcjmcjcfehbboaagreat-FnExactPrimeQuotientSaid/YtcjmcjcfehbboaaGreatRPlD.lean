/- x -/
import Derived.Test.YtcjmcjcfehbboaaGreatRPlC
open List renaming replicate→J0,getD_eq_getElem?_getD→J2,getElem?_eq_getElem→J3,length_cons→J8,length_singleton→Jf,eq_nil_of_length_eq_zero→Jj,getElem_mem→Jp,mem_map→Jq,take_of_length_le→Jt,getElem?_append_left→K1,getElem?_replicate→K3,take_zero→L9,replicate_succ'→Lf,getElem?_take_of_lt→Ua,getElem_of_mem→Uk,idxOf_lt_length_of_mem→Qb,getElem_map→Qh,ext_getElem→Qj
open Int renaming toNat_natCast->J7,pow_succ->Qzy,pow_zero->Jba
open Nat renaming le_refl->J9,succ_mul->Lo,eq_or_lt_of_le->Gf,eq_zero_or_pos->Gu
open Bool renaming not_true->K7,not_false->Ko
open Option renaming getD_some->Le,isSome_none->Ui
open Option renaming some->Wu,none->Wv
open Bool renaming true->Ww,false->Wx
namespace Go.Pl
open Go Go.Ab Go.Wk Go.Pc
variable {i k n:Nat}{F:yF}{x:SPr}
def enG(y:SPr)(im:Nat->List Int)(W N:Nat)(i k:Nat):Int:=((inG y im (wR y im W N i) i k).idxOf (mul (suf y 0) ((wR y im W N i).getD i []) (im k)):Nat)
def tbG(y:SPr)(im:Nat->List Int)(W N:Nat)(i:Nat):Mx:=gl N fun k=>gl i fun j=>enG y im W N j k
def mxG(y:SPr)(im:Nat->List Int)(W N:Nat)(i k:Nat):Mx:=gl N fun k'=>gl (if k'<k then i+1 else i) fun j=>enG y im W N j k'
section
variable {y:SPr}{im:Nat->List Int}{W N:Nat}
theorem zMI(i:Nat):mxG y im W N i 0=tbG y im W N i:=xZ fun k hk=>by rw[if_neg (by omega)]
theorem zQj(i:Nat):mxG y im W N i N=tbG y im W N (i+1):=xZ fun k hk=>by rw[if_pos hk]
theorem zGO(hk:k<N):ixO (mxG y im W N i k) (k:Int)=Wu (gl i fun j=>enG y im W N j k):=by unfold mxG;rw[vM hk,if_neg (by omega)]
theorem zGP:(mxG y im W N i k).set k ((gl i fun j=>enG y im W N j k)++[enG y im W N i k])=mxG y im W N i (k+1):=by
 unfold mxG;rw[vZ (F:=fun j=>enG y im W N j k),zAG];refine xZ fun j hj=>?_
 by_cases e:j=k
 ·subst e;rw[if_pos rfl,if_pos (by omega)]
 ·rw[if_neg e]
  by_cases l:j<k
  ·rw[if_pos l,if_pos (by omega)]
  ·rw[if_neg l,if_neg (by omega)]
theorem zMJ:tbG y im W N 0=J0 N []:=by simp[tbG,gl,List.map_const']
theorem zUR(hi:i<(wR y im W N i).length)(k:Nat):ixO (inG y im (wR y im W N i) i k) (i:Int)=Wu ((wR y im W N i).getD i []):=by obtain⟨G,hG⟩:=zLd y im (wR y im W N i) i k;rw[hG,yS [] (by simp;omega),J2,K1 hi,<-J2]
end
def MpG(p:Int)(W:Nat)(L:List (Int×Int))(F:Mx):Prop:=∀y,Row p W y->qY L (nm p y)=if y∈F then Wu ((F.idxOf y:Nat):Int)else Wv
section
variable {p:Int} (hp:Prime p) {W:Nat}
 include hp
theorem zUS:MpG p W (zB9 [] 0 0) [zeros W]:=fun y hy=>by
 have h2:=hp.pos;have hz:Row p W (zeros W):=xI;have hn:∀W,nm p (zeros W)=0:=fun W=>by
  induction W with
  |zero=>rfl
  |succ W ih=>rw[show zeros (W+1)=zeros W++[0]from Lf,zDw,ih];simp
 by_cases e:y=zeros W
 ·subst e
  rw[if_pos (by simp),hn];simp[zB9,zDW,qY]
 ·rw[if_neg (by simpa using e)]
  have:nm p y≠0:=fun q=>e (zLc h2.1 hy hz (by rw[q,hn]))
  simp[zB9,zDW,qY,this]
theorem zX2{L:List (Int×Int)}{F:Mx}(h:MpG p W L F){y:List Int}(hy:Row p W y)(hn:y∉F):MpG p W (zB9 L (nm p y) (F.length:Int)) (F++[y]):=fun z hz=>by
 have h2:=hp.pos;have e1:qY L (nm p y)=Wv:=by rw[h y hy,if_neg hn]
 rw[zUM e1,zUN,h z hz,zXy]
 by_cases q:z∈F
 ·simp[q]
 ·rw[if_neg q,if_neg q]
  by_cases e:z=y
  ·subst e
   rw[if_pos rfl,if_pos (by simp),if_pos rfl];rfl
  ·rw[if_neg fun r=>e (zLc h2.1 hz hy r),if_neg (by simp[q,e])];rfl
end
section
variable {y:SPr} (h:Pres y) (hc:xS (suf y 0)) {p:Int} (hp:Prime p) {W:Nat} (hW:y.zA.length=W) (gT:∀i,i<W->at0 y.zA i=p) (hP:p ^ W<=128)
 include h hc hp hW gT hP
theorem zRv{v:List Int}(hv:Row p W v):zVP y v=Wu (nm p v):=by
 have h2:=hp.pos;have aK:=h.os.1;have _:=hc;have hb:∀i,i<=W->0<=nm p (v.take i)/\nm p (v.take i)<=127:=fun i hi=>by
  have hr:Row p i (v.take i):=⟨by have:=hv.1;simp;omega,fun j hj=>by have:=hv.2 j (by omega);rw[at0,J2,Ua hj,<-J2];exact this⟩
  have b:=zMG h2.1 hr;have c:=zUP hp i (W-i);rw[show i+(W-i)=W from by omega]at c;omega
 unfold zVP;have key:zF (zJN y v) (0,0)=Wu (nm p v):=by
  have:=zN (body:=zJN y v) (r:=nm p v) (fun i=>(nm p (v.take i),(i:Int))) W (fun i hi=>by
   have b1:=hb i (by omega);have b2:=hb (i+1) (by omega);have bv:=hv.2 i hi;rw[zCi (by rw[hv.1];exact hi),zDw]at b2;unfold zJN;simp only
   rw[hv.1,xD hi,zK,xM (by rw[hv.1];exact hi),bs,xM,gT i hi,bs,zB,bs,zB,bs,zB,bs,<-zDw,<-zCi (by rw[hv.1];exact hi)];rfl) (by
   unfold zJN;simp only
   rw[hv.1,wX,zL,Jt (by rw[hv.1];omega)])
  rw[L9]at this;exact this
 rw[key,bs]
variable {N:Nat}{im:Nat->List Int} (hN:N<=14) (eI:∀k,k<N->V (suf y 0) (im k))
 include hN eI
theorem zQk(hi:∀j,j<=i->j<(wR y im W N j).length)(hk:k<=N):((inG y im (wR y im W N i) i k).length:Int)<=128:=by
 have _:=hN;have q:=zLe h eI (zFm h hc hW eI fun j hj=>hi j (by omega)) (hi i (J9 _)) k hk;have:=zQi hp.pos.1 q.1 fun v hv=>zX1 h hc hW gT (q.2 v hv)
 omega
theorem zX3(hi:∀j,j<=i->j<(wR y im W N j).length)(eD:i<=1000){L0 L:List (Int×Int)}{T0:Mx}(hL:MpG p W L (wR y im W N i)):
  ∃L',zF (zVQ y (gl N im) (wR y im W N i,L0,T0,(i:Int))) (wR y im W N i,L,tbG y im W N i,0)=Wu (wR y im W N (i+1),L',tbG y im W N (i+1))/\MpG p W L' (wR y im W N (i+1)):=by
 have h2:=hp.pos;have mf:=hi i (J9 _);have hm:(wR y im W N i).getD i []∈wR y im W N i:=by rw[J2,J3 mf];exact Jp mf
 have hv:=(zFm h hc hW eI fun j hj=>hi j (by omega)).2 _ hm;obtain⟨r,r1,L',rfl,hL'⟩:=uH (body:=zVQ y (gl N im) (wR y im W N i,L0,T0,(i:Int)))
  (Q:=fun r=> ∃L',r=(wR y im W N (i+1),L',tbG y im W N (i+1))/\MpG p W L' (wR y im W N (i+1)))
  (fun s=> ∃(k:Nat)(L:List (Int×Int)),s=(inG y im (wR y im W N i) i k,L,mxG y im W N i k,(k:Int))/\k<=N/\MpG p W L (inG y im (wR y im W N i) i k)) (fun s=>((N:Int)-s.2.2.2).toNat) (fun s hs=>by
   obtain⟨k,L,rfl,hk,hL⟩:=hs;unfold zVQ;simp only
   rw[yG];rcases Gf hk with q|q
   ·subst q
    right;rw[wX,zL,zQj];exact⟨_,rfl,L,rfl,hL⟩
   ·left
    have aE:=eI k q;have hyV:V (suf y 0) (mul (suf y 0) ((wR y im W N i).getD i []) (im k)):=yT (h.okAt (k:=0) (by omega)) hv aE;have hy:=zX1 h hc hW gT hyV;have gm:=zQk h hc hp hW gT hP hN eI hi hk;rw[xD q,zK,vM q,bs,zUR mf,bs,zXa h hc hv aE,bs,zRv h hc hp hW gT hP hy,bs,hL _ hy]
    by_cases e:mul (suf y 0) ((wR y im W N i).getD i []) (im k)∈inG y im (wR y im W N i) i k
    ·rw[if_pos e,Option.isSome_some,K7,zL,zGO q,bs,yA (by rw[yG];simp;omega),bs,zB,bs,Le,J7]
     refine⟨_,rfl,⟨k+1,L,?_,q,?_⟩,by simp only;omega⟩
     ·rw[show(((inG y im (wR y im W N i) i k).idxOf (mul (suf y 0) ((wR y im W N i).getD i []) (im k)):Nat):Int)=enG y im W N i k from rfl,zGP,inG,adF,if_pos e]
      rfl
     ·rw[inG,adF,if_pos e];exact hL
    ·rw[if_neg e,Ui,Ko,zK,bs,yA (by simp only[Jf];omega),bs,zGO q,bs,yA (by rw[yG];simp;omega),bs,zB,bs,J7]
     refine⟨_,rfl,⟨k+1,zB9 L (nm p (mul (suf y 0) ((wR y im W N i).getD i []) (im k))) ((inG y im (wR y im W N i) i k).length:Int),?_,q,?_⟩,by simp only;omega⟩
     ·rw[show((inG y im (wR y im W N i) i k).length:Int)=enG y im W N i k from by rw[enG,zI4 e],zGP,inG,adF,if_neg e]
      rfl
     ·rw[inG,adF,if_neg e];exact zX2 hp hL hy e) 1000 (wR y im W N i,L,tbG y im W N i,0) (by simp only;omega) ⟨0,L,by rw[zMI];rfl,by omega,hL⟩
 exact⟨L',r1,hL'⟩
theorem zRw(hn:(wR y im W N n).length=n)(hi:∀i,i<n->i<(wR y im W N i).length)(mC:n<=128):f_K y (gl N im)=Wu (tbG y im W N n):=by
 have aK:=h.os.1;unfold f_K;rw[hW,yZ,bs,yG,yZ,bs];obtain⟨r,r1,rfl⟩:=uH (body:=zYa y (gl N im)) (Q:=fun r=>r=tbG y im W N n)
  (fun s=> ∃(i:Nat)(L:List (Int×Int)),s=(wR y im W N i,L,tbG y im W N i,(i:Int))/\i<=n/\MpG p W L (wR y im W N i)) (fun s=>((n:Int)-s.2.2.2).toNat) (fun s hs=>by
   obtain⟨i,L,rfl,gK,hL⟩:=hs;unfold zYa;simp only
   rcases Gf gK with q|q
   ·subst q
    right;rw[hn,wX,zL];exact⟨_,rfl,rfl⟩
   ·left
    obtain⟨L',e1,e2⟩:=zX3 h hc hp hW gT hP hN eI (fun j hj=>hi j (by omega)) (by omega) (L0:=L) (T0:=tbG y im W N i) hL;rw[xD (hi i q),zK,e1,bs,zB,bs];exact⟨_,rfl,⟨i+1,L',rfl,q,e2⟩,by simp only;omega⟩) 1000 ([J0 W 0],zB9 [] 0 0,J0 N [],0) (by simp only;omega) ⟨0,zB9 [] 0 0,by
    rw[zMJ];rfl,by omega,zUS hp⟩
 rw[r1,bs]
theorem zUT(hi:∀j,j<=i->j<(wR y im W N j).length)(eD:i<=1000){T0 F0:Mx}:
  zF (zVY y (gl N im) (T0,F0,(i:Int))) (tbG y im W N i,wR y im W N i,0)=Wu (tbG y im W N (i+1),wR y im W N (i+1)):=by
 have h2:=hp.pos;have aK:=h.os.1;have mf:=hi i (J9 _);have hm:(wR y im W N i).getD i []∈wR y im W N i:=by rw[J2,J3 mf];exact Jp mf
 have hv:=(zFm h hc hW eI fun j hj=>hi j (by omega)).2 _ hm;rw[<-zMI,<-zQj];refine zN (fun k=>(mxG y im W N i k,inG y im (wR y im W N i) i k,(k:Int))) N (fun k q=>?_) ?_
 ·have aE:=eI k q
  have gm:=zQk h hc hp hW gT hP hN eI hi (Nat.le_of_lt q);have gD:=zLe h eI (zFm h hc hW eI fun j hj=>hi j (by omega)) mf k (Nat.le_of_lt q);unfold zVY;simp only
  rw[yG,xD q,zK,zUR mf,bs,vM q,bs,zCR h hc hv aE,bs,zRs (by omega) (fun j hj=>by
   have:(inG y im (wR y im W N i) i k).getD j []∈inG y im (wR y im W N i) i k:=by rw[J2,J3 hj];exact Jp hj
   have:=(zX1 h hc hW gT (gD.2 _ this)).1;omega),bs]
  have mF:(((inG y im (wR y im W N i) i k).idxOf (mul (suf y 0) ((wR y im W N i).getD i []) (im k)):Nat):Int)=enG y im W N i k:=rfl
  by_cases e:mul (suf y 0) ((wR y im W N i).getD i []) (im k)∈inG y im (wR y im W N i) i k
  ·have gI:=Qb e
   rw[zCK,zL,zGO q,bs,yA (by rw[yG];simp;omega),bs,zB,bs,J7,mF,zGP,inG,adF,if_pos e];rfl
  ·rw[show((((inG y im (wR y im W N i) i k).idxOf (mul (suf y 0) ((wR y im W N i).getD i []) (im k)):Nat):Int)==((inG y im (wR y im W N i) i k).length:Int))=Ww from by rw[zI4 e];exact beq_self_eq_true _,zK,
    yA (by simp only[Jf];omega),bs,zGO q,bs,yA (by rw[yG];simp;omega),bs,zB,bs,J7,mF,zGP,inG,adF,if_neg e]
   rfl
 ·unfold zVY
  simp only
  rw[yG,wX,zL];rfl
theorem zRx(hn:(wR y im W N n).length=n)(hi:∀i,i<n->i<(wR y im W N i).length)(mC:n<=128):f_v y (gl N im)=Wu (tbG y im W N n):=by
 have aK:=h.os.1;unfold f_v;rw[yG,yZ,bs,show zLh y=Wu (zeros W)from by unfold zLh;rw[hW,yZ,bs];rfl,bs]
 have key:zF (zSf y (gl N im)) (J0 N [],[zeros W],0)=Wu (tbG y im W N n):=by
  have:=zN (body:=zSf y (gl N im)) (r:=tbG y im W N n) (fun i=>(tbG y im W N i,wR y im W N i,(i:Int))) n (fun i q=>by
   unfold zSf;simp only
   rw[xD (hi i q),zK,zUT h hc hp hW gT hP hN eI (fun j hj=>hi j (by omega)) (by omega),bs,zB,bs];rfl) (by
   unfold zSf;simp only
   rw[hn,wX,zL])
  rw[zMJ]at this;exact this
 rw[key,bs]
theorem zRy:∃n,n<=128/\f_K y (gl N im)=Wu (tbG y im W N n)/\f_v y (gl N im)=Wu (tbG y im W N n):=by obtain⟨n,n1,n2,n3⟩:=zUQ h hc hp hW gT eI hP;exact⟨n,n3,zRw h hc hp hW gT hP hN eI n1 n2 n3,zRx h hc hp hW gT hP hN eI n1 n2 n3⟩
end
theorem zX4{p:Int}(hp:Prime p):∀n,n<8->p ^ n<=128->p ^ (n+base n n+4)<=4611686018427387904:=by rcases hp with h|h|h|h<;>rw[h]<;>decide+kernel
theorem yA8{p:Int}(hp:Prime p)(h:p ^ n<=128):n<=7:=by
 refine Classical.byContradiction fun g=>?_
 have a:=zUP hp 8 (n-8);rw[show 8+(n-8)=n from by omega]at a;have b:256<=p ^ 8:=by rcases hp with h|h|h|h<;>rw[h]<;>decide
 omega
theorem zX5{I:Mx}{N:Nat}(h:I.length=N):I=gl N fun i=>I.getD i []:=by subst h;apply Qj (by rw[yG]);intro i h1 h2;simp only[gl,Qh,List.getElem_range];rw[J2,J3 h1];rfl
theorem zUU{l:Mx}{B:Nat}(h:∀v∈l,v.length<=B):sm c1 l<=l.length*B:=by
 induction l with
 |nil=>simp[sm]
 |cons a l ih=>
  have h1:=h a (by simp);have h2:=ih fun v hv=>h v (by simp[hv])
  simp only[sm,c1,J8,Lo];omega
theorem zJI(h:Pres x)(h0:x.zA.length=0:=by omega):x=⟨[],[],[]⟩:=by have e1:=Jj h0;have e2:=Jj (h.pl.trans h0);have e3:=Jj (h.cl.trans h0);obtain⟨o,w,j⟩:=x;simp only at e1 e2 e3;rw[e1,e2,e3]
section
variable {y:SPr} (h:Pres y) {p:Int} (hp:Prime p) {W:Nat} (hW:y.zA.length=W) (gT:∀i,i<W->at0 y.zA i=p) (hB:p ^ W<=4611686018427387904)
 include h hp hW gT hB
theorem zJJ:zXN y=Wu (p ^ W):=by
 have h2:=hp.pos;have aK:=h.os.1;unfold zXN;have key:=zN (body:=zNc y) (r:=p ^ W) (fun i=>(p ^ i,(i:Int))) W (fun i hi=>by
  have a:=zUP hp (i+1) (W-(i+1));rw[show i+1+(W-(i+1))=W from by omega]at a;have b:0<p ^ (i+1):=Int.pow_pos (by omega);rw[Qzy]at a b;unfold zNc;simp only
  rw[hW,xD hi,zK,xM,gT i hi,bs,zB,bs,zB,bs,<-Qzy];rfl) (by
  unfold zNc;simp only
  rw[hW,wX,zL])
 rw[Jba,show((0:Nat):Int)=0 from rfl]at key;rw[key,bs]
theorem zRz:yAK y=Wu (p ^ W):=zJJ h hp hW gT hB
end
structure StQ (p:Int) (N:Nat) (x:SPr) (I:Mx):Prop where
 h:Pres x
 c:xS (suf x 0)
 o:∀i,i<x.zA.length->at0 x.zA i=p
 s:p ^ x.zA.length<=128
 l:I.length=N
 v:∀i,i<N->V (suf x 0) (I.getD i [])
section
variable {p:Int} (hp:Prime p) {N:Nat} (hN:N<=4)
 include hp
theorem StQ.ps{I:Mx}(q:StQ p N x I):zGm x:=by
 have fm:∀k,k<=x.zA.length->pr x.zA k=p ^ k:=fun k=>by
  induction k with
  |zero=>intro _;rw[pr,Jba]
  |succ k ih=>
   intro hk;rw[pr,ih (by omega),q.o k (by omega),Qzy]
 refine⟨q.h,yA8 hp q.s,?_⟩;rw[fm _ (J9 _)];have:=q.s;omega
 include hN
theorem zUV{I:Mx}(q:StQ p N x I)(hw:∀w∈F.zW,Wd N w)(hF:F.zW.length<=1000):
  ∃y J z,Pres y/\xS (suf y 0)/\J.length=N/\(∀i,i<N->V (suf y 0) (J.getD i []))/\(∀i,i<y.zA.length->at0 y.zA i=p)/\p ^ y.zA.length<=4611686018427387904/\f_o F p x I=Wu (y,J)/\f_f F p x I=Wu (y,J,z):=by
 have hs:=q.ps hp;have h7:=hs.n6;have hb:=vF x.zA.length (by omega);obtain⟨y,J,y1,y2,y3,y4,y5,y6,y7,y8⟩:=zRr hs q.c hp hN q.o hw hF q.l q.v;have uq:p ^ y.zA.length<=4611686018427387904:=by
  have a:=zX4 hp x.zA.length (by omega) q.s;have b:=zUP hp y.zA.length (x.zA.length+base x.zA.length x.zA.length+4-y.zA.length);rw[show y.zA.length+(x.zA.length+base x.zA.length x.zA.length+4-y.zA.length)=x.zA.length+base x.zA.length x.zA.length+4 from by have:dmX x N=base x.zA.length x.zA.length+N:=rfl;omega]at b
  omega
 rcases Gu (dmX x N)with z|z
 ·have ut:dmX x N=base x.zA.length x.zA.length+N:=rfl
  have e1:=zJI q.h;have e2:=zJI y1;have e3:I=J:=by rw[Jj (l:=I) (by have:=q.l;omega),Jj (l:=J) (by omega)]
  refine⟨y,J,x,y1,y2,y3,y4,y5,uq,y7,?_⟩;unfold f_f;rw[zAI rfl h7,bs,q.l,show rng (((base x.zA.length x.zA.length:Nat):Int)+(N:Int))=Wu 0 from tM,bs,show((0:Int)==0)=Ww from rfl,zK,e3,e1,e2]
 ·exact⟨y,J,x,y1,y2,y3,y4,y5,uq,y7,y8 z⟩
theorem zQl{F:yF}(hw:∀w∈F.zW,Wd N w)(hF:F.zW.length<=1000){c:Int}(hc:c<=6):∀(k:Nat)(x:SPr)(I:Mx)(i:Int),StQ p N x I->0<=i->i+(k:Int)=c->
  ∃r,zF (zJO F p c) (x.zA,x.zQ,x.zG,I,i)=Wu r/\zF (zJR F p c) (x.zA,x.zQ,x.zG,I,i)=Wu r/\(r=.inr ([],3)\/ ∃y J,StQ p N y J/\r=.inl (y.zA,y.zQ,y.zG,J))
 |0,x,I,i,q,i0,hi=>by
  refine⟨.inl (x.zA,x.zQ,x.zG,I),?_,?_,.inr ⟨x,I,q,rfl⟩⟩
  ·rw[yW]
   unfold zJO;simp only
   rw[Wy (by omega),zL]
  ·rw[yW]
   unfold zJR;simp only
   rw[Wy (by omega),zL]
 |k+1,x,I,i,q,i0,hi=>by
  obtain⟨y,J,z,y1,y2,y3,y4,y5,y6,y7,y8⟩:=zUV hp hN q hw hF;have o1:=zJJ y1 hp rfl y5 y6;have o2:=zRz y1 hp rfl y5 y6
  by_cases hs:p ^ y.zA.length<=128
  ·obtain⟨r,r1,r2,r3⟩:=zQl hw hF hc k y J (i+1) ⟨y1,y2,y5,hs,y3,y4⟩ (by omega) (by omega)
   refine⟨r,?_,?_,r3⟩
   ·rw[yW]
    unfold zJO;simp only
    rw[show rng (i+1)=Wu (i+1)from zB,Wz,zK,show(SPr.mk x.zA x.zQ x.zG)=x from rfl,y8,bs,o1,bs,Wy (by omega),zL,bs];exact r1
   ·rw[yW]
    unfold zJR;simp only
    rw[show rng (i+1)=Wu (i+1)from zB,Wz,zK,show(SPr.mk x.zA x.zQ x.zG)=x from rfl,y7,bs,o2,bs,Wy (by omega),zL,bs];exact r2
  ·refine⟨.inr ([],3),?_,?_,.inl rfl⟩
   ·rw[yW]
    unfold zJO;simp only
    rw[Wz,zK,show(SPr.mk x.zA x.zQ x.zG)=x from rfl,y8,bs,o1,bs,Wz,zK]
   ·rw[yW]
    unfold zJR;simp only
    rw[Wz,zK,show(SPr.mk x.zA x.zQ x.zG)=x from rfl,y7,bs,o2,bs,Wz,zK]
 omit hN in
theorem zX6:StQ p N ⟨[],[],[]⟩ (J0 N []):=by
  have h2:=hp.pos;refine⟨zKS,?_,fun i hi=>by simp at hi,by simp,by simp,fun i hi=>?_⟩
  · show xS (suf E0 0)
    simp[suf,E0,xS]
  · rw[J2,K3,if_pos hi]
    have:=xT (zKS.okAt (k:=0) (by omega));exact this
end
theorem zOt{o o':Option Bool}{P:Prop}(h:IsB o P)(h':IsB o' P):(o=Wu Ww/\o'=Wu Ww/\P)\/(o=Wu Wx/\o'=Wu Wx/\ ¬P):=by
 rcases h with⟨h1,h2⟩|⟨h1,h2⟩<;>rcases h' with⟨h3,h4⟩|⟨h3,h4⟩
 ·exact .inl ⟨h1,h3,h2⟩
 ·exact absurd h2 h4
 ·exact absurd h4 h2
 ·exact .inr ⟨h1,h3,h2⟩
theorem zUW(h:S2 F.zW):SFp F:=
 ⟨trivial,by have:=S2.len h;omega,fun w hw=>by have:w.length<=1048576:=S2.mem h hw;omega⟩
theorem zUX(h:yA6 F):∃N:Nat,N<=4/\F.Gens=(N:Int)/\(∀w∈F.zW,Wd N w):=by refine⟨F.Gens.toNat,by have:=h.1;omega,by have:=h.1;omega,fun w hm=>?_⟩;obtain⟨i,hi,rfl⟩:=Uk hm;have:=h.2.2 i hi;rw[J2,J3 hi,Le]at this;refine⟨this.1,fun a ha=>?_⟩;obtain⟨j,hj,rfl⟩:=Uk ha;have:=this.2 j hj;rw[at0,J2,J3 hj,Le]at this;have h1:=h.1;exact⟨this.1,by have:=this.2.1;omega,by have:=this.2.2;omega⟩
theorem zUY{y:SPr}{im:Nat->List Int}{W N:Nat}(hN:N<=4)(hn:n<=128):S2 (tbG y im W N n):=by
 have hl:(tbG y im W N n).length=N:=yG;have:=zUU (l:=tbG y im W N n) (B:=128) fun v hv=>by obtain⟨k,_,rfl⟩:=Jq.1 hv;rw[yG];exact hn
 rw[hl]at this;show c2 _<=1048576;unfold c2;omega
theorem zD3(p c:Int)(hF:S2 F.zW):∃g k,zYf F p c=Wu (g,k)/\zVR F p c=Wu (g,k)/\S2 g:=by
 have hs:=zUW hF;have fI:S2 ([]:Mx):=by simp[c2,sm]
 unfold zYf zVR;rcases zOt (zX0 hs) (zXz hs)with⟨e1,e2,ok⟩|⟨e1,e2,_⟩
 ·rw[e1,e2,bs,bs,K7,zL,zL]
  rcases zOt (zNA p) (zHB p)with⟨e3,e4,hp⟩|⟨e3,e4,_⟩
  ·rw[e3,e4,bs,bs,K7,zL,zL]
   rcases zOt (zCC c 0 6) (zAd c 0 6)with⟨e5,e6,hc⟩|⟨e5,e6,_⟩
   ·obtain⟨N,hN,hG,hw⟩:=zUX ok
    rw[e5,e6,bs,bs,K7,zL,zL,hG,yZ,bs,bs];obtain⟨r,r1,r2,r3⟩:=zQl hp hN hw (by have:=ok.2.1;omega) (F:=F) hc.2 c.toNat _ _ 0 (zX6 hp) (Int.le_refl _) (by omega);simp only at r1 r2;rw[r1,r2,bs,bs];rcases r3 with rfl|⟨y,J,q,rfl⟩
    ·exact⟨_,_,rfl,rfl,fI⟩
    ·have hJ:=zX5 q.l
     obtain⟨n,n1,n2,n3⟩:=zRy q.h q.c hp rfl q.o q.s (N:=N) (im:=fun i=>J.getD i []) (by omega) q.v;rw[<-hJ]at n2 n3;simp only
     rw[show(SPr.mk y.zA y.zQ y.zG)=y from rfl,n2,n3,bs];exact⟨_,_,rfl,rfl,zUY hN n1⟩
   ·rw[e5,e6,bs,bs,Ko,zK,zK]
    exact⟨_,_,rfl,rfl,fI⟩
  ·rw[e3,e4,bs,bs,Ko,zK,zK]
   exact⟨_,_,rfl,rfl,fI⟩
 ·rw[e1,e2,bs,bs,Ko,zK,zK]
  exact⟨_,_,rfl,rfl,fI⟩
def zMK(x:yF):Prop:=VI x.Gens/\VL (VL VI) x.zW
theorem zD4(x0:yF)(x1 x2:Int)(v0:zMK x0)(_:VI x1)(_:VI x2):yAQ x0 x1 x2=Wu Ww:=by
 unfold yAQ yAP;rw[zQD v0.2 (by decide) (by decide),bs];rcases zW8 (c:=c2 x0.zW) (b:=1048576) (by decide) (by decide)with e|⟨e,a0,b0,w0⟩<;>rw[e]
 ·rfl
 have s0:S2 x0.zW:=w0;have ht:zOK x0=Wu x0:=by unfold zOK;rw[zQE s0,bs]
 have he:zYg x0 x0=Wu Ww:=by unfold zYg;rw[zF8 s0,bs,bne_self_eq_false,zL,beq_self_eq_true,K7,zL]
 have q0:=zTy (x:=x0.zW);have hm:zYh x0 1=Wu ((1:Int)+(sm c1 x0.zW:Int),yF.mk x0.Gens (m2 1 x0.zW)):=by unfold zYh;rw[zGl s0 (by decide),bs]
 obtain⟨g,k,hs,hi,sg⟩:=zD3 x1 x2 s0;have qg:=zTy (x:=g);have sg':c2 g<=1048576:=sg;rw[zL,bs,e,zL,ht,bs,hs,bs,bs,hi,bs];simp only
 rw[zF8 sg,bs];simp only[beq_self_eq_true,K7,zL,bne_self_eq_false];rw[bs,he,bs,K7,zL,hm,bs];simp only
 rw[Wy (by omega),zL,bs,K7,zL];rw[zGl sg (by decide),bs];simp only
 rw[zLW sg (by decide),bs,Wy (by omega),zL,bne_self_eq_false,zL,bs,hi,bs];simp only
 rw[zF8 sg,bs,beq_self_eq_true,K7,zL,bne_self_eq_false,zL,bs,Wy (by omega),zL,bne_self_eq_false,zL]
end Go.Pl
