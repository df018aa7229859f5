/- x -/
import Derived.Test.YtcjmcjcfehbboaaGreatRPlA
import Derived.Test.YtcjmcjcfehbboaaGreatRWF
open List renaming replicate→J0,getD_eq_getElem?_getD→J2,getElem?_eq_getElem→J3,length_append→J5,length_cons→J8,getElem?_append_right→Ja,length_replicate→Jc,mem_cons→Je,append_assoc→Jg,append_nil→Jh,mem_append→Ji,eq_nil_of_length_eq_zero→Jj,length_map→Jm,getElem?_map→Jn,getElem_mem→Jp,mem_map→Jq,map_cons→Jr,nil_append→Js,take_of_length_le→Jt,range→Ju,replicate_succ→Jw,replicate_append_replicate→Jx,take_succ_eq_append_getElem→Jy,take_left'→Jz,cons_append→K0,getElem?_append_left→K1,getElem?_replicate→K3,reverse_reverse→K6,length_drop→K8,all_eq_true→Ka,drop_left'→Kd,range'→Ke,length_nil→Kh,getElem?_eq_none→Kj,drop_append_of_le_length→Kq,replicate_zero→Kt,drop_eq_getElem_cons→Ku,length_take→Kv,getElem?_drop→Kw,ext_getElem?→Kx,range'_succ→L3,set_cons_succ→L8,take_zero→L9,take_succ_cons→La,range_eq_range'→Ld,replicate_succ'→Lf,eq_of_mem_replicate→Lj,mem_range→Ll,flatMap_cons→Lm,drop_replicate→Ln,map_append→Lq,reverse_cons→Ly,mem_append_right→Hb,mem_flatMap→He,drop_eq_nil_of_le→Hf,drop_zero→Hr,getD_cons_zero→Ht,mem_iff_getElem→Hy,flatten_cons→G9,not_mem_nil→Gm,mem_of_mem_head?→Gp,length_range→Gv,mem_append_left→Gy,foldl_cons→Gz,range'_append_1→U9,getElem?_take_of_lt→Ua,range_succ→Ub,map_congr_left→Uj,cons→Ul,length→Uq,getElem?_replicate_of_lt→Ut,head?_cons→Uw,map_map→Q5,foldl_append→Q7,getElem_map→Qh,ext_getElem→Qj,range_succ_eq_map→Ja2,take→Jaf,mem_reverse→Jag,map_nil→Jai,getD→Jao,flatMap_append→Jap,findSome?_cons→Jaq,getElem?_set_self→Jat,map_id→Jb7,flatten_nil→Jbr
open Int renaming toNat_natCast->J7,emod_eq_of_lt->Jo,mul_emod->Jv,emod_emod->K2,emod_lt_of_pos->K9,add_emod->Kb,add_zero->Kf,emod_nonneg->Kl,mul_one->Kz,zero_add->L5,mul_zero->L6,tmod_eq_emod_of_nonneg->Lh,toNat_zero->H6,toNat_of_nonneg->Ga,zero_mul->U3,add_emod_right->Ux,one_mul->Uy,sub_emod->Qzz,mul_le_mul_of_nonneg_left->Qd,natCast_add->Ja9,emod_emod_of_dvd->Jau,zero_emod->Jaz,add_assoc->Jc2
open Nat renaming le_refl->J9,zero_add->Jd,lt_or_ge->Jk,zero_le->K4,sub_self->Kr,sub_zero->Li,succ_mul->Lo,mul_le_mul_right->Lp,add_mul->Hj,mul_one->Gd,mul_le_mul->Gt,add_sub_cancel_left->Gx,mul_add->Qv,add_sub_cancel->Ja6,add_zero->Jae,lt_irrefl->Jax
open Bool renaming not_true->K7,false_eq_true->Hg
open Option renaming some->Lr,map_some->H9,bind->Gl,isSome_none->Ui
open Prod renaming mk->Jak
open Option renaming some->Wu,none->Wv
open Bool renaming true->Ww,false->Wx
namespace Go.Pl
open Go Go.Ab Go.Wk Go.Pc
variable {n D N a j i k q M:Nat}{pv:Nat->Nat}{c u d y e y1 y2:Vec}{x:SPr}{v:List Int}{A:Mx}{Z:Vec->Prop}{C:Prop}{w1 w2 w':List Nat}{t1 t2:List (Nat×List Nat)}{m:zS}{out o1:List zH}
theorem zMl{p:Int}(hp:Prime p)(hn:n<=100000){R:Mx}(h:Red p n R pv):f_p p R=Wu R/\f_g p R=Wu R:=by
 have h7:=hp.pos;have hl:R.length<=n:=h.len_le;obtain⟨R2,pv2,r1,r2,r3,r4⟩:=qR hp hn (rows:=R) (by omega) h.row;have e:=r3.unique (by omega) h r4
 grind
section
variable {p:Int} (hp:Prime p) {c N:Nat} (fS:c+N<=100000) {A W:Mx}{pv:Nat->Nat}{t:Nat}
 include hp fS
theorem zMm(h:Nul p c N A W pv t):zF (zR9 (c:Int) W) ([],0)=Wu (nul c t W):=by
 have h7:=hp.pos;have hf:=h.full hp fS;have fR:=h.le;have:=zN (body:=zR9 (c:Int) W) (r:=nul c t W) (fun i=>(gl (i-t) (fun k=>(W.getD (t+k) []).drop c),(i:Int))) W.length (fun i hi=>by
  have hr:=h.red.row i hi;have h1:=h.red.one i hi;have e0:zT (W.getD i []) 0 (c:Int)=Wu ((W.getD i []).take c):=by unfold zT;rw[if_pos ⟨by omega,by omega,by rw[hr.1];omega⟩,J7,show(0:Int).toNat=0 from rfl,Hr,Li]
  have fC:((W.getD i []).take c).length=c:=by rw[Kv,hr.1];omega
  have hz:=zK7 (v:=(W.getD i []).take c);unfold zR9;simp only
  rw[xD hi,zK,yS [] hi,bs,e0,bs];rcases Jk i t with g|g
  ·have eg:=h.lo i g
   rcases hz with⟨_,z⟩|⟨z,_⟩
   ·grind
   ·rw[z,bs,zL,zB,bs,cs,show i-t=0 from by omega,show i+1-t=0 from by omega]
  ·have fx:=h.hi i g hi
   have e:zT (W.getD i []) (c:Int) ((W.getD i []).length:Int)=Wu ((W.getD i []).drop c):=by unfold zT;rw[if_pos (by grind),J7,J7,Jt (by rw[K8];omega)]
   rcases hz with⟨z,_⟩|⟨_,z⟩
   ·rw[z,bs,zK,e,bs,yA (by grind),bs,zB,bs,cs,show i+1-t=(i-t)+1 from by omega,<-vZ,show t+(i-t)=i from by omega]
   ·refine absurd (fun j hj=>?_) z
    rw[fC]at hj;rw[zBA hj];have:=h.red.low i hi j (by omega);omega) (by
  unfold zR9;simp only
  rw[wX,zL];rfl)
 grind
end
def tI(D N:Nat)(pv:Nat->Nat):List Nat:=(Ju D).filter fun c=>(Ju N).all fun i=>pv i != c
abbrev jU(D N:Nat)(pv:Nat->Nat):List Int:=(tI D N pv).map fun(c:Nat)=>(c:Int)
theorem zFJ(h:a<(tI D N pv).length):(tI D N pv).getD a 0<D:=by grind[tI,Jp]
theorem kV:(tI D N pv).length<=D:=by have:=List.length_filter_le (fun c=>(Ju N).all fun i=>pv i != c) (Ju D);rw[Gv]at this;exact this
theorem zPA(h:a<(tI D N pv).length):ixO (jU D N pv) (a:Int)=Wu (((tI D N pv).getD a 0:Nat):Int):=by grind[uL]
theorem zEH:jU (D+1) N pv=if(Ju N).all (fun i=>pv i != D)then jU D N pv++[(D:Int)]else jU D N pv:=by
 simp only[jU,tI,Ub,List.filter_append,Lq]
 grind
theorem zIL{c:Nat}(hN:N<=1000000:=by omega):zXL (gl N fun i=>(pv i:Int)) (c:Int)=Wu (!((Ju N).all fun i=>pv i != c)):=by
 unfold zXL yAH;rcases chk (body:=zMY (gl N fun i=>(pv i:Int)) (c:Int)) N 0 (K4 _) (fun i=>pv i≠c) (fun i=>(i:Int)) (fun i _ hi _=>by
   unfold zMY;rw[yG,xD hi,zK,vM hi,bs]
   by_cases e:pv i=c
   ·grind
   ·rw[zCK (by omega:(c:Int)≠(pv i:Int)),zL,zB,bs,cs];grind) (by
   simp_all[zMY])with⟨g1,g2⟩|⟨i,_,hi,g1,g2⟩
 ·grind
 ·rw[show((0:Nat):Int)=0 from rfl]at g1
  have e:((Ju N).all fun i=>pv i != c)=Wx:=by grind
  simp_all
theorem zHS{c:Nat}{f:Nat->Int}:(mkv N f).drop c=mkv (N-c) fun i=>f (c+i):=by
 have hl:((mkv N f).drop c).length=N-c:=by rw[K8,yI]
 grind[vT,yH,zHR,zY]
theorem zAJ:wL n j=mkv n fun i=>if i=j then 1 else 0:=by rw[wL,show zeros n=J0 n (0:Int)from rfl,sK,kS]
theorem uN:at0 (zeros n) i=0:=by
 rcases Jk i n with g|g
 ·simp[zeros,at0,J2,g]
 ·simp[zeros,at0,J2,g]
theorem zCo.p(h:zCo x)(hl:x.zA.length<=40):Pres x:=⟨⟨hl,h.os.2⟩,h.pl,h.cl,h.tl⟩
structure ExB (n D:Nat) (x:SPr) (m:zS) (T:Mx):Prop where
 hn:n<=7
 o:x.zA.length=n
 p:x.zQ.length=n
 c:x.zG.length=n
 cl:∀i,i<n->(x.zG.getD i []).length=n-1-i
 t:T.length=base n n
 m:zQJ n m D
section
variable {D:Nat}{x:SPr}{m:zS}{T:Mx} (h:Pres x) (hE:ExB x.zA.length D x m T) (hT:∀i,i<T.length->Row m.Prime D (T.getD i []))
 include h hE hT
abbrev exx(D:Nat)(x:SPr)(m:zS)(T:Mx):SPr:=ext x.zA.length D x m T
theorem xQ:(exx D x m T).zA.length=x.zA.length+D:=by have _:=h;have _:=hE;have _:=hT;simp[exx,ext]
theorem tZ(hi:i<x.zA.length):at0 (exx D x m T).zA i=at0 x.zA i:=by
 have _:=h;have _:=hE;have _:=hT;show at0 (x.zA++J0 D m.Prime) i=_
 grind
theorem zCd(hi:x.zA.length<=i)(h2:i<x.zA.length+D):at0 (exx D x m T).zA i=m.Prime:=by
 have _:=h;have _:=hE;have _:=hT;show at0 (x.zA++J0 D m.Prime) i=_
 grind
theorem zNQ{t:List Int}(hv:v.length=x.zA.length)(hr:∀j,j<x.zA.length->0<=at0 v j/\at0 v j<=at0 x.zA j-1)(hz:∀j,j<=i->j<x.zA.length->at0 v j=0)(ht:Row m.Prime D t)(hi:i<x.zA.length):Exp (exx D x m T).zA (v++t) i:=by
 have hl:=xQ h hE hT;refine⟨⟨by rw[J5,hv,ht.1,hl],fun j hj=>?_⟩,fun j hj=>?_⟩
 ·rw[J5,hv,ht.1]at hj
  rw[zK5,hv];split
  ·grind[tZ]
  ·next g=>rw[zCd h hE hT (by omega) hj];exact ht.2 _ (by omega)
 grind
theorem zMn(i:Nat)(hi:i<base x.zA.length x.zA.length):Row m.Prime D (T.getD i []):=by have _:=h;exact hT i (by rw[hE.t];exact hi)
theorem kW:zCo (exx D x m T):=by
 have hn:=hE.hn;have h3:=hE.m.d3;have h7:=hE.m.p.pos;have hl:=xQ h hE hT;have hb:=vF x.zA.length (by omega);refine⟨⟨trivial,fun i hi=>?_⟩,by rw[hl];exact yG,by rw[hl];exact yG,fun i hi=>?_⟩
 ·rw[hl]at hi
  rcases Jk i x.zA.length with g|g
  ·rw[tZ h hE hT g];exact h.os.2 i g
  ·rw[zCd h hE hT g hi];exact hE.m.p
 ·rw[hl]at hi
  have hP:(exx D x m T).zQ.getD i []=exP x.zA.length D x T i:=yY hi;have hC:(exx D x m T).zG.getD i []=exC x.zA.length D x m T i:=by
   show(gl (x.zA.length+D) (exC x.zA.length D x m T)).getD i []=_
   grind
  refine⟨?_,?_,?_⟩
  ·rw[hP,exP]
   rcases Jk i x.zA.length with g|g
   ·rw[if_pos g]
    obtain⟨t1,_,_⟩:=h.tl i g;exact zNQ h hE hT t1.1.1 (fun j hj=>t1.1.2 j (by rw[t1.1.1];exact hj)) (fun j hj _=>t1.2 j hj) (by grind[zMn]) g
   ·rw[if_neg (by omega)]
    have hz:∀j,at0 (J0 (x.zA.length+D) (0:Int)) j=0:=fun j=>uN
    refine⟨⟨by grind,fun j hj=>?_⟩,fun j _=>hz j⟩;rw[Jc]at hj;rw[hz];rcases Jk j x.zA.length with g2|g2
    ·rw[tZ h hE hT g2];have:=(h.os.2 j g2).pos;omega
    grind[zCd]
  ·grind[exC,unC]
  ·rw[hC,exC]
   split
   ·next g=>
    intro j hj;rw[yG]at hj;rw[yY hj,exF];split
    ·next g2=>
     have gF:=hE.cl i g;have mN:=zBf x.zA.length (by omega) i g;obtain⟨_,_,t3⟩:=h.tl i g;have t:=t3 j (by omega);exact zNQ h hE hT t.1.1 (fun q hq=>t.1.2 q (by rw[t.1.1];exact hq)) (fun q hq _=>t.2 q hq) (by grind[zMn]) g
    ·next g2=>
     have hz:∀j,at0 (J0 x.zA.length (0:Int)) j=0:=fun j=>uN
     refine zNQ h hE hT (by simp) (fun q hq=>?_) (fun q _ _=>hz q) ((hE.m.mat i g).2 _ (by omega)) g;rw[hz];have:=(h.os.2 q hq).pos;omega
   ·next g=>
    intro j hj;rw[unC,yG]at hj;rw[unC,yY hj];refine⟨⟨by rw[hl];exact yI _ _,fun q hq=>?_⟩,fun q hq=>?_⟩
    ·rw[xE,yI]at hq
     rw[xE,zY hq];rcases Jk q x.zA.length with g2|g2
     ·rw[tZ h hE hT g2];have:=(h.os.2 q g2).pos;omega
     grind[zCd]
    ·rw[xE,zY,if_neg (by omega)]
theorem zEI(hk:k<x.zA.length):(lvl (exx D x m T) k).o=at0 x.zA k:=tZ h hE hT hk
theorem zHT(hk:k<x.zA.length):(lvl (exx D x m T) k).w=(lvl x k).w++T.getD k []:=by have t1:=(h.tl k hk).1.1.1;have _:=hE;have _:=hT;show((exx D x m T).zQ.getD k []).drop (k+1)=_;have hP:(exx D x m T).zQ.getD k []=exP x.zA.length D x T k:=yY;rw[hP,exP,if_pos hk,Kq (by omega)];rfl
def eC1(x:SPr)(T:Mx)(k:Nat):List Vec:=gl (x.zA.length-1-k) fun j=>(lvl x k).cs.getD j []++T.getD (base x.zA.length k+j) []
def eC2(x:SPr)(m:zS)(D k:Nat):List Vec:=((gl D fun j=>(m.zR.getD k []).getD j []).map fun r=>zeros (x.zA.length-1-k)++r)
theorem zCN(hk:k<x.zA.length):(lvl (exx D x m T) k).cs=eC1 x T k++eC2 x m D k:=by
 have gF:=hE.cl k hk;have _:=hT;show((exx D x m T).zG.getD k []).map (·.drop (k+1))=_;have hC:(exx D x m T).zG.getD k []=exC x.zA.length D x m T k:=by
  show(gl (x.zA.length+D) (exC x.zA.length D x m T)).getD k []=_
  grind
 rw[hC,exC,if_pos hk];apply Kx;intro j
 by_cases hj:j<x.zA.length+D-1-k
 ·have e1:((gl (x.zA.length+D-1-k) (exF x.zA.length x m T k)).map (·.drop (k+1)))[j]? =Wu ((exF x.zA.length x m T k j).drop (k+1)):=by grind
  rw[e1,exF]
  by_cases g:j<x.zA.length-1-k
  ·rw[if_pos g,K1 (by grind[eC1])]
   have t:=(h.tl k hk).2.2 j (by omega);rw[Kq (by have:=t.1.1;omega)];have e2:(eC1 x T k)[j]? =Wu ((lvl x k).cs.getD j []++T.getD (base x.zA.length k+j) []):=by simp[eC1,gl,g]
   rw[e2]
   congr 2
   simp only[lvl,J2,Jn]
   grind
  ·rw[if_neg g,Ja (by grind[eC1]),eC1,yG]
   have e2:(eC2 x m D k)[j-(x.zA.length-1-k)]? =Wu (zeros (x.zA.length-1-k)++(m.zR.getD k []).getD (j-(x.zA.length-1-k)) []):=by simp[eC2,gl,show j-(x.zA.length-1-k)<D by omega]
   rw[e2,Kq (by simp;omega),Ln,show x.zA.length-(k+1)=x.zA.length-1-k from by omega];rfl
 ·rw[Kj (by grind),Kj (by simp[eC1,eC2,gl];omega)]
end
def tlv(p:Int):Nat->Pcp
 |0=>[]
 |d+1=>⟨p,zeros d,wI d⟩::tlv p d
theorem zGI{p:Int}:∀d,(tlv p d).length=d
 |0=>rfl
 |d+1=>by simp[tlv,zGI d]
theorem zGq{p:Int}:∀(d:Nat)(v:Vec),V (tlv p d) v↔Row p d v
 |0,v=>by
  constructor
  ·intro h
   obtain rfl:v=[]:=h;exact⟨rfl,fun i hi=>by omega⟩
  ·intro h
   have:=Jj h.1;subst this;exact rfl
 |d+1,v=>by
  cases v with
  |nil=>exact⟨fun h=>h.elim,fun h=>by have:=h.1;grind⟩
  |cons a v=>
   show((0<=a/\a<p)/\V (tlv p d) v)↔_;rw[zGq d v];constructor
   ·rintro⟨⟨h0,h1⟩,h2⟩
    refine⟨by simp[h2.1],fun i hi=>?_⟩;cases i with
    |zero=>grind
    |succ i=>have:=h2.2 i (by omega);grind
   ·intro h
    have h0:=h.2 0 (by omega);simp only[at0,Ht]at h0;refine⟨⟨h0.1,by omega⟩,by have:=h.1;grind,fun i hi=>?_⟩;have:=h.2 (i+1) (by omega)
    grind
abbrev adv(p:Int)(D:Nat)(u v:List Int):List Int:=mkv D fun j=>(at0 u j+at0 v j)%p
theorem sS{p:Int}{u:List Int}(hp:0<p:=by omega):Row p D (adv p D u v):=by refine⟨yI _ _,fun j hj=>?_⟩;rw[zY hj];have e1:=Kl (at0 u j+at0 v j) (show p≠0 by omega);have e2:=K9 (at0 u j+at0 v j) hp;omega
theorem zHU{p:Int}{D:Nat}{c:List Int}(hp:0<p):∀(k:Nat)(acc:List Int),Row p D acc->iter k (fun w=>adv p D w c) acc=mkv D fun j=>(at0 acc j+(k:Int)*at0 c j)%p
 |0,acc,ha=>by
  show acc=_
  conv=>lhs;rw[vT ha.1]
  refine yH fun j hj=>?_
  have:=ha.2 j hj;rw[Int.natCast_zero,U3,Kf,Jo this.1 (by omega)]
 |k+1,acc,ha=>by
  show iter k (fun w=>adv p D w c) (adv p D acc c)=_;rw[zHU hp k _ (sS hp)];refine yH fun j hj=>?_
  grind[zY,Kb,K2]
theorem zZZ{f:Nat->Int}:S (n+1) f=f 0+S n fun i=>f (i+1):=by
 rw[Nat.add_comm,zEC 1 n];simp only[S]
 grind
theorem zGJ{p:Int}{D:Nat}(hp:0<p):∀(cs:List Vec)(v acc:Vec),v.length=cs.length->(∀i,i<v.length->0<=at0 v i)->Row p D acc->img (adv p D) cs v acc=mkv D fun j=>(at0 acc j+S cs.length fun k=>at0 v k*ent cs k j)%p
 | [],v,acc,hl,_,ha=>by
  show acc=_
  conv=>lhs;rw[vT ha.1]
  refine yH fun j hj=>?_
  have:=ha.2 j hj;simp only[Kh,S];rw[Kf,Jo this.1 (by omega)]
 |c::cs,[],acc,hl,_,_=>by simp at hl
 |c::cs,a::v,acc,hl,hv,ha=>by
  have h0:=hv 0 (by simp);simp only[at0,Ht]at h0;have fD:Row p D (iter a.toNat (fun w=>adv p D w c) acc):=tA (S:=Row p D) (fun _ _=>sS hp) _ ha;show img (adv p D) cs v (iter a.toNat (fun w=>adv p D w c) acc)=_;rw[zGJ hp cs v _ (by grind) (fun i hi=>by have:=hv (i+1) (by grind);grind) fD,zHU hp _ _ ha];refine yH fun j hj=>?_
  rw[zY hj,J8,zZZ,Kb,K2,<-Kb,Ga h0,Jc2];rfl
theorem zDo{α:Type}{S:α->Prop}{m m':α->α->α}(hm:∀a b,S a->S b->m a b=m' a b)(hc:∀a b,S a->S b->S (m' a b)):∀(cs:List α)(v:Vec)(acc:α),(∀c∈cs,S c)->S acc->img m cs v acc=img m' cs v acc
 | [],_,_,_,_=>by simp[img]
 |c::cs,[],_,_,_=>by simp[img]
 |c::cs,a::v,acc,h1,h2=>by
  have mL:=h1 c (by simp);have e:∀k acc,S acc->iter k (fun w=>m w c) acc=iter k (fun w=>m' w c) acc/\S (iter k (fun w=>m' w c) acc):=by
   intro k
   induction k with
   |zero=>intro acc ha;exact⟨rfl,ha⟩
   |succ k ih=>
    intro acc ha;show iter k (fun w=>m w c) (m acc c)=iter k (fun w=>m' w c) (m' acc c)/\_;rw[hm acc c ha mL];exact ih _ (hc _ _ ha mL)
  show img m cs v (iter a.toNat (fun w=>m w c) acc)=img m' cs v (iter a.toNat (fun w=>m' w c) acc);rw[(e _ _ h2).1];exact zDo hm hc cs v _ (by grind) (e _ _ h2).2
theorem zDp{d:Nat}(hk:k<d)(hj:j<d):ent (wI d) k j=if j=k then 1 else 0:=by
 have e:(wI d).getD k []=wL d k:=by grind[wI]
 rw[ent,e,zAJ,zY hj]
theorem xI{p:Int}(hp:0<p:=by omega):Row p D (zeros D):=zT9 hp
theorem jN{p:Int}(hp:2<=p):∀(d:Nat)(u v:Vec),Row p d u->Row p d v->mul (tlv p d) u v=adv p d u v
 |0,u,v,hu,_=>by rfl
 |d+1,u,v,hu,hv=>by
  have ih:=jN hp d;have mU:=(zGq (d+1) u).2 hu;have pc:=(zGq (d+1) v).2 hv;cases u with
  |nil=>exact mU.elim
  |cons a u=>
   cases v with
   |nil=>exact pc.elim
   |cons b v=>
    obtain⟨⟨a0,a1⟩,pd⟩:=mU;obtain⟨⟨b0,b1⟩,eU⟩:=pc;have hu3:=(zGq d u).1 pd;have pu:=(zGq d v).1 eU;change a<p at a1;change b<p at b1;have fa:∀w,Row p d w->sig (tlv p d) ⟨p,zeros d,wI d⟩ w=w:=fun w hw=>by
     have je:∀c∈wI d,Row p d c:=fun c hc=>by obtain⟨k,hk,rfl⟩:=Jq.1 hc;rw[zAJ];exact⟨yI _ _,by grind[zY]⟩
     unfold sig;rw[zGI,zDo (S:=Row p d) (m':=adv p d) (by omega) (fun _ _ _ _=>sS) (wI d) w _ je (xI),zGJ (by omega) (wI d) w _ (by rw[hw.1];simp[wI]) (fun i hi=>(hw.2 i (by rw[<-hw.1];exact hi)).1) (xI)]
     conv=>rhs;rw[vT hw.1]
     refine yH fun j hj=>?_
     have px:(wI d).length=d:=by simp[wI]
     have:=hw.2 j hj;rw[px,uN,L5,zAq (k:=j) hj (fun k hk gf=>by rw[zDp hk hj,if_neg (Ne.symm gf),L6]),zDp hj hj,if_pos rfl,Kz,Jo this.1 (by omega)]
    have eV:∀k,iter k (sig (tlv p d) ⟨p,zeros d,wI d⟩) u=u:=by grind[zEE]
    show mul (⟨p,zeros d,wI d⟩::tlv p d) (a::u) (b::v)=_;rw[yN,eV,ih u v hu3 pu];have hz:adv p d (zeros d) (adv p d u v)=adv p d u v:=by
     refine yH fun j hj=>?_
     rw[zY hj,uN,L5,K2]
    rw[ih _ _ (xI) (sS),hz];have ui:adv p (d+1) (a::u) (b::v)=(a+b)%p::adv p d u v:=by
     simp only[adv,mkv,Ja2,Jr,Q5]
     congr 1
    rw[ui];split
    ·next g=>
     have g:a+b>=p:=g;have e:(a+b)%p=a+b-p:=by rw[show a+b=(a+b-p)+p from by omega,Ux,Jo (by omega) (by omega)];omega
     grind
    ·next g=>
     have g:¬a+b>=p:=g
     congr 1
     exact(Jo (by omega) (by omega)).symm
theorem zPB{α:Type}{m:α->α->α}:∀(c1:List α)(y:Vec)(c2:List α)(u:Vec)(acc:α),c1.length=y.length->img m (c1++c2) (y++u) acc=img m c2 u (img m c1 y acc)
 | [],[],_,_,_,_=>by rfl
 | [],_::_,_,_,_,h=>by simp at h
 |_::_,[],_,_,_,h=>by simp at h
 |c::c1,a::y,c2,u,acc,h=>zPB c1 y c2 u _ (by grind)
theorem zEJ{α β:Type}{S:α->Prop}{m:α->α->α}{n:β->β->β}(φ:α->β)(hS:∀a b,S a->S b->S (m a b))(hm:∀a b,S a->S b->φ (m a b)=n (φ a) (φ b)):∀(cs:List α)(v:Vec)(a:α),(∀c∈cs,S c)->S a->φ (img m cs v a)=img n (cs.map φ) v (φ a)
 | [],v,a,_,_=>by rfl
 |_::_,[],_,_,_=>rfl
 |c::cs,t::v,a,hc,ha=>by
  have mL:=hc c (by simp);have e:∀k a,S a->φ (iter k (fun w=>m w c) a)=iter k (fun w=>n w (φ c)) (φ a)/\S (iter k (fun w=>m w c) a):=by
   intro k
   induction k with
   |zero=>intro a ha;exact⟨rfl,ha⟩
   |succ k ih=>
    intro a ha;have:=ih (m a c) (hS _ _ ha mL);rw[hm a c ha mL]at this;exact this
  show φ (img m cs v (iter t.toNat (fun w=>m w c) a))=img n (cs.map φ) v (iter t.toNat (fun w=>n w (φ c)) (φ a));rw[<-(e _ a ha).1];exact zEJ φ hS hm cs v _ (by grind) (e _ a ha).2
theorem sL{p:Int}{r:List Int}(hr:Row p D r):wQ p D r (idM D)=r:=by
 conv=>rhs;rw[vT hr.1]
 refine yH fun j hj=>?_
 have:=hr.2 j hj;have e:∀l,l<D->ent (idM D) l j=if j=l then 1 else 0:=fun l hl=>by rw[ent,zBc hl,zY hj]
 rw[zAq (k:=j) hj (by grind),e j hj,if_pos rfl,Kz,vN this]
theorem zEK{p:Int}{r:List Int}{B:Mx}(hA:A.length=D):wQ p D (wQ p D r A) B=wQ p D r (PM p D A B):=by
 refine yH fun j hj=>?_
 have e1:S D (fun l=>at0 (wQ p D r A) l*ent B l j)%p=S D (fun l=>S D (fun i=>at0 r i*ent A i l)*ent B l j)%p:=zAe (by grind[wQ,zY,Jv,K2]);have e2:S D (fun l=>at0 r l*ent (PM p D A B) l j)%p=S D (fun i=>at0 r i*S D (fun l=>ent A i l*ent B l j))%p:=zAe (by grind[zNF,Jv,K2]);rw[e1,e2]
 congr 1
 have e3:S D (fun l=>S D (fun i=>at0 r i*ent A i l)*ent B l j)=S D (fun l=>S D (fun i=>at0 r i*ent A i l*ent B l j)):=xL (by grind[zP5]);rw[e3,zHI];refine xL fun i _=>?_
 rw[<-zBo];exact xL (by grind)
theorem vW{p:Int}(hv:Row p D v):adv p D (zeros D) v=v:=by
 conv=>rhs;rw[vT hv.1]
 refine yH fun j hj=>?_
 rw[uN,L5,vN (hv.2 j hj)]
theorem zAK{p:Int}(hv:Row p D v):adv p D v (zeros D)=v:=by
 conv=>rhs;rw[vT hv.1]
 refine yH fun j hj=>?_
 rw[uN,Kf,vN (hv.2 j hj)]
theorem zTH{p:Int}{acc:List Int}(hl:A.length=D):(mkv D fun j=>(at0 acc j+S A.length fun k=>at0 v k*ent A k j)%p)=adv p D acc (wQ p D v A):=by grind[yH,wQ,zY,Int.add_emod_emod]
theorem tG{p:Int}{u:List Int}:adv p D u v=adv p D v u:=by grind
theorem zWM{p:Int}{u w:List Int}(hv:Row p D v)(hw:Row p D w):adv p D u v=adv p D u w↔v=w:=by
 constructor
 ·intro h
  rw[vT hv.1,vT hw.1];refine yH fun j hj=>?_
  have e:at0 (adv p D u v) j=at0 (adv p D u w) j:=by rw[h]
  rw[adv,adv,zY hj,zY hj]at e;have h1:=hv.2 j hj;have h2:=hw.2 j hj;have h3:=Jau (at0 u j+at0 v j) (Int.dvd_refl p);have e4:(at0 u j+at0 v j-at0 u j)%p=(at0 u j+at0 w j-at0 u j)%p:=by rw[Qzz,e,<-Qzz]
  rw[show at0 u j+at0 v j-at0 u j=at0 v j from by omega,show at0 u j+at0 w j-at0 u j=at0 w j from by omega,vN h1,vN h2]at e4;exact e4
 grind
section
variable {D:Nat}{x:SPr}{m:zS}{T:Mx} (h:Pres x) (hE:ExB x.zA.length D x m T) (hT:∀i,i<T.length->Row m.Prime D (T.getD i []))
 include h hE hT
theorem zBg:∀(d k:Nat),x.zA.length<=k->k+d=x.zA.length+D->suf (exx D x m T) k=tlv m.Prime d
 |0,k,hk,hd=>by rw[vQ (by grind[xQ])];rfl
 |d+1,k,hk,hd=>by
  have hl:=xQ h hE hT;rw[yB,zBg d (k+1) (by omega) (by omega),tlv]
  congr 1
  have hP:(exx D x m T).zQ.getD k []=exP x.zA.length D x T k:=yY;have hC:(exx D x m T).zG.getD k []=exC x.zA.length D x m T k:=by
   show(gl (x.zA.length+D) (exC x.zA.length D x m T)).getD k []=_
   grind
  unfold lvl;rw[hP,hC,exP,exC,if_neg (by omega),if_neg (by omega),zCd h hE hT hk (by omega),Ln,show x.zA.length+D-(k+1)=d from by omega]
  congr 1
  rw[unC,wI,gl,Q5,show x.zA.length+D-1-k=d from by omega];refine Uj fun j hj=>?_
  have hj:=Ll.1 hj;show(xE (x.zA.length+D) (k+1+j)).drop (k+1)=wL d j;rw[xE,zHS,zAJ,show x.zA.length+D-(k+1)=d from by omega];simp
theorem sX:∀(d k:Nat),k+d=x.zA.length-> ∀v,V (suf (exx D x m T) k) v↔ ∃y u,v=y++u/\V (suf x k) y/\Row m.Prime D u
 |0,k,hk,v=>by
  rw[zBg h hE hT D k (by omega) (by omega),zGq,vQ (x:=x) (k:=k)];constructor
  ·intro g;exact⟨[],v,rfl,rfl,g⟩
  ·rintro⟨y,u,rfl,hy,hu⟩
   obtain rfl:y=[]:=hy;exact hu
 |d+1,k,hk,v=>by
  have hl:=xQ h hE hT;have ih:=sX d (k+1) (by omega);rw[yB (x:=exx D x m T),yB (x:=x)];cases v with
  |nil=>
   refine⟨fun g=>g.elim,?_⟩
   rintro⟨y,u,e,hy,hu⟩
   cases y with
   |nil=>exact hy.elim
   |cons a y=>simp at e
  |cons a v=>
   show((0<=a/\a<(lvl (exx D x m T) k).o)/\V (suf (exx D x m T) (k+1)) v)↔_;rw[zEI h hE hT (by omega),ih v];constructor
   ·rintro⟨g,y,u,rfl,hy,hu⟩
    exact⟨a::y,u,rfl,⟨g,hy⟩,hu⟩
   ·rintro⟨y,u,e,hy,hu⟩
    cases y with
    |nil=>exact hy.elim
    |cons b y=>
     simp only[K0,Ul.injEq]at e;obtain⟨rfl,rfl⟩:=e;exact⟨hy.1,y,u,rfl,hy.2,hu⟩
theorem zEL:∀(d k:Nat),k+d=x.zA.length-> ∀y u r,V (suf x k) y->Row m.Prime D u->Row m.Prime D r->mul (suf (exx D x m T) k) (y++u) (zeros d++r)=y++adv m.Prime D u r
 |0,k,hk,y,u,r,hy,hu,hr=>by have hp:=hE.m.p.pos;rw[vQ (x:=x) (k:=k)]at hy;obtain rfl:y=[]:=hy;rw[zBg h hE hT D k (by omega) (by omega)];exact jN (by omega) D u r hu hr
 |d+1,k,hk,y,u,r,hy,hu,hr=>by
  have hl:=xQ h hE hT;rw[yB (x:=x)]at hy;cases y with
  |nil=>exact hy.elim
  |cons a y=>
   obtain⟨⟨a0,a1⟩,hy⟩:=hy;change a<at0 x.zA k at a1;rw[yB (x:=exx D x m T)];show mul _ (a::(y++u)) (0::(zeros d++r))=_;rw[yN,zEI h hE hT (by omega),if_neg (by omega)];show(a+0)::mul _ (y++u) (zeros d++r)=_;rw[zEL d (k+1) (by omega) y u r hy hu hr,Kf];rfl
theorem uX(hk:k<=x.zA.length+D):Pc.Ok (suf (exx D x m T) k):=(kW h hE hT).okAt (by grind[xQ])
theorem zNR{d k:Nat}(hk:k+d=x.zA.length):∀(rs:List Vec)(v:Vec)(y u:Vec),(∀r∈rs,Row m.Prime D r)->V (suf x k) y->Row m.Prime D u->img (mul (suf (exx D x m T) k)) (rs.map fun r=>zeros d++r) v (y++u)=y++img (adv m.Prime D) rs v u
 | [],v,y,u,_,_,_=>by rfl
 |_::_,[],_,_,_,_,_=>rfl
 |c::rs,t::v,y,u,hr,hy,hu=>by
  have hp:=hE.m.p.pos;have hc:=hr c (by simp);have e:∀q u,Row m.Prime D u->iter q (fun w=>mul (suf (exx D x m T) k) w (zeros d++c)) (y++u)=y++iter q (fun w=>adv m.Prime D w c) u:=by
   intro q
   induction q with
   |zero=>intro u _;rfl
   |succ q ih=>
    intro u hu;show iter q _ (mul _ (y++u) (zeros d++c))=_;rw[zEL h hE hT d k hk y u c hy hu hc,ih _ (sS)];rfl
  show img _ (rs.map fun r=>zeros d++r) v (iter t.toNat (fun w=>mul (suf (exx D x m T) k) w (zeros d++c)) (y++u))=_;rw[e _ _ hu,zNR hk rs v y _ (by grind) hy (tA (S:=Row m.Prime D) (fun _ _=>sS) _ hu)];rfl
theorem yAa(hk:k<x.zA.length):(gl D fun j=>(m.zR.getD k []).getD j [])=m.zR.getD k []:=by
 have _:=h;have _:=hT;have hl:=(hE.m.mat k hk).1;apply Kx
 grind
def sgG(D:Nat)(x:SPr)(m:zS)(T:Mx)(k:Nat)(y:Vec):Vec:=img (mul (suf (exx D x m T) (k+1))) (eC1 x T k) y (zeros (suf (exx D x m T) (k+1)).length)
theorem jO:(eC1 x T k).length=x.zA.length-1-k:=by have _:=h;have _:=hE;have _:=hT;grind[eC1]
theorem zTI(hk:k<x.zA.length):∀c∈eC1 x T k,V (suf (exx D x m T) (k+1)) c:=by intro c hc;have ok:=uX h hE hT (k:=k) (by omega);rw[yB (by grind[xQ])]at ok;exact ok.2.2.2.1 c (by grind[zCN])
theorem zFK(hk:k<=x.zA.length):zeros (suf (exx D x m T) k).length=zeros (x.zA.length-k)++zeros D:=by grind[yC,xQ,zeros,Jx]
theorem zJ9(hk:k<x.zA.length):V (suf (exx D x m T) (k+1)) (sgG D x m T k y):=by have ok:=uX h hE hT (k:=k+1) (by omega);exact kR (yT ok) _ _ (zTI h hE hT hk) (xT ok)
theorem zCO(hk:k<x.zA.length)(hy:V (suf x (k+1)) y)(hu:Row m.Prime D u):
  sig (suf (exx D x m T) (k+1)) (lvl (exx D x m T) k) (y++u)=(sgG D x m T k y).take (x.zA.length-(k+1))++adv m.Prime D ((sgG D x m T k y).drop (x.zA.length-(k+1))) (wQ m.Prime D u (m.zR.getD k [])):=by
 have hp:=hE.m.p.pos;have hA:=hE.m.mat k hk;have eQ:=uG h (by omega) hy;unfold sig;rw[zCN h hE hT hk,zPB _ _ _ _ _ (by grind[jO])];show img _ (eC2 x m D k) u (sgG D x m T k y)=_;obtain⟨y1,u1,e,eF,pe⟩:=(sX h hE hT (x.zA.length-(k+1)) (k+1) (by omega) _).1 (zJ9 h hE hT hk (y:=y));have gR:=uG h (by omega) eF;rw[e,eC2,yAa h hE hT hk,show x.zA.length-1-k=x.zA.length-(k+1)from by omega,zNR h hE hT (by omega) _ _ _ _ (fun r hr=>?_) eF pe,zGJ (by omega) _ _ _ (by rw[hA.1,hu.1]) (fun i hi=>(hu.2 i (by rw[<-hu.1];exact hi)).1) pe,zTH hA.1,Jz gR,Kd gR];obtain⟨j,hj,rfl⟩:=Hy.1 hr;have ak:=hA.1;have:=hA.2 j (by omega)
 grind
theorem zGK(hk:k<x.zA.length)(hu:Row m.Prime D u):
  sig (suf (exx D x m T) (k+1)) (lvl (exx D x m T) k) (zeros (x.zA.length-(k+1))++u)=zeros (x.zA.length-(k+1))++wQ m.Prime D u (m.zR.getD k []):=by
 have hp:=hE.m.p.pos;have ok:=h.okAt (k:=k+1) (by omega);have hz:=xT ok;rw[yC]at hz;have e:sgG D x m T k (zeros (x.zA.length-(k+1)))=zeros (x.zA.length-(k+1))++zeros D:=by grind[sgG,uD,zFK]
 rw[zCO h hE hT hk hz hu,e,Jz (yD _),Kd (yD _),vW (vU)]
theorem zHV{k:Nat}(hk:k<x.zA.length):∀(q:Nat){u:Vec},Row m.Prime D u->
  iter q (sig (suf (exx D x m T) (k+1)) (lvl (exx D x m T) k)) (zeros (x.zA.length-(k+1))++u)=zeros (x.zA.length-(k+1))++iter q (fun u=>wQ m.Prime D u (m.zR.getD k [])) u
 |0,u,_=>rfl
 |q+1,u,hu=>by have hp:=hE.m.p.pos;show iter q _ (sig _ _ _)=_;rw[zGK h hE hT hk hu,zHV hk q (vU)];rfl
end
theorem zFL{p:Int}{D:Nat}{A:Mx}(hA:Mat p D A)(hp:2<=p){r:List Int}(hr:Row p D r):∀q,iter q (fun u=>wQ p D u A) r=wQ p D r (pw (PM p D) (idM D) A q)
 |0=>(sL hr).symm
 |q+1=>by
  have hm:Mat p D (pw (PM p D) (idM D) A q):=tA (S:=Mat p D) (fun _ hB=>zHJ (by omega) hB.1) q (tX hp);unfold pw at*
  rw[wG,wG,zFL hA hp hr q];exact zEK hm.1
theorem zTJ{p:Int}(hp:0<p:=by omega){r:List Int}:iter p.toNat (fun w=>adv p D w r) (zeros D)=zeros D:=by
 rw[zHU hp _ _ (xI hp)];rw[show zeros D=mkv D fun _=>0 from sK D];refine yH fun j hj=>?_
 rw[zY hj,Ga (by omega),L5,Int.mul_emod_right]
theorem zAL{p:Int}:wQ p D (zeros D) A=zeros D:=by
 rw[show zeros D=mkv D fun _=>0 from sK D];refine yH fun j hj=>?_
 rw[xL (g:=fun _=>0) fun l hl=>by rw[zY hl,U3],uU,Jaz]
theorem zQQ{p:Int}(hq:q<D)(hA:Mat p D A):wQ p D (wL D q) A=A.getD q []:=by
 have hr:=hA.2 q hq
 conv=>rhs;rw[vT hr.1]
 refine yH fun j hj=>?_
 rw[zAJ,zAq (k:=q) hq (fun i hi gf=>by rw[zY hi,if_neg gf,U3]),zY hq,if_pos rfl,Uy,vN (hr.2 j hj)]
theorem tR{p:Int}(hp:2<=p:=by omega):Row p D (wL D q):=by rw[zAJ];exact⟨yI _ _,by grind[zY]⟩
theorem zMo(hq:q<D:=by omega):wL (N+D) (N+q)=zeros N++wL D q:=by
 rw[zBW,zBW hq,<-Jg]
 grind[zeros,Jx]
def aM(m:zS)(D k:Nat)(v:Vec):Mx:=img (PM m.Prime D) (m.zR.drop k) v (idM D)
theorem zTK{p:Int}(hp:2<=p):Mon (Mat p D) (PM p D) (idM D):=
 ⟨fun ha _=>zHJ (by omega) ha.1,tX,fun ha hb _=>zMc ha.1 hb.1,fun ha=>zE6 ha,fun ha=>zCI ha⟩
section
variable {D:Nat}{x:SPr}{m:zS}{T:Mx} (h:Pres x) (hE:ExB x.zA.length D x m T) (hT:∀i,i<T.length->Row m.Prime D (T.getD i []))
 include h hE hT
theorem zTL(hk:k<x.zA.length):(eC1 x T k).map (·.take (x.zA.length-(k+1)))=(lvl x k).cs:=by
 have _:=hE;have _:=hT;have gF:=sQ h.w hk;apply Kx;intro j
 by_cases g:j<x.zA.length-(k+1)
 ·obtain⟨c,_,_,c3,c4⟩:=zGD h hk g
  have hl:=uG h (by omega) c3;have e1:((eC1 x T k).map (·.take (x.zA.length-(k+1))))[j]? =Wu (((lvl x k).cs.getD j []++T.getD (base x.zA.length k+j) []).take (x.zA.length-(k+1))):=by simp[eC1,gl,show j<x.zA.length-1-k by omega]
  grind
 ·rw[Kj (by simp[eC1,gl];omega),Kj (by omega)]
theorem zMp(hk:k<x.zA.length):m.zR.drop k=m.zR.getD k []::m.zR.drop (k+1):=by
 have _:=h;have _:=hT;have hl:=hE.m.len
 grind[Ku]
theorem zWN(hk:k<x.zA.length){b:Int}:aM m D k (b::y)=PM m.Prime D (pw (PM m.Prime D) (idM D) (m.zR.getD k []) b.toNat) (aM m D (k+1) y):=by
 have M:=zTK hE.m.p.pos.1 (D:=D);unfold aM;rw[zMp h hE hT hk];refine tD M (hE.m.mat k hk) fun c hc=>?_
 obtain⟨i,hi,rfl⟩:=Hy.1 (List.mem_of_mem_drop hc);have:=hE.m.mat i (by rw[<-hE.m.len];exact hi)
 grind
theorem pwM(hk:k<x.zA.length):Mat m.Prime D (pw (PM m.Prime D) (idM D) (m.zR.getD k []) q):=by have _:=h;have _:=hT;have _:=hk;have hp:=hE.m.p.pos;exact tA (S:=Mat m.Prime D) (fun _ hB=>zHJ (by omega) hB.1) q (tX)
theorem zPC:∀(d k:Nat),k+d=x.zA.length-> ∀r y v,Row m.Prime D r->V (suf x k) y->Row m.Prime D v->mul (suf (exx D x m T) k) (zeros d++r) (y++v)=y++adv m.Prime D (wQ m.Prime D r (aM m D k y)) v
 |0,k,hk,r,y,v,hr,hy,hv=>by
  have hp:=hE.m.p.pos;rw[vQ (x:=x) (k:=k)]at hy;obtain rfl:y=[]:=hy;rw[zBg h hE hT D k (by omega) (by omega)];have e:aM m D k []=idM D:=by unfold aM;cases m.zR.drop k<;>rfl
  rw[e,sL hr];exact jN (by omega) D r v hr hv
 |d+1,k,hk,r,y,v,hr,hy,hv=>by
  have hl:=xQ h hE hT;have hp:=hE.m.p.pos;have hA:=hE.m.mat k (by omega);rw[yB (x:=x)]at hy;cases y with
  |nil=>exact hy.elim
  |cons b y=>
   obtain⟨⟨b0,b1⟩,hy⟩:=hy;change b<at0 x.zA k at b1;rw[yB (x:=exx D x m T)];show mul _ (0::(zeros d++r)) (b::(y++v))=_;have e:=zHV h hE hT (k:=k) (by omega) b.toNat hr;rw[show x.zA.length-(k+1)=d from by omega]at e;rw[yN,zEI h hE hT (by omega),if_neg (by omega),e,zFL hA (by omega) hr,zPC d (k+1) (by omega) _ y v (vU) hy hv,L5,zWN h hE hT (by omega),<-zEK (pwM h hE hT (by omega)).1];rfl
theorem zMq(hk:k<x.zA.length)(ih:∀a b,V (suf (exx D x m T) (k+1)) a->V (suf (exx D x m T) (k+1)) b->(mul (suf (exx D x m T) (k+1)) a b).take (x.zA.length-(k+1))=mul (suf x (k+1)) (a.take (x.zA.length-(k+1))) (b.take (x.zA.length-(k+1)))){v:Vec}(hv:V (suf (exx D x m T) (k+1)) v):
  (sig (suf (exx D x m T) (k+1)) (lvl (exx D x m T) k) v).take (x.zA.length-(k+1))=sig (suf x (k+1)) (lvl x k) (v.take (x.zA.length-(k+1))):=by
 have ok:=uX h hE hT (k:=k+1) (by omega);obtain⟨y,u,rfl,hy,hu⟩:=(sX h hE hT (x.zA.length-(k+1)) (k+1) (by omega) _).1 hv;have eQ:=uG h (by omega) hy;obtain⟨y1,u1,e,eF,pe⟩:=(sX h hE hT (x.zA.length-(k+1)) (k+1) (by omega) _).1 (zJ9 h hE hT hk (y:=y));have gR:=uG h (by omega) eF;rw[zCO h hE hT hk hy hu,Jz (by grind),Jz eQ];unfold sgG sig;rw[zEJ (S:=V (suf (exx D x m T) (k+1))) (n:=mul (suf x (k+1))) (·.take (x.zA.length-(k+1))) (fun a b=>yT ok) ih _ _ _ (zTI h hE hT hk) (xT ok),zTL h hE hT hk,zFK h hE hT (by omega),Jz (yD _),yC]
theorem zK8:∀(d k:Nat),k+d=x.zA.length-> ∀a b,V (suf (exx D x m T) k) a->V (suf (exx D x m T) k) b->(mul (suf (exx D x m T) k) a b).take d=mul (suf x k) (a.take d) (b.take d)
 |0,k,hk,a,b,_,_=>by rw[vQ (x:=x),L9];rfl
 |d+1,k,hk,a,b,ha,hb=>by
  have hl:=xQ h hE hT;have ih:=zK8 d (k+1) (by omega);have hd:d=x.zA.length-(k+1):=by omega
  have ok:=uX h hE hT (k:=k+1) (by omega);have ok0:=uX h hE hT (k:=k) (by omega);rw[hd]at ih;have hs:=fun v hv=>zMq h hE hT (k:=k) (by omega) ih (v:=v) hv
  rw[yB (x:=exx D x m T)]at ha hb ok0 ⊢
  rw[yB (x:=x)];cases a with
  |nil=>rfl
  |cons a u=>
  cases b with
  |nil=>rfl
  |cons b v=>
   have eV:∀q u,V (suf (exx D x m T) (k+1)) u->(iter q (sig (suf (exx D x m T) (k+1)) (lvl (exx D x m T) k)) u).take d=iter q (sig (suf x (k+1)) (lvl x k)) (u.take d)/\V (suf (exx D x m T) (k+1)) (iter q (sig (suf (exx D x m T) (k+1)) (lvl (exx D x m T) k)) u):=by
    intro q
    induction q with
    |zero=>intro u hu;exact⟨rfl,hu⟩
    |succ q ihq=>
     intro u hu;have:=ihq _ (zAh ok0 hu);rw[hd,hs u hu]at this;rw[hd];exact this
   obtain⟨tq,eD⟩:=eV b.toNat u ha.2;have hm:=yT ok eD hb.2;rw[yN,La,La,yN,zEI h hE hT (by omega),show(lvl x k).o=at0 x.zA k from rfl];have e1:=ih _ _ eD hb.2;rw[<-hd,tq]at e1;split
   ·rw[La]
    have e2:=ih _ _ ok0.2.1 hm;rw[<-hd,e1]at e2;rw[e2]
    congr 2
    have ht:=(h.tl k (by omega)).1;have hw:=zAp ht;have iL:(lvl x k).w.length=x.zA.length-(k+1):=uG h (by omega) hw;rw[zHT h hE hT (by omega),Jz (by omega)]
   grind
end
theorem zQR{p:Int}{d:Nat}(hp:2<=p):∀c∈wI d,Row p d c:=fun c hc=>by obtain⟨k,_,rfl⟩:=Jq.1 hc;exact tR hp
theorem zWO{p:Int}(hp:2<=p){d:Nat}{w:Vec}(hw:Row p d w):sig (tlv p d) ⟨p,zeros d,wI d⟩ w=w:=by
 unfold sig;rw[zGI,zDo (S:=Row p d) (m':=adv p d) (by grind[jN]) (fun _ _ _ _=>sS) (wI d) w _ (zQR hp) (xI),zGJ (by omega) (wI d) w _ (by rw[hw.1];simp[wI]) (fun i hi=>(hw.2 i (by rw[<-hw.1];exact hi)).1) (xI)]
 conv=>rhs;rw[vT hw.1]
 refine yH fun j hj=>?_
 have px:(wI d).length=d:=by simp[wI]
 rw[px,uN,L5,zAq (k:=j) hj (fun k hk gf=>by rw[zDp hk hj,if_neg (Ne.symm gf),L6]),zDp hj hj,if_pos rfl,Kz,vN (hw.2 j hj)]
structure LCn (x e:SPr) (k:Nat):Prop where
 c1:∀j,k+1<=j->j<x.zA.length->pw (mul (suf e (k+1))) (zeros (suf e (k+1)).length) ((lvl e k).cs.getD (j-(k+1)) []) (at0 e.zA j).toNat=sig (suf e (k+1)) (lvl e k) ((e.zQ.getD j []).drop (k+1))
 c2:∀i,k+1<=i->i<x.zA.length-> ∀j,i+1<=j->j<x.zA.length->
  mul (suf e (k+1)) ((lvl e k).cs.getD (j-(k+1)) []) ((lvl e k).cs.getD (i-(k+1)) [])=mul (suf e (k+1)) ((lvl e k).cs.getD (i-(k+1)) []) (sig (suf e (k+1)) (lvl e k) (((e.zG.getD i []).getD (j-(i+1)) []).drop (k+1)))
 c3:sig (suf e (k+1)) (lvl e k) (lvl e k).w=(lvl e k).w
 c4:∀j,k+1<=j->j<x.zA.length->mul (suf e (k+1)) (lvl e k).w (iter (lvl e k).o.toNat (sig (suf e (k+1)) (lvl e k)) (wL (e.zA.length-(k+1)) (j-(k+1))))=mul (suf e (k+1)) (wL (e.zA.length-(k+1)) (j-(k+1))) (lvl e k).w
section
variable {D:Nat}{x:SPr}{m:zS}{T:Mx} (h:Pres x) (hE:ExB x.zA.length D x m T) (hT:∀i,i<T.length->Row m.Prime D (T.getD i []))
 include h hE hT
theorem zTM(hk:k<x.zA.length)(hj:x.zA.length<=j)(h2:j<x.zA.length+D):(lvl (exx D x m T) k).cs.getD (j-(k+1)) []=zeros (x.zA.length-(k+1))++(m.zR.getD k []).getD (j-x.zA.length) []:=by
 rw[zCN h hE hT hk,J2,Ja (by grind[jO]),jO h hE hT,eC2]
 grind
theorem zHW(hk:k<x.zA.length)(hj:k+1<=j)(h2:j<x.zA.length):(lvl (exx D x m T) k).cs.getD (j-(k+1)) []=(lvl x k).cs.getD (j-(k+1)) []++T.getD (base x.zA.length k+(j-(k+1))) []:=by
 rw[zCN h hE hT hk,J2,K1 (by grind[jO]),eC1]
 grind
theorem zGr(hi:i<j)(hj:j<x.zA.length):Row m.Prime D (T.getD (base x.zA.length i+(j-(i+1))) []):=by have _:=h;have hn:=hE.hn;have hb:=zBf x.zA.length (by omega) i (by omega);exact hT _ (by rw[hE.t];omega)
theorem zFM(hi:i<x.zA.length):Row m.Prime D (T.getD i []):=by have _:=h;have hn:=hE.hn;have hb:=vF x.zA.length (by omega);exact hT _ (by rw[hE.t];omega)
theorem zNS(hj:k<=j)(h2:j<x.zA.length):((exx D x m T).zQ.getD j []).drop (k+1)=(x.zQ.getD j []).drop (k+1)++T.getD j []:=by have t1:=(h.tl j h2).1.1.1;have _:=hE;have _:=hT;have hP:(exx D x m T).zQ.getD j []=exP x.zA.length D x T j:=yY;rw[hP,exP,if_pos h2,Kq (by omega)]
theorem yAb(hk:k<x.zA.length)(hj:x.zA.length<=j)(h2:j<x.zA.length+D):((exx D x m T).zQ.getD j []).drop (k+1)=zeros (x.zA.length-(k+1))++zeros D:=by
 have _:=h;have _:=hE;have _:=hT;have hP:(exx D x m T).zQ.getD j []=exP x.zA.length D x T j:=yY;rw[hP,exP,if_neg (by omega),Ln]
 grind[zeros,Jx]
theorem zK9(hi:i<x.zA.length+D):(exx D x m T).zG.getD i []=exC x.zA.length D x m T i:=by
 have _:=h;have _:=hE;have _:=hT;show(gl (x.zA.length+D) (exC x.zA.length D x m T)).getD i []=_
 grind
theorem zTN(hk:k<=i)(hi:i<j)(hj:j<x.zA.length):(((exx D x m T).zG.getD i []).getD (j-(i+1)) []).drop (k+1)=((x.zG.getD i []).getD (j-(i+1)) []).drop (k+1)++T.getD (base x.zA.length i+(j-(i+1))) []:=by obtain⟨_,t2,t3⟩:=h.tl i (by omega);have t:=(t3 (j-(i+1)) (by omega)).1.1;rw[zK9 h hE hT (by omega),exC,if_pos (by omega),yY,exF,if_pos (by omega),Kq (by omega)]
theorem yAc(hk:k<x.zA.length)(hi:i<x.zA.length)(hj:x.zA.length<=j)(h2:j<x.zA.length+D):(((exx D x m T).zG.getD i []).getD (j-(i+1)) []).drop (k+1)=zeros (x.zA.length-(k+1))++(m.zR.getD i []).getD (j-x.zA.length) []:=by rw[zK9 h hE hT (by omega),exC,if_pos (by omega),yY,exF,if_neg (by omega),Kq (by simp;omega),Ln,show j-(i+1)-(x.zA.length-1-i)=j-x.zA.length from by omega];rfl
theorem yAd(hk:k<x.zA.length)(hi:x.zA.length<=i)(hj:i<j)(h2:j<x.zA.length+D):(((exx D x m T).zG.getD i []).getD (j-(i+1)) []).drop (k+1)=zeros (x.zA.length-(k+1))++wL D (j-x.zA.length):=by
 rw[zK9 h hE hT (by omega),exC,if_neg (by omega),unC,yY,xE,zHS,<-zMo,zAJ]
 grind
theorem zWP(hr:zII x m D)(hk:k<x.zA.length):pw (PM m.Prime D) (idM D) (m.zR.getD k []) (at0 x.zA k).toNat=aM m D (k+1) (lvl x k).w/\
  ∀i,k<i->i<x.zA.length->PM m.Prime D (m.zR.getD i []) (m.zR.getD k [])=PM m.Prime D (m.zR.getD k []) (aM m D (k+1) ((lvl x k).cs.getD (i-(k+1)) [])):=by
 have R:=zP9 h hE.m hr (x.zA.length-k) k (by omega);rw[yB hk,zMp h hE hT hk]at R;obtain⟨r1,r2,_⟩:=R;refine⟨r1,fun i h1 h2=>?_⟩;have gF:=sQ h.w hk;have hl:=hE.m.len;refine r2 (i-(k+1)) _ _ ?_ ?_
 all_goals grind
theorem zv(hk:k<=x.zA.length):V (suf x k) (zeros (x.zA.length-k)):=by
 have _:=hE;have _:=hT;have:=xT (h.okAt hk)
 grind[yC]
theorem zNT(hr:zII x m D)(hk:k<x.zA.length)(hc:LCn x (exx D x m T) k):LC (exx D x m T) k:=by
 have hp:=hE.m.p.pos;have hl:=xQ h hE hT;have hA:=hE.m.mat k hk;obtain⟨r1,r2⟩:=zWP h hE hT hr hk;have hz:=zv h hE hT (k:=k+1) (by omega);have hD0:Row m.Prime D (zeros D):=xI;have hw:=(yCu h hk).2;refine⟨fun j h1 h2=>?_,fun i h1 h2 j h3 h4=>?_,hc.c3,fun j h1 h2=>?_⟩
 ·rw[hl]at h2
  rcases Jk j x.zA.length with g|g
  ·exact hc.c1 j h1 g
  ·have hq:=hA.2 (j-x.zA.length) (by omega)
   rw[zTM h hE hT hk g h2,yAb h hE hT hk g h2,zGK h hE hT hk hD0,zAL,zCd h hE hT g h2,zFK h hE hT (by omega)];have e:=zNR h hE hT (d:=x.zA.length-(k+1)) (k:=k+1) (by omega) [(m.zR.getD k []).getD (j-x.zA.length) []] [m.Prime] _ _ (by grind) hz hD0;have e2:iter m.Prime.toNat (fun w=>adv m.Prime D w ((m.zR.getD k []).getD (j-x.zA.length) [])) (zeros D)=zeros D:=zTJ;unfold pw;refine e.trans ?_;show zeros _++iter m.Prime.toNat (fun w=>adv m.Prime D w ((m.zR.getD k []).getD (j-x.zA.length) [])) (zeros D)=_;rw[e2]
 ·rw[hl]at h4
  rcases Jk j x.zA.length with g|g
  ·exact hc.c2 i h1 (by omega) j h3 g
  ·have hq:=hA.2 (j-x.zA.length) (by omega)
   rw[zTM h hE hT hk g h4];rcases Jk i x.zA.length with gi|gi
   ·have hAi:=hE.m.mat i gi
    have io:=hAi.2 (j-x.zA.length) (by omega);have fO:=(zMb h hk h1 gi).2.2;have ht:=zGr h hE hT (i:=k) (j:=i) (by omega) gi;rw[zHW h hE hT hk h1 gi,yAc h hE hT hk gi g h4,zGK h hE hT hk io,zPC h hE hT _ (k+1) (by omega) _ _ _ hq fO ht,zEL h hE hT _ (k+1) (by omega) _ _ _ fO ht (vU),tG]
    congr 2
    rw[<-zBY (by rw[hA.1];omega),<-zBY (by rw[hAi.1];omega),r2 i (by omega) gi]
   ·have io:=hA.2 (i-x.zA.length) (by omega)
    rw[zTM h hE hT hk gi (by omega),yAd h hE hT hk gi (by omega) h4,zGK h hE hT hk (tR),zQQ (by omega) hA,zEL h hE hT _ (k+1) (by omega) _ _ _ hz hq io,zEL h hE hT _ (k+1) (by omega) _ _ _ hz io hq,tG]
 ·rw[hl]at h2 ⊢
  rcases Jk j x.zA.length with g|g
  ·have:=hc.c4 j h1 g
   grind
  ·have ht:=zFM h hE hT hk
   have hu:Row m.Prime D (wL D (j-x.zA.length)):=tR;rw[show x.zA.length+D-(k+1)=x.zA.length-(k+1)+D from by omega,show j-(k+1)=x.zA.length-(k+1)+(j-x.zA.length)from by omega,zMo,zEI h hE hT hk,zHV h hE hT hk _ hu,zHT h hE hT hk,zFL hA (by omega) hu,r1,zPC h hE hT _ (k+1) (by omega) _ _ _ hu hw ht,zEL h hE hT _ (k+1) (by omega) _ _ _ hw ht (vU),tG]
theorem yAe(hk:x.zA.length<=k)(h2:k<x.zA.length+D):LC (exx D x m T) k:=by
 have hp:=hE.m.p.pos;have hl:=xQ h hE hT;have hs:=zBg h hE hT (x.zA.length+D-(k+1)) (k+1) (by omega) (by omega);have hL:=zBg h hE hT (x.zA.length+D-(k+1)+1) k (by omega) (by omega);rw[yB,hs,tlv]at hL;have mc:lvl (exx D x m T) k=⟨m.Prime,zeros (x.zA.length+D-(k+1)),wI (x.zA.length+D-(k+1))⟩:=(Ul.inj hL).1
 generalize hd:x.zA.length+D-(k+1)=d at*
 have fa:∀w,Row m.Prime d w->sig (tlv m.Prime d) ⟨m.Prime,zeros d,wI d⟩ w=w:=by grind[zWO]
 have ar:Row m.Prime d (zeros d):=xI;have jg:∀j,(wI d).getD j []=if j<d then wL d j else[]:=fun j=>by
  by_cases g:j<d
  ·rw[if_pos g,zHE g]
  ·rw[if_neg g,J2,Kj (by grind[wI])];rfl
 refine⟨fun j h1 h3=>?_,fun i h1 h3 j h4 h5=>?_,?_,fun j h1 h3=>?_⟩
 ·rw[hl]at h3
  have hP:(exx D x m T).zQ.getD j []=exP x.zA.length D x T j:=yY;rw[hs,mc,zCd h hE hT (by omega) h3,hP,exP,if_neg (by omega),Ln,hd];show pw (mul (tlv m.Prime d)) (zeros (tlv m.Prime d).length) ((wI d).getD (j-(k+1)) []) m.Prime.toNat=sig (tlv m.Prime d) ⟨m.Prime,zeros d,wI d⟩ (zeros d);rw[fa _ ar,jg,if_pos (by omega),zGI];have e:=zDo (S:=Row m.Prime d) (m':=adv m.Prime d) (fun a b ha hb=>jN (by omega) d a b ha hb) (fun _ _ _ _=>sS) [wL d (j-(k+1))] [m.Prime] (zeros d) (by grind[tR]) ar;exact e.trans (zTJ)
 ·rw[hl]at h3 h5
  rw[hs,mc,zK9 h hE hT h3,exC,if_neg (by omega),unC,yY,xE,zHS,hd];have e:(mkv d fun q=>if k+1+q=i+1+(j-(i+1))then(1:Int)else 0)=wL d (j-(k+1)):=by
   rw[zAJ]
   grind
  rw[e,fa _ (tR)];show mul (tlv m.Prime d) ((wI d).getD (j-(k+1)) []) ((wI d).getD (i-(k+1)) [])=mul (tlv m.Prime d) ((wI d).getD (i-(k+1)) []) (wL d (j-(k+1)));rw[jg,jg,if_pos (by omega),if_pos (by omega),jN (by omega) d _ _ (tR) (tR),jN (by omega) d _ _ (tR) (tR),tG]
 ·grind
 ·rw[hl]at h3 ⊢
  have hu:Row m.Prime d (wL d (j-(k+1))):=tR;rw[hs,mc,hd,zEE (fa _ hu),jN (by omega) d _ _ ar hu,jN (by omega) d _ _ hu ar,tG]
theorem zEM:∀(d k:Nat),x.zA.length<=k->k+d=x.zA.length+D->xS (suf (exx D x m T) k)
 |0,k,hk,hd=>by rw[vQ (by grind[xQ])];simp only[xS]
 |d+1,k,hk,hd=>(zCH (kW h hE hT) (by rw[xQ h hE hT];omega)).2 ⟨zEM d (k+1) (by omega) (by omega),by grind[yAe]⟩
theorem zPD(hr:zII x m D):xS (suf (exx D x m T) 0)↔ ∀k,k<x.zA.length->LCn x (exx D x m T) k:=by
 have hl:=xQ h hE hT;have key:∀(d k:Nat),k+d=x.zA.length->(xS (suf (exx D x m T) k)↔ ∀i,k<=i->i<x.zA.length->LCn x (exx D x m T) i):=by
  intro d
  induction d with
  |zero=>grind[zEM]
  |succ d ih=>
   intro k hk;rw[zCH (kW h hE hT) (by omega),ih (k+1) (by omega)];constructor
   ·rintro⟨g1,g2⟩ i h1 h2
    rcases Jk k i with g|g
    ·grind
    ·obtain rfl:i=k:=by omega
     exact⟨fun j a b=>g2.c1 j a (by omega),fun i a b j c d=>g2.c2 i a (by omega) j c (by omega),g2.c3,fun j a b=>g2.c4 j a (by omega)⟩
   grind[zNT]
 simp_all
end
structure GR (p:Int) (D:Nat) (Z:Vec->Prop) (L:Mx) (N:Nat) (C:Prop):Prop where
 len:L.length<=N
 row:∀r∈L,Row p D r
 iff:(∀r∈L,Z r)↔C
theorem GR.nil{p:Int}:GR p D Z [] N True:=⟨by simp,by simp,by simp⟩
theorem GR.app{p:Int}{L L':Mx}{C':Prop}(h:GR p D Z L N C)(h':GR p D Z L' M C'):GR p D Z (L++L') (N+M) (C/\C'):=by
 refine⟨by have:=h.len;have:=h'.len;grind,fun r hr=>?_,?_⟩
 ·rcases Ji.1 hr with g|g
  ·exact h.row r g
  ·exact h'.row r g
 ·rw[<-h.iff,<-h'.iff]
  grind
theorem GR.one{p:Int}{r:List Int}(hr:Row p D r)(h:Z r↔C):GR p D Z [r] 1 C:=
 ⟨by simp,by grind,by grind⟩
theorem GR.to{p:Int}{L:Mx}{C':Prop}(h:GR p D Z L N C)(hN:N<=M)(hc:C↔C'):GR p D Z L M C':=⟨by have:=h.len;omega,h.row,h.iff.trans hc⟩
def c1E(e:SPr)(k j:Nat):Prop:=pw (mul (suf e (k+1))) (zeros (suf e (k+1)).length) ((lvl e k).cs.getD (j-(k+1)) []) (at0 e.zA j).toNat=sig (suf e (k+1)) (lvl e k) ((e.zQ.getD j []).drop (k+1))
def c2E(e:SPr)(k i j:Nat):Prop:=mul (suf e (k+1)) ((lvl e k).cs.getD (j-(k+1)) []) ((lvl e k).cs.getD (i-(k+1)) [])=mul (suf e (k+1)) ((lvl e k).cs.getD (i-(k+1)) []) (sig (suf e (k+1)) (lvl e k) (((e.zG.getD i []).getD (j-(i+1)) []).drop (k+1)))
def c4E(e:SPr)(k j:Nat):Prop:=mul (suf e (k+1)) (lvl e k).w (iter (lvl e k).o.toNat (sig (suf e (k+1)) (lvl e k)) (wL (e.zA.length-(k+1)) (j-(k+1))))=mul (suf e (k+1)) (wL (e.zA.length-(k+1)) (j-(k+1))) (lvl e k).w
section
variable {D:Nat}{x:SPr}{m0 m:zS}{T:Mx} (h:Pres x) (hE:ExB x.zA.length D x m T) (hT:∀i,i<T.length->Row m.Prime D (T.getD i []))
 include h hE hT
theorem zFN(hk:k<=x.zA.length){a b:Vec}(ha:V (suf (exx D x m T) k) a)(hb:V (suf (exx D x m T) k) b):(mul (suf (exx D x m T) k) a b).take (x.zA.length-k)=mul (suf x k) (a.take (x.zA.length-k)) (b.take (x.zA.length-k)):=by grind[zK8]
theorem zKA(hk:k<x.zA.length){v:Vec}(hv:V (suf (exx D x m T) (k+1)) v):(sig (suf (exx D x m T) (k+1)) (lvl (exx D x m T) k) v).take (x.zA.length-(k+1))=sig (suf x (k+1)) (lvl x k) (v.take (x.zA.length-(k+1))):=
 by grind[zMq,zK8]
theorem yAf(hk:k<x.zA.length){v:Vec}(hv:V (suf (exx D x m T) (k+1)) v):V (suf (exx D x m T) (k+1)) (sig (suf (exx D x m T) (k+1)) (lvl (exx D x m T) k) v):=by
 have gD:=uX h hE hT (k:=k) (by omega);rw[yB (x:=exx D x m T) (by grind[xQ])]at gD
 grind[zAh]
theorem zPE{k:Nat}(hk:k<x.zA.length):∀(q:Nat){v:Vec},V (suf (exx D x m T) (k+1)) v->(iter q (sig (suf (exx D x m T) (k+1)) (lvl (exx D x m T) k)) v).take (x.zA.length-(k+1))=iter q (sig (suf x (k+1)) (lvl x k)) (v.take (x.zA.length-(k+1)))
 |0,_,_=>rfl
 |q+1,v,hv=>by have:=zPE hk q (yAf h hE hT hk hv);rw[zKA h hE hT hk hv]at this;exact this
theorem zWQ(hk:k<=x.zA.length):(zeros (suf (exx D x m T) k).length).take (x.zA.length-k)=zeros (suf x k).length:=by grind[zFK,yD,yC]
theorem yC3(hk:k<=x.zA.length)(hc:V (suf (exx D x m T) k) c)(q:Nat):(pw (mul (suf (exx D x m T) k)) (zeros (suf (exx D x m T) k).length) c q).take (x.zA.length-k)=pw (mul (suf x k)) (zeros (suf x k).length) (c.take (x.zA.length-k)) q:=by have ok:=uX h hE hT (k:=k) (by omega);have:=zEJ (S:=V (suf (exx D x m T) k)) (n:=mul (suf x k)) (·.take (x.zA.length-k)) (fun a b=>yT ok) (by grind[zFN]) [c] [(q:Int)] (zeros (suf (exx D x m T) k).length) (by grind) (xT ok);simp only[Jr,Jai,img,J7]at this;rw[zWQ h hE hT hk]at this;exact this
section
variable {k:Nat} (hk:k<x.zA.length)
 include hk
theorem zTO(h1:k+1<=j)(h2:j<x.zA.length):((lvl (exx D x m T) k).cs.getD (j-(k+1)) []).take (x.zA.length-(k+1))=(lvl x k).cs.getD (j-(k+1)) []:=by rw[zHW h hE hT hk h1 h2,Jz (uG h (by omega) (zMb h hk h1 h2).2.2)]
theorem zTP(h1:k<=j)(h2:j<x.zA.length):(((exx D x m T).zQ.getD j []).drop (k+1)).take (x.zA.length-(k+1))=(x.zQ.getD j []).drop (k+1):=by
 have t1:=(h.tl j h2).1.1.1
 grind[zNS]
theorem yAg(h1:k+1<=i)(h2:i<j)(h3:j<x.zA.length):((((exx D x m T).zG.getD i []).getD (j-(i+1)) []).drop (k+1)).take (x.zA.length-(k+1))=((x.zG.getD i []).getD (j-(i+1)) []).drop (k+1):=by rw[zTN h hE hT (by omega) h2 h3,Jz (uG h (by omega) (yCt h hk h1 h2 h3).2.2)]
theorem yAh(h1:k+1<=j)(h2:j<x.zA.length):wL ((exx D x m T).zA.length-(k+1)) (j-(k+1))=wL (x.zA.length-(k+1)) (j-(k+1))++zeros D:=by
 rw[xQ h hE hT,zBW,zBW,Jg,K0]
 grind[zeros,Jx]
end
variable {Z:Vec->Prop}{Q:Nat->Vec->Vec->Prop} (hZ:∀k,k<=x.zA.length-> ∀a b,V (suf (exx D x m T) k) a->V (suf (exx D x m T) k) b->a.take (x.zA.length-k)=b.take (x.zA.length-k)->(Z (tN m.Prime D (a.drop (x.zA.length-k)) (-1) (b.drop (x.zA.length-k)))↔Q k a b))
 include hZ
end
abbrev zDZ:=Nat×List Nat×List Nat
variable {r:zDZ}
section
variable (x:SPr)
abbrev yL(a:Nat):Nat:=(at0 x.zA a).toNat
abbrev lcj(i j:Nat):List Int:=(x.zG.getD i []).getD (j-(i+1)) []
def swp:List Nat->Option zDZ
 |a::b::s=>if b<a then Wu (base x.zA.length b+(a-(b+1)),s,b::(nw 0 (lcj x b a)++s))else Wv
 |_=>Wv
def pws:List Nat->Option zDZ
 |a::w=>if(a::w).take (yL x a)=J0 (yL x a) a then Wu (a,(a::w).drop (yL x a),nw 0 (x.zQ.getD a [])++(a::w).drop (yL x a))else Wv
 | []=>Wv
def hdS(w:List Nat):Option zDZ:=match swp x w with
 |some r=>Wu r
 |none=>pws x w
def stS:List Nat->Option zDZ
 | []=>Wv
 |a::w=>match hdS x (a::w)with
  |some r=>Wu r
  |none=>(stS w).map fun r=>(r.1,r.2.1,a::r.2.2)
end
section
variable {x:SPr}
theorem zWR{w s:List Nat}(h:swp x w=Wu r):swp x (w++s)=Wu (r.1,r.2.1++s,r.2.2++s):=by
 match w,h with
 | [],h=>cases h
 | [_],h=>cases h
 |a::b::w,h=>
  simp only[swp]at h
  by_cases g:b<a
  ·rw[if_pos g]at h
   cases h;simp only[K0,swp,if_pos g,Jg]
  grind
theorem zBC{w:List Nat}{o:Nat}(h:w.take o=J0 o a):o<=w.length:=by
 have:=congrArg Uq h
 grind
theorem zWS{w s:List Nat}(h:pws x w=Wu r):pws x (w++s)=Wu (r.1,r.2.1++s,r.2.2++s):=by
 match w,h with
 | [],h=>cases h
 |a::w,h=>
  simp only[pws]at h
  by_cases g:(a::w).take (yL x a)=J0 (yL x a) a
  ·rw[if_pos g]at h
   cases h;have hl:=zBC g;have e1:(a::(w++s)).take (yL x a)=(a::w).take (yL x a):=by grind
   have e2:(a::(w++s)).drop (yL x a)=(a::w).drop (yL x a)++s:=by grind
   simp only[K0,pws]
   grind
  grind
theorem zEN{b:Nat}{s s2:List Nat}(h:swp x (a::b::s)=Wv):swp x (a::b::s2)=Wv:=by
 simp only[swp]at h ⊢
 grind
theorem zPF{w:List Nat}(h:hdS x w=Wv):swp x w=Wv/\pws x w=Wv:=by
 unfold hdS at h
 grind
theorem zTQ{w:List Nat}(h1:swp x w=Wv)(h2:pws x w=Wv):hdS x w=Wv:=by grind[hdS]
theorem yAi{w s:List Nat}(hw:∀a∈w,2<=yL x a)(h:hdS x w=Wu r):hdS x (w++s)=Wu (r.1,r.2.1++s,r.2.2++s):=by
 unfold hdS at h ⊢
 cases e:swp x w with
 |some q=>
  grind[zWR]
 |none=>
  rw[e]at h;have e2:swp x (w++s)=Wv:=by
   match w,h with
   | [],h=>cases h
   | [a],h=>
    have h2:=hw a (by simp);simp only[pws]at h
    by_cases g:[a].take (yL x a)=J0 (yL x a) a
    ·have h4:=zBC g;grind
    grind
   |a::b::w,h=>exact zEN e
  grind[zWS]
theorem zEa{k a:Nat}(hk:k<yL x a):∀j,j<=k-> ∀{w:List Nat},(∀b,w.head? =Wu b->a<b)->stS x (J0 j a++w)=(stS x w).map fun r=>(r.1,r.2.1,J0 j a++r.2.2)
 |0,_,w,_=>by simp
 |j+1,hj,w,hw=>by
  have ih:=zEa hk j (by omega) hw;rw[Jw,K0];have h1:swp x (a::(J0 j a++w))=Wv:=by
   cases j with
   |succ j=>simp only[Jw,K0,swp,if_neg (Jax a)]
   |zero=>
    simp only[Kt,Js];cases w with
    |nil=>rfl
    |cons b w=>
     have:=hw b rfl;simp only[swp,if_neg (show¬b<a by omega)]
  have h2:pws x (a::(J0 j a++w))=Wv:=by
   simp only[pws];refine if_neg fun g=>?_
   have hl:=zBC g;have:=congrArg (fun l=>l[j+1]?) g;rw[Ua (by omega),<-K0,<-Jw,Ja (by simp),Jc,Kr,Ut (by omega)]at this
   grind[List.head?_eq_getElem?]
  simp only[stS];rw[zTQ h1 h2,ih];cases stS x w with
  |none=>rfl
  |some r=>rfl
theorem yAj(hk:k<yL x a):stS x (J0 k a)=Wv:=by
 have:=zEa hk k (J9 _) (w:=[]) (by simp)
 grind[stS]
theorem zKB:∀{u s:List Nat},(∀a∈u,2<=yL x a)-> ∀{r:zDZ},stS x u=Wu r->stS x (u++s)=Wu (r.1,r.2.1++s,r.2.2++s)
 | [],_,_,_,h=>by cases h
 |a::w,s,hu,r,h=>by
  simp only[stS]at h;rw[K0];simp only[stS];cases e:hdS x (a::w)with
  |some q=>
   grind[yAi]
  |none=>
   rw[e]at h;cases e2:stS x w with
   |none=>grind
   |some q=>
    rw[e2]at h;cases h;obtain⟨n1,n2⟩:=zPF e;have m1:swp x (a::(w++s))=Wv:=by
     cases w with
     |nil=>cases e2
     |cons b w=>exact zEN n1
    have m2:pws x (a::(w++s))=Wv:=by
     simp only[pws]at n2 ⊢
     refine if_neg fun g=>?_
     by_cases hl:yL x a<=(a::w).length
     ·grind
     ·have:a::w=J0 (a::w).length a:=by
       have g':=congrArg (Jaf (a::w).length) g
       grind
      grind[yAj]
    rw[zTQ m1 m2,zKB (s:=s) (by grind) e2];rfl
theorem zGs{u s:List Nat}(hu:∀a∈u,2<=yL x a)(h:stS x (u++s)=Wv):stS x u=Wv:=by
 cases e:stS x u with
 |none=>rfl
 |some r=>grind[zKB]
theorem zTR:∀{u:List Nat}{l i:Nat}{z:List Nat},(∀a∈u,i<a)->i<l->stS x (u++[l])=Wv->stS x (u++l::i::z)=Wu (base x.zA.length i+(l-(i+1)),z,u++i::(nw 0 (lcj x i l)++z))
 | [],l,i,z,_,hl,_=>by simp only[Js,stS,hdS,swp,if_pos hl]
 |a::u,l,i,z,hu,hl,hn=>by
  rw[K0]at hn ⊢
  simp only[stS]at hn ⊢
  cases e:hdS x (a::(u++[l]))with
  |some q=>grind
  |none=>
   rw[e]at hn;have mC:stS x (u++[l])=Wv:=by simp_all
   obtain⟨n1,n2⟩:=zPF e;have m1:swp x (a::(u++l::i::z))=Wv:=by
    cases u with
    |nil=>exact zEN n1
    |cons b u=>exact zEN n1
   have m2:pws x (a::(u++l::i::z))=Wv:=by
    simp only[pws]at n2 ⊢
    refine if_neg fun g=>?_
    have ea:a::(u++l::i::z)=(a::(u++[l]))++i::z:=by simp
    by_cases ho:yL x a<=(a::(u++[l])).length
    ·grind
    ·have g':=congrArg (fun w=>w[(a::(u++[l])).length]?) g
     rw[Ua (by omega),ea,Ja (J9 _),Kr,Ut (by omega)]at g';have:i=a:=by grind
     simp_all
   rw[zTQ m1 m2,zTR (by grind) hl mC];rfl
theorem zYF(ha:2<=yL x a)(w:List Nat):stS x (J0 (yL x a) a++w)=Wu (a,w,nw 0 (x.zQ.getD a [])++w):=by
 obtain⟨k,hk⟩:∃k,yL x a=k+2:=⟨yL x a-2,by omega⟩;have e:J0 (yL x a) a++w=a::a::(J0 k a++w):=by grind
 have h1:swp x (J0 (yL x a) a++w)=Wv:=by rw[e];simp only[swp,if_neg (Jax a)]
 have h2:pws x (J0 (yL x a) a++w)=Wu (a,w,nw 0 (x.zQ.getD a [])++w):=by
  have et:(J0 (yL x a) a++w).take (yL x a)=J0 (yL x a) a:=by simp
  have ed:(J0 (yL x a) a++w).drop (yL x a)=w:=by simp
  rw[e]at et ed ⊢
  simp only[pws]
  grind
 have h3:hdS x (J0 (yL x a) a++w)=Wu (a,w,nw 0 (x.zQ.getD a [])++w):=by grind[hdS]
 grind[stS]
end
theorem zDq{p:Int}{u w:List Int}:adv p D (adv p D u v) w=adv p D u (adv p D v w):=by
 refine yH fun j hj=>?_
 grind[zY,Int.add_emod_emod]
theorem zEO{p:Int}{u:List Int}:wQ p D (adv p D u v) A=adv p D (wQ p D u A) (wQ p D v A):=by
 refine yH fun j hj=>?_
 rw[wQ,wQ,zY hj,zY hj,<-Kb,<-zCp];refine zAe fun l hl=>?_
 rw[zY hl,<-Int.add_mul,Jv,K2,<-Jv]
theorem zMr{α:Type}(m:α->α->α)(z:α):∀(cs:List α)(j n:Nat)(acc:α),j<cs.length->j<n->img m cs (wL n j) acc=m acc (cs.getD j z)
 | [],_,_,_,h,_=>by simp at h
 |c::cs,0,n+1,acc,_,_=>by grind[zDh,img,iter,uD]
 |c::cs,j+1,n+1,acc,h,h2=>by rw[zF7];show img m cs (wL n j) (iter (0:Int).toNat (fun v=>m v c) acc)=_;rw[show iter (0:Int).toNat (fun v=>m v c) acc=acc from rfl,zMr m z cs j n acc (by grind) (by omega),List.getD_cons_succ]
 |_::_,0,0,_,_,h=>by omega
 |_::_,_+1,0,_,_,h=>by omega
theorem zFO(n d:Nat):zeros (n+d)=zeros n++zeros d:=by grind[zeros,Jx]
theorem zTS{d:Nat}(hj:j<n:=by omega):wL (n+d) j=wL n j++zeros d:=by grind[wL,zFO,yD]
def fo(e:SPr)(k:Nat)(u:Vec)(w:List Nat):Vec:=w.foldl (fun u a=>mul (suf e k) u (wL (e.zA.length-k) (a-k))) u
theorem zCP{e:SPr}{v w:List Nat}:fo e k u (v++w)=fo e k (fo e k u v) w:=by simp[fo,Q7]
theorem sA{e:SPr}{w:List Nat}:fo e k u (a::w)=fo e k (mul (suf e k) u (wL (e.zA.length-k) (a-k))) w:=rfl
theorem yAk{e:SPr}(ha:k<a)(hn:a<e.zA.length){b:Int}(hb:b<at0 e.zA k):mul (suf e k) (b::y) (wL (e.zA.length-k) (a-k))=b::mul (suf e (k+1)) y (wL (e.zA.length-(k+1)) (a-(k+1))):=by obtain⟨t,ht⟩:∃t,a-k=t+1:=⟨a-(k+1),by omega⟩;obtain⟨s,hs⟩:∃s,e.zA.length-k=s+1:=⟨e.zA.length-(k+1),by omega⟩;rw[yB (x:=e),ht,hs,zF7,yN,if_neg (by show¬(b+0>=at0 e.zA k);omega),show a-(k+1)=t from by omega,show e.zA.length-(k+1)=s from by omega,Kf];rfl
theorem yAl{e:SPr}(hn:k<e.zA.length){b:Int}:mul (suf e k) (b::y) (wL (e.zA.length-k) (k-k))=if b+1>=at0 e.zA k then(b+1-at0 e.zA k)::mul (suf e (k+1)) (lvl e k).w (mul (suf e (k+1)) (sig (suf e (k+1)) (lvl e k) y) (zeros (e.zA.length-(k+1))))else(b+1)::mul (suf e (k+1)) (sig (suf e (k+1)) (lvl e k) y) (zeros (e.zA.length-(k+1))):=by obtain⟨s,hs⟩:∃s,e.zA.length-k=s+1:=⟨e.zA.length-(k+1),by omega⟩;rw[yB (x:=e) hn,hs,Kr,zDh,yN,show e.zA.length-(k+1)=s from by omega];rfl
section
variable {D:Nat}{x:SPr}{m:zS}{T:Mx} (h:Pres x) (hE:ExB x.zA.length D x m T) (hT:∀i,i<T.length->Row m.Prime D (T.getD i []))
 include h hE hT
theorem yAm(hk:k<=x.zA.length)(he:V (suf (exx D x m T) k) e):mul (suf (exx D x m T) k) e (zeros ((exx D x m T).zA.length-k))=e:=by have hp:=hE.m.p.pos;obtain⟨y,u,rfl,hy,hu⟩:=(sX h hE hT (x.zA.length-k) k (by omega) _).1 he;have:=zEL h hE hT (x.zA.length-k) k (by omega) y u (zeros D) hy hu (xI);rw[zAK hu]at this;rw[xQ h hE hT,show x.zA.length+D-k=(x.zA.length-k)+D from by omega,zFO];exact this
def adK(p:Int)(D N:Nat)(e d:Vec):Vec:=e.take N++adv p D (e.drop N) d
theorem zKC(hk:k<=x.zA.length)(he:V (suf (exx D x m T) k) e)(hd:Row m.Prime D d):adK m.Prime D (x.zA.length-k) e d=mul (suf (exx D x m T) k) e (zeros (x.zA.length-k)++d):=by
 obtain⟨y,u,rfl,hy,hu⟩:=(sX h hE hT (x.zA.length-k) k (by omega) _).1 he
 grind[uG,zEL,adK]
theorem yAn(hk:k<=x.zA.length)(he:V (suf (exx D x m T) k) e):V (suf (exx D x m T) k) (adK m.Prime D (x.zA.length-k) e d):=by have hp:=hE.m.p.pos;obtain⟨y,u,rfl,hy,hu⟩:=(sX h hE hT (x.zA.length-k) k (by omega) _).1 he;have eQ:=uG h (by omega) hy;rw[adK,Jz eQ,Kd eQ];exact(sX h hE hT (x.zA.length-k) k (by omega) _).2 ⟨y,_,rfl,hy,sS⟩
theorem zYG(hk:k<=x.zA.length){d':Vec}(he:V (suf (exx D x m T) k) e):adK m.Prime D (x.zA.length-k) (adK m.Prime D (x.zA.length-k) e d) d'=adK m.Prime D (x.zA.length-k) e (adv m.Prime D d d'):=by obtain⟨y,u,rfl,hy,hu⟩:=(sX h hE hT (x.zA.length-k) k (by omega) _).1 he;have eQ:=uG h (by omega) hy;simp only[adK,Jz eQ,Kd eQ,zDq]
theorem zBh(hk:k<x.zA.length){b:Int}:adK m.Prime D (x.zA.length-k) (b::e) d=b::adK m.Prime D (x.zA.length-(k+1)) e d:=by have _:=h;have _:=hE;have _:=hT;rw[show x.zA.length-k=x.zA.length-(k+1)+1 from by omega];rfl
theorem zD(hk:k<=x.zA.length)(hd:Row m.Prime D d):V (suf (exx D x m T) k) (zeros (x.zA.length-k)++d):=
 (sX h hE hT (x.zA.length-k) k (by omega) _).2 ⟨_,d,rfl,zv h hE hT hk,hd⟩
theorem zYH(hk:k<=a)(ha:a<x.zA.length):V (suf x k) (wL (x.zA.length-k) (a-k)):=by
 have _:=hE;have _:=hT;have:=zCB (h.okAt (k:=k) (by omega)) (j:=a-k) (by grind[yC])
 grind[yC]
theorem zWT(hk:k<=a)(ha:a<x.zA.length):wL ((exx D x m T).zA.length-k) (a-k)=wL (x.zA.length-k) (a-k)++zeros D:=by rw[xQ h hE hT,show x.zA.length+D-k=x.zA.length-k+D from by omega,zTS]
theorem zEb(hk:k<=a)(ha:a<x.zA.length):V (suf (exx D x m T) k) (wL ((exx D x m T).zA.length-k) (a-k)):=by have hp:=hE.m.p.pos;rw[zWT h hE hT hk ha];exact(sX h hE hT (x.zA.length-k) k (by omega) _).2 ⟨_,_,rfl,zYH h hE hT hk ha,xI⟩
theorem zWU(hk:k<=a)(ha:a<x.zA.length):aM m D k (wL (x.zA.length-k) (a-k))=m.zR.getD a []:=by have _:=h;have _:=hT;have hA:=hE.m.mat a ha;have hl:=hE.m.len;unfold aM;rw[zMr (PM m.Prime D) [] _ _ _ _ (by grind) (by omega),J2,Kw,show k+(a-k)=a from by omega,<-J2,zE6 hA]
variable {k:Nat} (hk:k<x.zA.length) (hc:xS (suf (exx D x m T) (k+1)))
 include hk hc
theorem zYI(h1:k+1<=a)(ha:a<x.zA.length)(he:V (suf (exx D x m T) (k+1)) e)(hd:Row m.Prime D d):
  mul (suf (exx D x m T) (k+1)) (adK m.Prime D (x.zA.length-(k+1)) e d) (wL ((exx D x m T).zA.length-(k+1)) (a-(k+1)))=adK m.Prime D (x.zA.length-(k+1)) (mul (suf (exx D x m T) (k+1)) e (wL ((exx D x m T).zA.length-(k+1)) (a-(k+1)))) (wQ m.Prime D d (m.zR.getD a [])):=by
 have hp:=hE.m.p.pos;have gD:=uX h hE hT (k:=k+1) (by omega);have G:=(zAo _ gD hc).toMon;have hg:=zEb h hE hT h1 ha;have hgv:=zYH h hE hT h1 ha;have hz:=zD h hE hT (k:=k+1) (by omega) hd;have eT:=zD h hE hT (k:=k+1) (by omega) (vU (p:=m.Prime) (D:=D) (r:=d) (B:=m.zR.getD a []));rw[zKC h hE hT (by omega) he hd,G.assoc he hz hg,zWT h hE hT h1 ha,zPC h hE hT _ (k+1) (by omega) _ _ _ hd hgv (xI),zAK (vU),zWU h hE hT h1 ha,<-zWT h hE hT h1 ha,zKC h hE hT (by omega) (G.cl he hg) (vU),G.assoc he hg eT,zWT h hE hT h1 ha,zEL h hE hT _ (k+1) (by omega) _ _ _ hgv (xI) (vU),vW (vU)]
 omit hc in
theorem zHX(he:V (suf (exx D x m T) (k+1)) e)(_hd:Row m.Prime D d):
    sig (suf (exx D x m T) (k+1)) (lvl (exx D x m T) k) (adK m.Prime D (x.zA.length-(k+1)) e d)=adK m.Prime D (x.zA.length-(k+1)) (sig (suf (exx D x m T) (k+1)) (lvl (exx D x m T) k) e) (wQ m.Prime D d (m.zR.getD k [])):=by
  have hp:=hE.m.p.pos;obtain⟨y,u,rfl,hy,hu⟩:=(sX h hE hT (x.zA.length-(k+1)) (k+1) (by omega) _).1 he;have eQ:=uG h (by omega) hy;obtain⟨y1,u1,e,eF,pe⟩:=(sX h hE hT (x.zA.length-(k+1)) (k+1) (by omega) _).1 (zJ9 h hE hT hk (y:=y));have gR:=uG h (by omega) eF;have e0:adK m.Prime D (x.zA.length-(k+1)) (y++u) d=y++adv m.Prime D u d:=by grind[adK]
  rw[e0,zCO h hE hT hk hy (sS),zCO h hE hT hk hy hu,e,Jz gR,Kd gR,adK,Jz gR,Kd gR,zEO,zDq]
theorem zMs{z:Vec}(hz:V (suf (exx D x m T) (k+1)) z)(hd:Row m.Prime D d){w:Vec}(hw:V (suf (exx D x m T) (k+1)) w):
  mul (suf (exx D x m T) (k+1)) w (adK m.Prime D (x.zA.length-(k+1)) z d)=adK m.Prime D (x.zA.length-(k+1)) (mul (suf (exx D x m T) (k+1)) w z) d:=by
 have gD:=uX h hE hT (k:=k+1) (by omega);have G:=(zAo _ gD hc).toMon;rw[zKC h hE hT (by omega) hz hd,zKC h hE hT (by omega) (G.cl hw hz) hd,G.assoc hw hz (by grind[zD])]
 omit hc in
theorem zTT:V (suf (exx D x m T) (k+1)) (lvl (exx D x m T) k).w:=by
  have gD:=uX h hE hT (k:=k) (by omega);rw[yB (x:=exx D x m T) (by grind[xQ])]at gD;exact gD.2.1
 omit hc in
theorem zBq(he:V (suf (exx D x m T) (k+1)) e):V (suf (exx D x m T) (k+1)) (sig (suf (exx D x m T) (k+1)) (lvl (exx D x m T) k) e):=by
  have gD:=uX h hE hT (k:=k) (by omega);rw[yB (x:=exx D x m T) (by grind[xQ])]at gD
  grind[zAh]
theorem zGt{b:Int}(he:V (suf (exx D x m T) (k+1)) e):mul (suf (exx D x m T) k) (b::e) (wL ((exx D x m T).zA.length-k) (k-k))=if b+1>=at0 x.zA k then(b+1-at0 x.zA k)::mul (suf (exx D x m T) (k+1)) (lvl (exx D x m T) k).w (sig (suf (exx D x m T) (k+1)) (lvl (exx D x m T) k) e)else(b+1)::sig (suf (exx D x m T) (k+1)) (lvl (exx D x m T) k) e:=by have _:=hc;rw[yAl (by grind[xQ]),yAm h hE hT (by omega) (zBq h hE hT hk he),tZ h hE hT hk]
theorem zMt(h1:k<a)(ha:a<x.zA.length){b:Int}(hb:b<at0 x.zA k):mul (suf (exx D x m T) k) (b::e) (wL ((exx D x m T).zA.length-k) (a-k))=b::mul (suf (exx D x m T) (k+1)) e (wL ((exx D x m T).zA.length-(k+1)) (a-(k+1))):=by have _:=hc;grind[yAk,xQ,tZ]
theorem yDP(h1:k<=a)(ha:a<x.zA.length){b:Int}(hb:b<at0 x.zA k)(he:V (suf (exx D x m T) (k+1)) e)(hd:Row m.Prime D d):
  mul (suf (exx D x m T) k) (b::adK m.Prime D (x.zA.length-(k+1)) e d) (wL ((exx D x m T).zA.length-k) (a-k))=adK m.Prime D (x.zA.length-k) (mul (suf (exx D x m T) k) (b::e) (wL ((exx D x m T).zA.length-k) (a-k))) (wQ m.Prime D d (m.zR.getD a [])):=by
 have hp:=hE.m.p.pos;rcases Jk k a with g|g
 ·rw[zMt h hE hT hk hc g ha hb,zMt h hE hT hk hc g ha hb,zYI h hE hT hk hc g ha he hd,zBh h hE hT hk]
 ·obtain rfl:a=k:=by omega
  rw[zGt h hE hT hk hc (by grind[yAn]),zGt h hE hT hk hc he,zHX h hE hT hk he hd];split
  ·rw[zMs h hE hT hk hc (zBq h hE hT hk he) (vU) (zTT h hE hT hk),zBh h hE hT hk]
  grind[zBh]
theorem yC4(h1:k<=a)(ha:a<x.zA.length)(he:V (suf (exx D x m T) k) e):V (suf (exx D x m T) k) (mul (suf (exx D x m T) k) e (wL ((exx D x m T).zA.length-k) (a-k))):=by have _:=hc;grind[yT,uX,zEb]
theorem yDQ:∀{w:List Nat},(∀a∈w,k<=a/\a<x.zA.length)-> ∀{e:Vec},V (suf (exx D x m T) k) e->V (suf (exx D x m T) k) (fo (exx D x m T) k e w)
 | [],_,_,he=>he
 |a::w,hw,e,he=>by rw[sA];exact yDQ (by grind) (by grind[yC4])
theorem zPG:∀{w:List Nat},(∀a∈w,k<=a/\a<x.zA.length)-> ∀{e d:Vec},V (suf (exx D x m T) k) e->Row m.Prime D d->fo (exx D x m T) k (adK m.Prime D (x.zA.length-k) e d) w=adK m.Prime D (x.zA.length-k) (fo (exx D x m T) k e w) (wQ m.Prime D d (wM m.Prime D m.zR w (idM D)))
 | [],_,e,d,_,hd=>by show adK _ _ _ e d=adK _ _ _ e (wQ m.Prime D d (idM D));rw[sL hd]
 |a::w,hw,e,d,he,hd=>by
  have hp:=hE.m.p.pos;obtain⟨a1,a2⟩:=hw a (by simp);have hA:=hE.m.mat a a2;have VT:=he;rw[yB (x:=exx D x m T) (by grind[xQ])]at VT;cases e with
  |nil=>exact VT.elim
  |cons b e=>
   obtain⟨⟨b0,b1⟩,he1⟩:=VT;have b2:b<at0 x.zA k:=by rw[<-tZ h hE hT hk];exact b1
   rw[sA,sA,zBh h hE hT hk,yDP h hE hT hk hc a1 a2 b2 he1 hd,zPG (by grind) (by grind[yC4]) (vU),zEK hA.1]
   congr 2
   show PM _ _ _ (wM m.Prime D m.zR w (idM D))=wM m.Prime D m.zR w (PM m.Prime D (idM D) (m.zR.getD a []));rw[<-zKz (by omega) hA.1 w (tX),zCI hA,zE6 hA]
end
inductive Col (x:SPr) (k:Nat):List Nat->List (Nat×List Nat)->List Nat->Prop where
 |refl (w:List Nat):Col x k w [] w
 |step {w w1 w' s:List Nat}{r:Nat}{tr:List (Nat×List Nat)} (hw:∀a∈w,k<=a/\a<x.zA.length) (hs:stS x w=Wu (r,s,w1)) (h:Col x k w1 tr w'):Col x k w ((r,s)::tr) w'
theorem Col.trans{w:List Nat}(h:Col x k w t1 w1)(h2:Col x k w1 t2 w2):Col x k w (t1++t2) w2:=by
 induction h with
 |refl w=>exact h2
 |step hw hs _ ih=>exact .step hw hs (ih h2)
def tv(p:Int)(D:Nat)(m:zS)(T:Mx):List (Nat×List Nat)->Vec
 | []=>zeros D
 |(r,s)::t=>adv p D (wQ p D (T.getD r []) (wM p D m.zR s (idM D))) (tv p D m T t)
section
variable {p:Int}{D:Nat}{m:zS}{T:Mx} (hp:2<=p)
 include hp
theorem zKD:∀t,Row p D (tv p D m T t)
 | []=>xI
 |(_,_)::_=>sS
theorem zHY:∀t u,tv p D m T (t++u)=adv p D (tv p D m T t) (tv p D m T u)
 | [],u=>(vW (zKD hp u)).symm
 |(r,s)::t,u=>by show adv p D _ (tv p D m T (t++u))=adv p D (adv p D _ _) _;rw[zHY t u,zDq]
theorem yAo{A:List Mx}{u v:List Nat}:wM p D A (u++v) (idM D)=PM p D (wM p D A u (idM D)) (wM p D A v (idM D)):=by have hu:=zHL (D:=D) (A:=A) (show 0<p by omega) u (tX hp);rw[zFE,<-zKz (by omega) hu.1 v (tX hp),zCI hu]
theorem zEP{A:List Mx}{u v:List Nat}{r:Vec}:wQ p D r (wM p D A (u++v) (idM D))=wQ p D (wQ p D r (wM p D A u (idM D))) (wM p D A v (idM D)):=by have hu:=zHL (D:=D) (A:=A) (show 0<p by omega) u (tX hp);rw[yAo hp,zEK hu.1]
theorem zTU(z:List Nat):∀t,tv p D m T (t.map fun q=>(q.1,q.2++z))=wQ p D (tv p D m T t) (wM p D m.zR z (idM D))
 | []=>zAL.symm
 |(r,s)::t=>by show adv p D (wQ p D (T.getD r []) (wM p D m.zR (s++z) (idM D))) (tv p D m T (t.map fun q=>(q.1,q.2++z)))=wQ p D (adv p D _ (tv p D m T t)) _;rw[zTU z t,zEO,zEP hp]
end
section
variable {x:SPr} (h:Pres x)
 include h
theorem zMu(ha:a<x.zA.length):2<=yL x a:=by
 have:=(h.os.2 a ha).pos
 grind
theorem tL(hv:Exp x.zA v i)(hi:i<x.zA.length):nw 0 v=nw (i+1) (v.drop (i+1))/\ ∀a∈nw 0 v,i+1<=a/\a<x.zA.length:=by
 have _:=h;have e:=zA0 hv hi;have e1:nw 0 v=nw (i+1) (v.drop (i+1)):=by rw[e,zDk,zCM,yD,Js,Jd,Kd (by rw[yD])]
 refine⟨e1,fun a ha=>?_⟩;rw[e1]at ha;refine⟨?_,zT8 (n:=x.zA.length) (i+1) _ (by rw[K8,hv.1.1];omega) a ha⟩
 clear e e1 hv
 generalize v.drop (i+1)=y at ha
 generalize i+1=o at ha ⊢
 clear hi
 induction y generalizing o with
 |nil=>grind[nw]
 |cons b y ih=>
  grind[nw]
theorem uI(hi:i<j)(hj:j<x.zA.length):Exp x.zA (lcj x i j) i:=by have g:=(h.tl i (by omega)).2.1;exact(h.tl i (by omega)).2.2 (j-(i+1)) (by omega)
theorem jP(hi:i<x.zA.length):Exp x.zA (x.zQ.getD i []) i:=(h.tl i hi).1
theorem zTV:∀(o:Nat)(y:Vec),∀a∈nw o y,o<=a
 |_,[],a,ha=>by grind[nw]
 |o,b::y,a,ha=>by
  have _:=h;simp only[nw,Ji]at ha;rcases ha with ha|ha
  ·grind
  ·have:=zTV (o+1) y a ha;omega
theorem zPH(hk:k<=x.zA.length)(hy:V (suf x k) y):∀a∈nw k y,k<=a/\a<x.zA.length:=fun a ha=>
 ⟨zTV h k y a ha,zT8 (n:=x.zA.length) k y (by grind[uG]) a ha⟩
theorem zFP:∀(d k:Nat),k+d=x.zA.length-> ∀y,V (suf x k) y->stS x (nw k y)=Wv
 |0,k,hk,y,hy=>by rw[vQ (x:=x) (k:=k)]at hy;obtain rfl:y=[]:=hy;rfl
 |d+1,k,hk,y,hy=>by
  rw[yB (x:=x)]at hy;cases y with
  |nil=>rfl
  |cons b y=>
   obtain⟨⟨b0,b1⟩,hy⟩:=hy;change b<at0 x.zA k at b1;simp only[nw];have gI:b.toNat<yL x k:=by grind
   rw[zEa gI b.toNat (J9 _) fun a ha=>?_,zFP d (k+1) (by omega) y hy]
   ·rfl
   ·have:=zTV h (k+1) y a (by grind[Gp])
    omega
theorem Col.ctx(hi:i<x.zA.length)(ha:a<yL x i){s:List Nat}(hs:∀b∈s,i<=b/\b<x.zA.length){w:List Nat}{tr:List (Nat×List Nat)}(hc:Col x (i+1) w tr w'):
  Col x i (J0 a i++(w++s)) (tr.map fun q=>(q.1,q.2++s)) (J0 a i++(w'++s)):=by
 induction hc with
 |refl w=>exact .refl _
 | @step w w1 w' s1 r tr hw gE _ ih=>
  refine .step (fun b hb=>?_) ?_ ih
  ·grind
  ·rw[zEa ha a (J9 _) fun b hb=>?_,zKB (by grind[zMu]) gE]
   ·rfl
   ·cases w with
    |nil=>cases gE
    |cons c w=>
     simp only[K0,Uw,Lr.injEq]at hb;have:=hw c (by simp);omega
def cwd(x:SPr)(i:Nat):List Nat->List Nat
 | []=>[]
 |l::ur=>cwd x i ur++nw 0 (lcj x i l)
def mtr(x:SPr)(i:Nat):List Nat->List Nat->List (Nat×List Nat)
 | [],_=>[]
 |l::ur,z=>(base x.zA.length i+(l-(i+1)),z)::mtr x i ur (nw 0 (lcj x i l)++z)
theorem zKE{i:Nat}:∀{ur:List Nat},(∀b∈ur,i+1<=b/\b<x.zA.length)-> ∀b∈cwd x i ur,i+1<=b/\b<x.zA.length
 | [],_,b,hb=>by grind[cwd]
 |l::ur,hu,b,hb=>by
  simp only[cwd,Ji]at hb;obtain⟨l1,l2⟩:=hu l (by simp);rcases hb with hb|hb
  ·exact zKE (by grind) b hb
  ·exact(tL h (uI h (by omega) l2) (by omega)).2 b hb
theorem Col.move{i a:Nat}(hi:i<x.zA.length)(ha:a<yL x i):∀{ur:List Nat},(∀b∈ur,i+1<=b/\b<x.zA.length)->stS x ur.reverse=Wv-> ∀{z:List Nat},(∀b∈z,i<=b/\b<x.zA.length)->
  Col x i (J0 a i++(ur.reverse++i::z)) (mtr x i ur z) (J0 (a+1) i++(cwd x i ur++z))
 | [],_,_,z,_=>by
  have e:J0 a i++(([]:List Nat).reverse++i::z)=J0 (a+1) i++(cwd x i []++z):=by grind[Lf,cwd]
  rw[e];exact .refl _
 |l::ur,hu,hn,z,hz=>by
  obtain⟨l1,l2⟩:=hu l (by simp);have pd:∀b∈ur,i+1<=b/\b<x.zA.length:=by grind
  have cY:=tL h (uI h (show i<l by omega) l2) hi;rw[Ly]at hn ⊢
  have mC:=zGs (by grind[zMu]) hn;have eT:∀b∈nw 0 (lcj x i l)++z,i<=b/\b<x.zA.length:=by grind
  have ih:=Col.move hi ha pd mC eT;rw[show cwd x i (l::ur)++z=cwd x i ur++(nw 0 (lcj x i l)++z)from by simp[cwd]];have e1:ur.reverse++[l]++i::z=ur.reverse++l::i::z:=by simp
  rw[e1];refine .step (fun b hb=>?_) ?_ ih
  ·simp only[Ji,Je,Jag]at hb
   rcases hb with hb|hb|hb|hb|hb
   ·grind
   ·grind
   ·omega
   all_goals grind
  ·rw[zEa ha a (J9 _) fun b hb=>?_,zTR (by grind) (by omega) hn]
   ·rfl
   ·have:b∈ur.reverse++l::i::z:=by grind[Gp]
    cases e:ur.reverse with
    |nil=>grind
    |cons c t=>
     grind
end
theorem zHZ{α:Type}(m:α->α->α)(c:Nat->α)(z:α):∀(cs:List α)(v:Vec)(o:Nat)(acc:α),(∀j,j<cs.length->cs.getD j z=c (o+j))->v.length<=cs.length->img m cs v acc=(nw o v).foldl (fun acc j=>m acc (c j)) acc
 |cs,[],o,acc,_,_=>by cases cs<;>rfl
 | [],_::_,_,_,_,h=>by simp at h
 |a::cs,b::v,o,acc,hc,hl=>by
  have h0:=hc 0 (by simp);simp only[Ht,Jae]at h0;have e:∀(k:Nat)(u:α),(J0 k o).foldl (fun acc j=>m acc (c j)) u=iter k (fun v=>m v a) u:=by
   intro k
   induction k with
   |zero=>intro u;rfl
   |succ k ih=>intro u;rw[Jw,Gz,ih,h0];rfl
  show img m cs v (iter b.toNat (fun v=>m v a) acc)=_;simp only[nw,Q7];rw[e,zHZ m c z cs v (o+1) _ (fun j hj=>by have:=hc (j+1) (by grind);grind) (by grind)]
theorem map_drop{l:List (List Int)}:(l.map (·.drop n)).getD i []=(l.getD i []).drop n:=by grind
section
variable {D:Nat}{x:SPr}{m:zS}{T:Mx} (h:Pres x) (hE:ExB x.zA.length D x m T) (hT:∀i,i<T.length->Row m.Prime D (T.getD i []))
 include h hE hT
theorem zWV(hk:k<x.zA.length)(hc:xS (suf (exx D x m T) k)):xS (suf (exx D x m T) (k+1)):=by rw[yB (x:=exx D x m T) (by grind[xQ])]at hc;exact hc.1
theorem zNU(hk:k<=x.zA.length):V (suf (exx D x m T) k) (zeros ((exx D x m T).zA.length-k)):=by grind[xT,uX,yC]
theorem zIa(hk:k<=x.zA.length):zeros ((exx D x m T).zA.length-k)=zeros (x.zA.length-k)++zeros D:=by rw[xQ h hE hT,show x.zA.length+D-k=x.zA.length-k+D from by omega,zFO]
theorem zEQ(hk:k<=x.zA.length)(hy:V (suf x k) y)(hu:Row m.Prime D u):V (suf (exx D x m T) k) (y++u):=
 (sX h hE hT (x.zA.length-k) k (by omega) _).2 (by grind)
theorem kK(hk:k<=x.zA.length)(hy:V (suf x k) y):adK m.Prime D (x.zA.length-k) (y++u) d=y++adv m.Prime D u d:=by have _:=hE;have _:=hT;have eQ:=uG h hk hy;rw[adK,Jz eQ,Kd eQ]
theorem zIb:∀(d k:Nat),k+d=x.zA.length->xS (suf (exx D x m T) k)-> ∀y,V (suf x k) y->fo (exx D x m T) k (zeros ((exx D x m T).zA.length-k)) (nw k y)=y++zeros D
 |0,k,hk,_,y,hy=>by rw[vQ (x:=x) (k:=k)]at hy;obtain rfl:y=[]:=hy;rw[zIa h hE hT (by omega),show x.zA.length-k=0 from by omega];rfl
 |d+1,k,hk,hc,y,hy=>by
  have ct:=zWV h hE hT (by omega) hc;have ih:=zIb d (k+1) (by omega) ct;rw[yB (x:=x)]at hy;cases y with
  |nil=>exact hy.elim
  |cons b y=>
   obtain⟨⟨b0,b1⟩,hy⟩:=hy;change b<at0 x.zA k at b1;have ci:k<x.zA.length:=by omega
   have hz:=zNU h hE hT (k:=k+1) (by omega);simp only[nw];rw[zCP];have e1:∀c:Nat,(c:Int)<at0 x.zA k->fo (exx D x m T) k (zeros ((exx D x m T).zA.length-k)) (J0 c k)=(c:Int)::zeros ((exx D x m T).zA.length-(k+1)):=by
    intro c
    induction c with
    |zero=>
     intro _;have hl:=xQ h hE hT;rw[show(exx D x m T).zA.length-k=(exx D x m T).zA.length-(k+1)+1 from by omega];rfl
    |succ c ihc=>
     intro gF;rw[Lf,zCP,ihc (by omega)];show mul _ _ _=_;rw[zGt h hE hT ci ct hz,if_neg (by omega)];have:sig (suf (exx D x m T) (k+1)) (lvl (exx D x m T) k) (zeros ((exx D x m T).zA.length-(k+1)))=zeros ((exx D x m T).zA.length-(k+1)):=by grind[sig,uD,yC]
     grind
   have e2:∀(w:List Nat)(e:Vec),(∀a∈w,k+1<=a/\a<x.zA.length)->fo (exx D x m T) k (b::e) w=b::fo (exx D x m T) (k+1) e w:=by
    intro w
    induction w with
    |nil=>intro e _;rfl
    |cons a w ihw=>
     intro e hw;rw[sA,zMt h hE hT ci ct (hw a (by simp)).1 (hw a (by simp)).2 b1,ihw _ (by grind)];rfl
   have:=e1 b.toNat (by omega);rw[this,show((b.toNat:Nat):Int)=b from by omega,e2 _ _ fun a ha=>zPH h (by omega) hy a ha,ih y hy];rfl
variable {k:Nat} (hk:k<x.zA.length) (hc:xS (suf (exx D x m T) (k+1)))
 include hk hc
theorem zIc{b:Int}(hb:b<at0 x.zA k):∀(w:List Nat)(e:Vec),(∀a∈w,k+1<=a/\a<x.zA.length)->fo (exx D x m T) k (b::e) w=b::fo (exx D x m T) (k+1) e w
 | [],e,_=>rfl
 |a::w,e,hw=>by rw[sA,zMt h hE hT hk hc (hw a (by simp)).1 (hw a (by simp)).2 hb,zIc hb w _ (by grind)];rfl
 omit hc in
theorem zQS:∀{w:List Nat},(∀a∈w,k+1<=a/\a<x.zA.length)-> ∀{e:Vec},V (suf (exx D x m T) (k+1)) e->V (suf (exx D x m T) (k+1)) (fo (exx D x m T) (k+1) e w)
  | [],_,_,he=>he
  |a::w,hw,e,he=>by rw[sA];exact zQS (fun b hb=>hw b (by simp[hb])) (yT (uX h hE hT (by omega)) he (zEb h hE hT (hw a (by simp)).1 (hw a (by simp)).2))
theorem zTW:∀{w:List Nat},(∀a∈w,k+1<=a/\a<x.zA.length)-> ∀{e d:Vec},V (suf (exx D x m T) (k+1)) e->Row m.Prime D d->fo (exx D x m T) (k+1) (adK m.Prime D (x.zA.length-(k+1)) e d) w=adK m.Prime D (x.zA.length-(k+1)) (fo (exx D x m T) (k+1) e w) (wQ m.Prime D d (wM m.Prime D m.zR w (idM D)))
 | [],_,e,d,_,hd=>by show adK _ _ _ e d=adK _ _ _ e (wQ m.Prime D d (idM D));rw[sL hd]
 |a::w,hw,e,d,he,hd=>by
  have hp:=hE.m.p.pos;obtain⟨a1,a2⟩:=hw a (by simp);have hA:=hE.m.mat a a2;rw[sA,sA,zYI h hE hT hk hc a1 a2 he hd,zTW (by grind) (by grind[yT,uX,zEb]) (vU),zEK hA.1]
  congr 2
  show PM _ _ _ (wM m.Prime D m.zR w (idM D))=wM m.Prime D m.zR w (PM m.Prime D (idM D) (m.zR.getD a []));rw[<-zKz (by omega) hA.1 w (tX),zCI hA,zE6 hA]
theorem zTX:∀{w:List Nat},(∀a∈w,k+1<=a/\a<x.zA.length)-> ∀{e f:Vec},V (suf (exx D x m T) (k+1)) e->V (suf (exx D x m T) (k+1)) f->fo (exx D x m T) (k+1) (mul (suf (exx D x m T) (k+1)) e f) w=mul (suf (exx D x m T) (k+1)) e (fo (exx D x m T) (k+1) f w)
 | [],_,_,_,_,_=>rfl
 |a::w,hw,e,f,he,hf=>by have gD:=uX h hE hT (k:=k+1) (by omega);have G:=(zAo _ gD hc).toMon;have hg:=zEb h hE hT (hw a (by simp)).1 (hw a (by simp)).2;rw[sA,sA,G.assoc he hf hg,zTX (by grind) he (G.cl hf hg)]
theorem zId{w:List Nat}(hw:∀a∈w,k+1<=a/\a<x.zA.length)(he:V (suf (exx D x m T) (k+1)) e):fo (exx D x m T) (k+1) e w=mul (suf (exx D x m T) (k+1)) e (fo (exx D x m T) (k+1) (zeros ((exx D x m T).zA.length-(k+1))) w):=by rw[<-zTX h hE hT hk hc hw he (by grind[zNU]),yAm h hE hT (by omega) he]
def dm(p:Int)(D:Nat)(x:SPr)(m:zS)(T:Mx)(k:Nat):List Nat->Vec
 | []=>zeros D
 |l::ur=>adv p D (wQ p D (dm p D x m T k ur) (wM p D m.zR (nw 0 (lcj x k l)) (idM D))) (T.getD (base x.zA.length k+(l-(k+1))) [])
 omit h hE hT hk hc in
theorem zNV(hp:2<=m.Prime):∀ur,Row m.Prime D (dm m.Prime D x m T k ur)
  | []=>xI
  |_::_=>sS
 omit h hE hT hk hc in
theorem zNW(hp:2<=m.Prime):∀(ur:List Nat)(z:List Nat),tv m.Prime D m T (mtr x k ur z)=wQ m.Prime D (dm m.Prime D x m T k ur) (wM m.Prime D m.zR z (idM D))
  | [],z=>zAL.symm
  |l::ur,z=>by show adv m.Prime D _ (tv m.Prime D m T (mtr x k ur (nw 0 (lcj x k l)++z)))=wQ m.Prime D (adv m.Prime D _ _) _;rw[zNW hp ur,zEO,zEP hp,tG]
theorem zTY:∀{ur:List Nat},(∀b∈ur,k+1<=b/\b<x.zA.length)->ur.reverse.foldl (fun acc j=>mul (suf (exx D x m T) (k+1)) acc ((lvl (exx D x m T) k).cs.getD (j-(k+1)) [])) (zeros ((exx D x m T).zA.length-(k+1)))=
  adK m.Prime D (x.zA.length-(k+1)) (fo (exx D x m T) (k+1) (zeros ((exx D x m T).zA.length-(k+1))) (cwd x k ur)) (dm m.Prime D x m T k ur)
 | [],_=>by have hp:=hE.m.p.pos;show zeros _=adK _ _ _ (zeros _) (zeros D);rw[zIa h hE hT (by omega),kK h hE hT (by omega) (by grind[zv]),vW (xI)]
 |l::ur,hu=>by
  have hp:=hE.m.p.pos;obtain⟨l1,l2⟩:=hu l (by simp);have pd:∀b∈ur,k+1<=b/\b<x.zA.length:=by grind
  have gD:=uX h hE hT (k:=k+1) (by omega);have G:=(zAo _ gD hc).toMon;have hz:=zNU h hE hT (k:=k+1) (by omega);have eW:=zKE h pd;have hF:=zQS h hE hT hk eW hz;have cY:=tL h (uI h (show k<l by omega) l2) hk;have gF:V (suf x (k+1)) ((lcj x k l).drop (k+1)):=by grind[zAp,uI]
  have tf:(lvl x k).cs.getD (l-(k+1)) []=(lcj x k l).drop (k+1):=map_drop;have ht:=zGr h hE hT (show k<l by omega) l2;have hd:=zNV (D:=D) (x:=x) (m:=m) (T:=T) (k:=k) (by omega) ur;have VQ:=zIb h hE hT (x.zA.length-(k+1)) (k+1) (by omega) hc _ gF;have cG:=zEQ h hE hT (k:=k+1) (by omega) gF (xI (p:=m.Prime) (D:=D));rw[Ly,Q7,zTY pd];show mul _ (adK _ _ _ _ _) ((lvl (exx D x m T) k).cs.getD (l-(k+1)) [])=_;rw[zHW h hE hT hk l1 l2,tf];have e1:(lcj x k l).drop (k+1)++T.getD (base x.zA.length k+(l-(k+1))) []=adK m.Prime D (x.zA.length-(k+1)) ((lcj x k l).drop (k+1)++zeros D) (T.getD (base x.zA.length k+(l-(k+1))) []):=by grind[kK,vW]
  have gK:∀b∈nw (k+1) ((lcj x k l).drop (k+1)),k+1<=b/\b<x.zA.length:=by grind
  have fq:=yAn h hE hT (k:=k+1) (by omega) hF (d:=dm m.Prime D x m T k ur);rw[e1,zMs h hE hT hk hc cG ht fq,<-VQ,<-zId h hE hT hk hc gK fq,zTW h hE hT hk hc gK hF hd,zYG h hE hT (by omega) (zQS h hE hT hk gK hF),<-zCP,<-cY.1];rfl
theorem zPI(hy:V (suf x (k+1)) y):sig (suf (exx D x m T) (k+1)) (lvl (exx D x m T) k) (y++zeros D)=adK m.Prime D (x.zA.length-(k+1)) (fo (exx D x m T) (k+1) (zeros ((exx D x m T).zA.length-(k+1))) (cwd x k (nw (k+1) y).reverse)) (dm m.Prime D x m T k (nw (k+1) y).reverse):=by have hp:=hE.m.p.pos;have eQ:=uG h (by omega) hy;have gK:=zPH h (by omega) hy;rw[<-zTY h hE hT hk hc (by grind),K6,zCO h hE hT hk hy (xI),zAL];obtain⟨y1,u1,e,eF,pe⟩:=(sX h hE hT (x.zA.length-(k+1)) (k+1) (by omega) _).1 (zJ9 h hE hT hk (y:=y));have gR:=uG h (by omega) eF;rw[e,Jz gR,Kd gR,zAK pe,<-e];unfold sgG;rw[yC];refine zHZ _ (fun j=>(lvl (exx D x m T) k).cs.getD (j-(k+1)) []) [] _ _ _ _ (fun j hj=>?_) (by grind[jO]);rw[jO h hE hT]at hj;rw[show k+1+j-(k+1)=j from by omega,zCN h hE hT hk,J2,J2,K1 (by grind[jO])]
end
section
variable {x:SPr} (h:Pres x)
 include h
theorem zMv{T:Mx}(hE:ExB x.zA.length D x m T)(hT:∀i,i<T.length->Row m.Prime D (T.getD i []))(hk:k<=x.zA.length)(hc:xS (suf (exx D x m T) k)):xS (suf (exx D x m T) (k+1)):=by
 have hl:=xQ h hE hT
 by_cases g:k<x.zA.length+D
 ·rw[yB (x:=exx D x m T)]at hc
  exact hc.1
 ·rw[vQ]at hc ⊢
  exact hc
structure qD (x:SPr) (k:Nat) (z:List Nat) (tr:List (Nat×List Nat)) (y:Vec):Prop where
 col:Col x k z tr (nw k y)
 v:V (suf x k) y
 val:∀(D:Nat)(m:zS)(T:Mx),ExB x.zA.length D x m T->(∀i,i<T.length->Row m.Prime D (T.getD i []))->xS (suf (exx D x m T) (k+1))->fo (exx D x m T) k (zeros ((exx D x m T).zA.length-k)) z=y++tv m.Prime D m T tr
theorem zPJ{k:Nat}(hk:k<x.zA.length)(P:∀v:List Nat,(∀a∈v,k+1<=a/\a<x.zA.length)-> ∃tr y,qD x (k+1) v tr y):∀(z:List Nat),(∀a∈z,k<=a/\a<x.zA.length)-> ∀(a:Nat),a<yL x k-> ∀(v:List Nat),(∀a∈v,k+1<=a/\a<x.zA.length)->
  ∃tr y,Col x k (J0 a k++(v++z)) tr (nw k y)/\V (suf x k) y/\ ∀(D:Nat)(m:zS)(T:Mx),ExB x.zA.length D x m T->(∀i,i<T.length->Row m.Prime D (T.getD i []))->xS (suf (exx D x m T) (k+1))->
   fo (exx D x m T) k ((a:Int)::fo (exx D x m T) (k+1) (zeros ((exx D x m T).zA.length-(k+1))) v) z=y++tv m.Prime D m T tr
 | [],_,a,ha,v,hv=>by
  obtain⟨tr,y,c1,c2,c3⟩:=P v hv;have hc:=Col.ctx h hk ha (s:=[]) (by simp) c1;rw[show(fun q:Nat×List Nat=>(q.1,q.2++[]))=id from by grind,Jb7,Jh,Jh]at hc;refine⟨tr,(a:Int)::y,?_,?_,fun D m T hE hT hc=>?_⟩
  ·grind[nw]
  ·rw[yB hk]
   refine⟨⟨by omega,?_⟩,c2⟩;show(a:Int)<at0 x.zA k
   grind
  ·rw[c3 D m T hE hT (by grind[zMv])];rfl
 |l::z,hz,a,ha,v,hv=>by
  have eT:∀b∈z,k<=b/\b<x.zA.length:=by grind
  obtain⟨l1,l2⟩:=hz l (by simp);have aG:(a:Int)<at0 x.zA k:=by grind
  rcases Jk k l with g|g
  ·obtain⟨tr,y,c1,c2,c3⟩:=zPJ hk P z eT a ha (v++[l]) (by grind)
   refine⟨tr,y,by grind,c2,fun D m T hE hT hc=>?_⟩;rw[<-c3 D m T hE hT hc,sA,zMt h hE hT hk hc g l2 aG,zCP];rfl
  ·obtain rfl:l=k:=by omega
   obtain⟨tr1,y1,c1,c2,c3⟩:=P v hv;have gK:=zPH h (by omega) c2;have pS:∀b∈(nw (l+1) y1).reverse,l+1<=b/\b<x.zA.length:=by grind
   have k1:=Col.ctx h hk ha (s:=l::z) hz c1;have k2:=Col.move h hk ha pS (by rw[K6];exact zFP h _ _ (by omega:l+1+(x.zA.length-(l+1))=x.zA.length) y1 c2) eT;rw[K6]at k2;have eW:=zKE h pS;have val:∀(D:Nat)(m:zS)(T:Mx)(hE:ExB x.zA.length D x m T)(hT:∀i,i<T.length->Row m.Prime D (T.getD i []))(hc:xS (suf (exx D x m T) (l+1))),
     fo (exx D x m T) l ((a:Int)::fo (exx D x m T) (l+1) (zeros ((exx D x m T).zA.length-(l+1))) v) (l::z)=adK m.Prime D (x.zA.length-l) (fo (exx D x m T) l (mul (suf (exx D x m T) l) ((a:Int)::(y1++zeros D)) (wL ((exx D x m T).zA.length-l) (l-l))) z) (tv m.Prime D m T (tr1.map fun q=>(q.1,q.2++l::z))):=by
    intro D m T hE hT hc;have hp:=hE.m.p.pos;have ht:=zKD (D:=D) (m:=m) (T:=T) (p:=m.Prime) (by omega) tr1;have aP:=zEQ h hE hT (k:=l+1) (by omega) c2 (xI (p:=m.Prime) (D:=D));have uw:V (suf (exx D x m T) l) ((a:Int)::(y1++zeros D)):=by rw[yB (x:=exx D x m T) (by rw[xQ h hE hT];omega)];refine⟨⟨by omega,?_⟩,aP⟩;show(a:Int)<at0 (exx D x m T).zA l;rw[tZ h hE hT hk];exact aG
    rw[c3 D m T hE hT (zMv h hE hT (by omega) hc),show y1++tv m.Prime D m T tr1=adK m.Prime D (x.zA.length-(l+1)) (y1++zeros D) (tv m.Prime D m T tr1)from by rw[kK h hE hT (by omega) c2,vW ht],<-zBh h hE hT hk,zPG h hE hT hk hc hz uw ht,zTU (by omega)];rfl
   have foV:∀(D:Nat)(m:zS)(T:Mx)(hE:ExB x.zA.length D x m T)(hT:∀i,i<T.length->Row m.Prime D (T.getD i []))(_hc:xS (suf (exx D x m T) (l+1))),V (suf (exx D x m T) (l+1)) (fo (exx D x m T) (l+1) (zeros ((exx D x m T).zA.length-(l+1))) (cwd x l (nw (l+1) y1).reverse)):=fun D m T hE hT _hc=>zQS h hE hT hk eW (zNU h hE hT (by omega))
   rcases Jk (a+1) (yL x l)with g2|g2
   ·obtain⟨tr2,y2,d1,d2,d3⟩:=zPJ hk P z eT (a+1) g2 (cwd x l (nw (l+1) y1).reverse) eW
    refine⟨_,y2,k1.trans (k2.trans d1),d2,fun D m T hE hT hc=>?_⟩;have hp:=hE.m.p.pos;have aP:=zEQ h hE hT (k:=l+1) (by omega) c2 (xI (p:=m.Prime) (D:=D));have g3:(a:Int)+1<at0 x.zA l:=by have:a+1<(at0 x.zA l).toNat:=g2;omega
    have hF:=foV D m T hE hT hc;have uw:V (suf (exx D x m T) l) (((a:Int)+1)::fo (exx D x m T) (l+1) (zeros ((exx D x m T).zA.length-(l+1))) (cwd x l (nw (l+1) y1).reverse)):=by rw[yB (x:=exx D x m T) (by rw[xQ h hE hT];omega)];refine⟨⟨by omega,?_⟩,hF⟩;show(a:Int)+1<at0 (exx D x m T).zA l;rw[tZ h hE hT hk];exact g3
    have hd:=zNV (D:=D) (x:=x) (m:=m) (T:=T) (k:=l) (by omega) (nw (l+1) y1).reverse;have d3':=d3 D m T hE hT hc;rw[show(((a+1:Nat):Int))=(a:Int)+1 from by omega]at d3';rw[val D m T hE hT hc,zGt h hE hT hk hc aP,if_neg (by omega),zPI h hE hT hk hc c2,<-zBh h hE hT hk,zPG h hE hT hk hc eT uw hd,d3',kK h hE hT (by omega) d2,kK h hE hT (by omega) d2,<-zNW (by omega),zHY (by omega),zHY (by omega),tG,tG (u:=tv m.Prime D m T tr2)]
   ·have g4:a+1=yL x l:=by omega
    have ma:=jP h hk;have mb:=tL h ma hk;have ie:∀b∈nw 0 (x.zQ.getD l [])++cwd x l (nw (l+1) y1).reverse,l+1<=b/\b<x.zA.length:=fun b hb=>by
     simp only[Ji]at hb;rcases hb with hb|hb
     ·exact mb.2 b hb
     ·exact eW b hb
    obtain⟨tr2,y2,d1,d2,d3⟩:=zPJ hk P z eT 0 (by omega) _ ie;rw[Kt,Js,Jg]at d1;have k3:Col x l (J0 (a+1) l++(cwd x l (nw (l+1) y1).reverse++z)) ((l,cwd x l (nw (l+1) y1).reverse++z)::tr2) (nw l y2):=by
     refine .step (fun b hb=>?_) (by rw[g4];exact zYF (zMu h hk) _) d1;simp only[Ji]at hb;rcases hb with hb|hb|hb
     ·have:=Lj hb;omega
     ·have:=eW b hb;omega
     ·exact eT b hb
    refine⟨_,y2,k1.trans (k2.trans k3),d2,fun D m T hE hT hc=>?_⟩;have hp:=hE.m.p.pos;have aP:=zEQ h hE hT (k:=l+1) (by omega) c2 (xI (p:=m.Prime) (D:=D));have g3:(a:Int)+1=at0 x.zA l:=by have:a+1=(at0 x.zA l).toNat:=g4;omega
    have hF:=foV D m T hE hT hc;have hd:=zNV (D:=D) (x:=x) (m:=m) (T:=T) (k:=l) (by omega) (nw (l+1) y1).reverse;have ek:=zFM h hE hT hk;have cv:V (suf x (l+1)) ((x.zQ.getD l []).drop (l+1)):=zAp ma hk;have pY:=zEQ h hE hT (k:=l+1) (by omega) cv (xI (p:=m.Prime) (D:=D));have hw:(lvl (exx D x m T) l).w=adK m.Prime D (x.zA.length-(l+1)) ((x.zQ.getD l []).drop (l+1)++zeros D) (T.getD l []):=by rw[zHT h hE hT hk,kK h hE hT (by omega) cv,vW ek];rfl
    have po:=zTT h hE hT hk;have hFw:=zQS h hE hT hk ie (zNU h hE hT (by omega));have em:mul (suf (exx D x m T) (l+1)) (lvl (exx D x m T) l).w (fo (exx D x m T) (l+1) (zeros ((exx D x m T).zA.length-(l+1))) (cwd x l (nw (l+1) y1).reverse))=adK m.Prime D (x.zA.length-(l+1)) (fo (exx D x m T) (l+1) (zeros ((exx D x m T).zA.length-(l+1))) (nw 0 (x.zQ.getD l [])++cwd x l (nw (l+1) y1).reverse)) (wQ m.Prime D (T.getD l []) (wM m.Prime D m.zR (cwd x l (nw (l+1) y1).reverse) (idM D))):=by rw[<-zId h hE hT hk hc eW po,hw,zTW h hE hT hk hc eW pY ek,<-zIb h hE hT _ (l+1) (by omega:l+1+(x.zA.length-(l+1))=x.zA.length) hc _ cv,<-zCP,<-mb.1]
    have uw:V (suf (exx D x m T) l) ((0:Int)::fo (exx D x m T) (l+1) (zeros ((exx D x m T).zA.length-(l+1))) (nw 0 (x.zQ.getD l [])++cwd x l (nw (l+1) y1).reverse)):=by rw[yB (x:=exx D x m T) (by rw[xQ h hE hT];omega)];refine⟨⟨by omega,?_⟩,hFw⟩;show(0:Int)<at0 (exx D x m T).zA l;rw[tZ h hE hT hk];omega
    have d3':=d3 D m T hE hT hc;rw[show(((0:Nat):Int))=0 from rfl]at d3';rw[val D m T hE hT hc,zGt h hE hT hk hc aP,if_pos (by omega),zPI h hE hT hk hc c2,zMs h hE hT hk hc hF hd po,em,zYG h hE hT (by omega) hFw,g3,Int.sub_self,<-zBh h hE hT hk,zPG h hE hT hk hc eT uw (sS),d3',kK h hE hT (by omega) d2,kK h hE hT (by omega) d2,zEO,<-zNW (by omega),<-zEP (by omega),zHY (by omega),zHY (by omega)];show y2++adv m.Prime D (adv m.Prime D (tv m.Prime D m T tr2) (adv m.Prime D _ _)) _=y2++adv m.Prime D _ (adv m.Prime D _ (adv m.Prime D _ (tv m.Prime D m T tr2)));rw[tG,tG (u:=tv m.Prime D m T tr2),tG (u:=wQ m.Prime D (T.getD l []) _),zDq]
theorem zWW:∀(d k:Nat),k+d=x.zA.length-> ∀z:List Nat,(∀a∈z,k<=a/\a<x.zA.length)-> ∃tr y,qD x k z tr y
 |0,k,hk,z,hz=>by
  have:z=[]:=by
   cases z with
   |nil=>rfl
   |cons a z=>have:=hz a (by simp);omega
  subst this;refine⟨[],[],.refl _,by rw[vQ (x:=x) (k:=k)];rfl,fun D m T hE hT _=>?_⟩;show zeros _=[]++zeros D;rw[zIa h hE hT (by omega),show x.zA.length-k=0 from by omega];rfl
 |d+1,k,hk,z,hz=>by have ho:=zMu h (show k<x.zA.length by omega);obtain⟨tr,y,c1,c2,c3⟩:=zPJ h (by omega) (zWW d (k+1) (by omega)) z hz 0 (by omega) [] (by simp);refine⟨tr,y,by grind,c2,fun D m T hE hT hc=>?_⟩;rw[<-c3 D m T hE hT hc];have hl:=xQ h hE hT;rw[show(exx D x m T).zA.length-k=(exx D x m T).zA.length-(k+1)+1 from by omega];rfl
end
section
variable {D:Nat}{x:SPr}{m:zS}{T:Mx} (h:Pres x) (hE:ExB x.zA.length D x m T) (hT:∀i,i<T.length->Row m.Prime D (T.getD i []))
 include h hE hT
variable {k:Nat} (hk:k<x.zA.length) (hc:xS (suf (exx D x m T) (k+1)))
 include hk hc
theorem zGL(k1:qD x k w1 t1 y1)(k2:qD x k w2 t2 y2){r1 r2:Nat}{s1 s2:List Nat}{b:Int}{A1 A2:Vec}(hA1:V (suf (exx D x m T) (k+1)) A1)(hA2:V (suf (exx D x m T) (k+1)) A2)
  (v1:fo (exx D x m T) k (zeros ((exx D x m T).zA.length-k)) w1=b::A1)(v2:fo (exx D x m T) k (zeros ((exx D x m T).zA.length-k)) w2=b::A2)
  (ek:(adK m.Prime D (x.zA.length-(k+1)) A1 (wQ m.Prime D (T.getD r1 []) (wM m.Prime D m.zR s1 (idM D)))).take (x.zA.length-(k+1))=(adK m.Prime D (x.zA.length-(k+1)) A2 (wQ m.Prime D (T.getD r2 []) (wM m.Prime D m.zR s2 (idM D)))).take (x.zA.length-(k+1))):
  y1=y2/\(tv m.Prime D m T ((r1,s1)::t1)=tv m.Prime D m T ((r2,s2)::t2)↔adK m.Prime D (x.zA.length-(k+1)) A1 (wQ m.Prime D (T.getD r1 []) (wM m.Prime D m.zR s1 (idM D)))=adK m.Prime D (x.zA.length-(k+1)) A2 (wQ m.Prime D (T.getD r2 []) (wM m.Prime D m.zR s2 (idM D)))):=by
 have _:=hA1;have _:=hA2;have key:∀(w:List Nat)(t:List (Nat×List Nat))(y:Vec)(A:Vec)(r:Nat)(s:List Nat),qD x k w t y->fo (exx D x m T) k (zeros ((exx D x m T).zA.length-k)) w=b::A->
   b::adK m.Prime D (x.zA.length-(k+1)) A (wQ m.Prime D (T.getD r []) (wM m.Prime D m.zR s (idM D)))=y++tv m.Prime D m T ((r,s)::t):=by
  intro w t y A r s kc v;rw[<-zBh h hE hT hk,<-v,kc.val D m T hE hT hc,kK h hE hT (by omega) kc.v,tG];rfl
 have e1:=key w1 t1 y1 A1 r1 s1 k1 v1;have e2:=key w2 t2 y2 A2 r2 s2 k2 v2;have l1:=uG h (by omega) k1.v;have l2:=uG h (by omega) k2.v;have hy:y1=y2:=by
  have a1:=congrArg (Jaf (x.zA.length-(k+1)+1)) e1;have a2:=congrArg (Jaf (x.zA.length-(k+1)+1)) e2
  grind
 subst hy;refine⟨rfl,?_⟩;constructor
 all_goals grind[List.append_cancel_left]
theorem zEc{v:List Nat}(hv:∀a∈v,k+1<=a/\a<x.zA.length){z:List Nat}:fo (exx D x m T) k (zeros ((exx D x m T).zA.length-k)) (v++k::z)=fo (exx D x m T) k ((1:Int)::sig (suf (exx D x m T) (k+1)) (lvl (exx D x m T) k) (fo (exx D x m T) (k+1) (zeros ((exx D x m T).zA.length-(k+1))) v)) z:=by
 have ho:=(h.os.2 k hk).pos;have hl:=xQ h hE hT;have hF:=zQS h hE hT hk hv (zNU h hE hT (by omega));rw[show zeros ((exx D x m T).zA.length-k)=0::zeros ((exx D x m T).zA.length-(k+1))from by rw[show(exx D x m T).zA.length-k=(exx D x m T).zA.length-(k+1)+1 from by omega];rfl,zCP,zIc h hE hT hk hc (by omega) v _ hv,sA,zGt h hE hT hk hc hF,if_neg (by omega)];rfl
 omit hc in
theorem zER(hy:V (suf x (k+1)) y):sig (suf (exx D x m T) (k+1)) (lvl (exx D x m T) k) (y++zeros D)=(nw (k+1) y).foldl (fun acc j=>mul (suf (exx D x m T) (k+1)) acc ((lvl (exx D x m T) k).cs.getD (j-(k+1)) [])) (zeros ((exx D x m T).zA.length-(k+1))):=by
  have hp:=hE.m.p.pos;have eQ:=uG h (by omega) hy;rw[zCO h hE hT hk hy (xI),zAL];obtain⟨y1,u1,e,eF,pe⟩:=(sX h hE hT (x.zA.length-(k+1)) (k+1) (by omega) _).1 (zJ9 h hE hT hk (y:=y));have gR:=uG h (by omega) eF;rw[e,Jz gR,Kd gR,zAK pe,<-e];unfold sgG;rw[yC];refine zHZ _ (fun j=>(lvl (exx D x m T) k).cs.getD (j-(k+1)) []) [] _ _ _ _ (fun j hj=>?_) (by grind[jO])
  grind[zCN]
 omit hc in
theorem zTZ(h1:k+1<=j)(h2:j<x.zA.length):V (suf (exx D x m T) (k+1)) ((lvl (exx D x m T) k).cs.getD (j-(k+1)) []):=by
  have gF:V (suf x (k+1)) ((lcj x k j).drop (k+1)):=by grind[zAp,uI]
  rw[zHW h hE hT hk h1 h2,show(lvl x k).cs.getD (j-(k+1)) []=(lcj x k j).drop (k+1)from map_drop]
  grind[zEQ,zGr]
theorem zMw:∀{v:List Nat},(∀a∈v,k+1<=a/\a<x.zA.length)-> ∀{e f:Vec},V (suf (exx D x m T) (k+1)) e->V (suf (exx D x m T) (k+1)) f->v.foldl (fun acc j=>mul (suf (exx D x m T) (k+1)) acc ((lvl (exx D x m T) k).cs.getD (j-(k+1)) [])) (mul (suf (exx D x m T) (k+1)) e f)=mul (suf (exx D x m T) (k+1)) e (v.foldl (fun acc j=>mul (suf (exx D x m T) (k+1)) acc ((lvl (exx D x m T) k).cs.getD (j-(k+1)) [])) f)
 | [],_,_,_,_,_=>rfl
 |a::w,hw,e,f,he,hf=>by have gD:=uX h hE hT (k:=k+1) (by omega);have G:=(zAo _ gD hc).toMon;have hg:=zTZ h hE hT hk (hw a (by simp)).1 (hw a (by simp)).2;simp only[Gz];rw[G.assoc he hf hg,zMw (by grind) he (G.cl hf hg)]
theorem csE(h1:k+1<=j)(h2:j<x.zA.length):V (suf x (k+1)) ((lcj x k j).drop (k+1))/\(lvl (exx D x m T) k).cs.getD (j-(k+1)) []=adK m.Prime D (x.zA.length-(k+1)) ((lcj x k j).drop (k+1)++zeros D) (T.getD (base x.zA.length k+(j-(k+1))) [])/\
  fo (exx D x m T) (k+1) (zeros ((exx D x m T).zA.length-(k+1))) (nw 0 (lcj x k j))=(lcj x k j).drop (k+1)++zeros D/\(∀a∈nw 0 (lcj x k j),k+1<=a/\a<x.zA.length):=by
 have gF:V (suf x (k+1)) ((lcj x k j).drop (k+1)):=by grind[zAp,uI]
 have cY:=tL h (uI h (show k<j by omega) h2) hk;refine⟨gF,?_,?_,cY.2⟩
 ·rw[zHW h hE hT hk h1 h2,show(lvl x k).cs.getD (j-(k+1)) []=(lcj x k j).drop (k+1)from map_drop,kK h hE hT (by omega) gF,vW (zGr h hE hT (by omega) h2)]
 ·rw[cY.1];exact zIb h hE hT _ (k+1) (by omega:k+1+(x.zA.length-(k+1))=x.zA.length) hc _ gF
theorem wE:V (suf x (k+1)) ((x.zQ.getD k []).drop (k+1))/\(lvl (exx D x m T) k).w=adK m.Prime D (x.zA.length-(k+1)) ((x.zQ.getD k []).drop (k+1)++zeros D) (T.getD k [])/\
  fo (exx D x m T) (k+1) (zeros ((exx D x m T).zA.length-(k+1))) (nw 0 (x.zQ.getD k []))=(x.zQ.getD k []).drop (k+1)++zeros D/\(∀a∈nw 0 (x.zQ.getD k []),k+1<=a/\a<x.zA.length):=by
 have cv:V (suf x (k+1)) ((x.zQ.getD k []).drop (k+1)):=zAp (jP h hk) hk;have mb:=tL h (jP h hk) hk;refine⟨cv,?_,?_,mb.2⟩
 ·rw[zHT h hE hT hk,kK h hE hT (by omega) cv,vW (zFM h hE hT hk)];rfl
 ·rw[mb.1];exact zIb h hE hT _ (k+1) (by omega:k+1+(x.zA.length-(k+1))=x.zA.length) hc _ cv
 omit hc in
theorem zKF(ha:a<x.zA.length):wM m.Prime D m.zR [a] (idM D)=m.zR.getD a []:=by have _:=h;have _:=hT;have _:=hk;show PM m.Prime D (idM D) (m.zR.getD a [])=_;exact zE6 (hE.m.mat a ha)
theorem zYJ(hL:LC x k)(k1:qD x k (nw 0 (x.zQ.getD k [])++[k]) t1 y1)(k2:qD x k (k::nw 0 (x.zQ.getD k [])) t2 y2):
  y1=y2/\(tv m.Prime D m T ((k,[k])::t1)=tv m.Prime D m T ((k,[])::t2)↔sig (suf (exx D x m T) (k+1)) (lvl (exx D x m T) k) (lvl (exx D x m T) k).w=(lvl (exx D x m T) k).w):=by
 have hp:=hE.m.p.pos;have ho:=(h.os.2 k hk).pos;obtain⟨w1,w2,w3,w4⟩:=wE h hE hT hk hc;have ek:=zFM h hE hT hk;have pY:=zEQ h hE hT (k:=k+1) (by omega) w1 (xI (p:=m.Prime) (D:=D));have po:=zTT h hE hT hk;have v1:=zEc h hE hT hk hc w4 (z:=[]);rw[w3]at v1;have v2:=zEc h hE hT hk hc (v:=[]) (by simp) (z:=nw 0 (x.zQ.getD k []));have hz:fo (exx D x m T) (k+1) (zeros ((exx D x m T).zA.length-(k+1))) []=zeros ((exx D x m T).zA.length-(k+1)):=rfl;have hs:sig (suf (exx D x m T) (k+1)) (lvl (exx D x m T) k) (zeros ((exx D x m T).zA.length-(k+1)))=zeros ((exx D x m T).zA.length-(k+1)):=by grind[sig,uD,yC]
 rw[hz,hs,zIc h hE hT hk hc (by omega) _ _ w4,w3]at v2;have e1:adK m.Prime D (x.zA.length-(k+1)) (sig (suf (exx D x m T) (k+1)) (lvl (exx D x m T) k) ((x.zQ.getD k []).drop (k+1)++zeros D)) (wQ m.Prime D (T.getD k []) (wM m.Prime D m.zR [k] (idM D)))=sig (suf (exx D x m T) (k+1)) (lvl (exx D x m T) k) (lvl (exx D x m T) k).w:=by grind[zKF,zHX]
 have e2:adK m.Prime D (x.zA.length-(k+1)) ((x.zQ.getD k []).drop (k+1)++zeros D) (wQ m.Prime D (T.getD k []) (wM m.Prime D m.zR [] (idM D)))=(lvl (exx D x m T) k).w:=by rw[show wM m.Prime D m.zR [] (idM D)=idM D from rfl,sL ek,w2]
 obtain⟨hy,this⟩:=zGL h hE hT hk hc k1 k2 (r1:=k) (r2:=k) (s1:=[k]) (s2:=[]) (zBq h hE hT hk pY) pY v1 v2 (by rw[e1,e2,zKA h hE hT hk po,zHT h hE hT hk,Jz (by have:=uG h (by omega) w1;exact this)];exact hL.c3)
 refine⟨hy,?_⟩
 grind
end
theorem zYK:∀(a o:Nat)(b:Int)(c:Vec),nw o (zeros a++b::c)=J0 b.toNat (o+a)++nw (o+a+1) c
 |0,o,b,c=>rfl
 |a+1,o,b,c=>by rw[show zeros (a+1)++b::c=0::(zeros a++b::c)from rfl];simp only[nw,H6,Kt,Js];rw[zYK a (o+1) b c,show o+1+a=o+(a+1)from by omega]
theorem zUa{os:List Int}(hv:Exp os v j)(hk:k<=j):Exp os v k:=⟨hv.1,fun i hi=>hv.2 i (by omega)⟩
section
variable {x:SPr} (h:Pres x)
 include h
theorem zYL:∀(a k:Nat){b:Int}{c:Vec},k+a<x.zA.length->0<=b->b<at0 x.zA (k+a)->V (suf x (k+a+1)) c->V (suf x k) (zeros a++b::c)
 |0,k,b,c,ha,h0,h1,hc=>by rw[yB (x:=x)];exact⟨⟨h0,h1⟩,hc⟩
 |a+1,k,b,c,ha,h0,h1,hc=>by
  have:=(h.os.2 k (by omega)).pos;rw[yB (x:=x)];refine⟨⟨Int.le_refl 0,?_⟩,?_⟩
  ·show(0:Int)<at0 x.zA k
   omega
  ·exact zYL a (k+1) (by omega) h0 (by grind) (by grind)
end
section
variable {D:Nat}{x:SPr}{m:zS}{T:Mx} (h:Pres x) (hE:ExB x.zA.length D x m T) (hT:∀i,i<T.length->Row m.Prime D (T.getD i []))
 include h hE hT
variable {k:Nat} (hk:k<x.zA.length) (hc:xS (suf (exx D x m T) (k+1)))
 include hk hc
theorem zNX(h1:k+1<=j)(h2:j<x.zA.length){b:Int}(h0:0<=b)(hb:b<at0 x.zA j)(fO:V (suf x (j+1)) c):V (suf x (k+1)) (zeros (j-(k+1))++b::c)/\nw (k+1) (zeros (j-(k+1))++b::c)=J0 b.toNat j++nw (j+1) c/\
  fo (exx D x m T) (k+1) (zeros ((exx D x m T).zA.length-(k+1))) (J0 b.toNat j++nw (j+1) c)=(zeros (j-(k+1))++b::c)++zeros D:=by
 have e:k+1+(j-(k+1))=j:=by omega
 have hv:V (suf x (k+1)) (zeros (j-(k+1))++b::c):=by grind[zYL]
 have hn:nw (k+1) (zeros (j-(k+1))++b::c)=J0 b.toNat j++nw (j+1) c:=by rw[zYK,e]
 refine⟨hv,hn,?_⟩;rw[<-hn];exact zIb h hE hT _ (k+1) (by omega:k+1+(x.zA.length-(k+1))=x.zA.length) hc _ hv
theorem zPK(he:V (suf (exx D x m T) (k+1)) e):mul (suf (exx D x m T) (k+1)) (zeros ((exx D x m T).zA.length-(k+1))) e=e:=by
 have G:=(zAo _ (uX h hE hT (k:=k+1) (by omega)) hc).toMon;have:=G.onel he
 grind[yC]
theorem zPL(h1:k+1<=j)(h2:j<x.zA.length):fo (exx D x m T) (k+1) (zeros ((exx D x m T).zA.length-(k+1))) [j]=wL ((exx D x m T).zA.length-(k+1)) (j-(k+1))/\sig (suf (exx D x m T) (k+1)) (lvl (exx D x m T) k) (wL ((exx D x m T).zA.length-(k+1)) (j-(k+1)))=(lvl (exx D x m T) k).cs.getD (j-(k+1)) []:=by
 have ho:=(h.os.2 j h2).pos;have hz:V (suf x (j+1)) (zeros (x.zA.length-(j+1))):=by have:=xT (h.okAt (k:=j+1) (by omega));grind[yC]
 obtain⟨v1,v2,v3⟩:=zNX h hE hT hk hc h1 h2 (b:=1) (by omega) (by omega) hz;have hn:nw (j+1) (zeros (x.zA.length-(j+1)))=[]:=zCM _ _;rw[hn]at v2 v3;have hf:fo (exx D x m T) (k+1) (zeros ((exx D x m T).zA.length-(k+1))) [j]=wL ((exx D x m T).zA.length-(k+1)) (j-(k+1)):=zPK h hE hT hk hc (zEb h hE hT h1 h2);refine⟨hf,?_⟩;rw[<-hf];have v3':fo (exx D x m T) (k+1) (zeros ((exx D x m T).zA.length-(k+1))) [j]=_:=v3
 grind[zER,zPK,zTZ]
theorem zYM(hL:LC x k)(h1:k+1<=j)(h2:j<x.zA.length)(k1:qD x k (nw 0 (x.zQ.getD j [])++[k]) t1 y1)(k2:qD x k (J0 (yL x j-1) j++k::nw 0 (lcj x k j)) t2 y2):
  y1=y2/\(tv m.Prime D m T ((j,[k])::t1)=tv m.Prime D m T ((base x.zA.length k+(j-(k+1)),[])::t2)↔c1E (exx D x m T) k j):=by
 have hp:=hE.m.p.pos;have ho:=(h.os.2 k hk).pos;have hj:=(h.os.2 j h2).pos;have ma:=zUa (jP h h2) (show k<=j by omega);have cv:V (suf x (k+1)) ((x.zQ.getD j []).drop (k+1)):=zAp ma hk;have mb:=tL h ma hk;have dq:=zFM h hE hT h2;have pY:=zEQ h hE hT (k:=k+1) (by omega) cv (xI (p:=m.Prime) (D:=D));obtain⟨c1,c2,c3,c4⟩:=csE h hE hT hk hc h1 h2;have cG:=zEQ h hE hT (k:=k+1) (by omega) c1 (xI (p:=m.Prime) (D:=D));have hcV:=zTZ h hE hT hk h1 h2;have ek:=zGr h hE hT (show k<j by omega) h2;have aO:V (suf x (j+1)) (zeros (x.zA.length-(j+1))):=by have:=xT (h.okAt (k:=j+1) (by omega));rwa [yC]at this
 obtain⟨u1,u2,u3⟩:=zNX h hE hT hk hc h1 h2 (b:=at0 x.zA j-1) (by omega) (by omega) aO;rw[zCM,Jh,show(at0 x.zA j-1).toNat=yL x j-1 from by show _=(at0 x.zA j).toNat-1;omega]at u2 u3;have gD:=uX h hE hT (k:=k+1) (by omega);have G:=(zAo _ gD hc).toMon;have v1:=zEc h hE hT hk hc mb.2 (z:=[]);rw[mb.1,zIb h hE hT _ (k+1) (by omega:k+1+(x.zA.length-(k+1))=x.zA.length) hc _ cv,<-mb.1]at v1;have hr:∀a∈J0 (yL x j-1) j,k+1<=a/\a<x.zA.length:=fun a ha=>by have:=Lj ha;omega
 have v2:=zEc h hE hT hk hc hr (z:=nw 0 (lcj x k j));have dH:∀q(e:Vec),(J0 q j).foldl (fun acc j=>mul (suf (exx D x m T) (k+1)) acc ((lvl (exx D x m T) k).cs.getD (j-(k+1)) [])) e=iter q (fun v=>mul (suf (exx D x m T) (k+1)) v ((lvl (exx D x m T) k).cs.getD (j-(k+1)) [])) e:=by
  intro q
  induction q with
  |zero=>intro e;rfl
  |succ q ih=>intro e;rw[Jw,Gz,ih];rfl
 have hpq:sig (suf (exx D x m T) (k+1)) (lvl (exx D x m T) k) (fo (exx D x m T) (k+1) (zeros ((exx D x m T).zA.length-(k+1))) (J0 (yL x j-1) j))=pw (mul (suf (exx D x m T) (k+1))) (zeros (suf (exx D x m T) (k+1)).length) ((lvl (exx D x m T) k).cs.getD (j-(k+1)) []) (yL x j-1):=by rw[u3,zER h hE hT hk u1,u2,dH,yC];rfl
 have Vp:V (suf (exx D x m T) (k+1)) (pw (mul (suf (exx D x m T) (k+1))) (zeros (suf (exx D x m T) (k+1)).length) ((lvl (exx D x m T) k).cs.getD (j-(k+1)) []) (yL x j-1)):=wO G hcV _;rw[hpq,zIc h hE hT hk hc (by omega) _ _ c4,zId h hE hT hk hc c4 Vp,c3]at v2;have e1:adK m.Prime D (x.zA.length-(k+1)) (sig (suf (exx D x m T) (k+1)) (lvl (exx D x m T) k) ((x.zQ.getD j []).drop (k+1)++zeros D)) (wQ m.Prime D (T.getD j []) (wM m.Prime D m.zR [k] (idM D)))=sig (suf (exx D x m T) (k+1)) (lvl (exx D x m T) k) (((exx D x m T).zQ.getD j []).drop (k+1)):=by rw[zKF h hE hT hk hk,zNS h hE hT (by omega) h2,<-zHX h hE hT hk pY dq,kK h hE hT (by omega) cv,vW dq]
 have e2:adK m.Prime D (x.zA.length-(k+1)) (mul (suf (exx D x m T) (k+1)) (pw (mul (suf (exx D x m T) (k+1))) (zeros (suf (exx D x m T) (k+1)).length) ((lvl (exx D x m T) k).cs.getD (j-(k+1)) []) (yL x j-1)) ((lcj x k j).drop (k+1)++zeros D)) (wQ m.Prime D (T.getD (base x.zA.length k+(j-(k+1))) []) (wM m.Prime D m.zR [] (idM D)))=pw (mul (suf (exx D x m T) (k+1))) (zeros (suf (exx D x m T) (k+1)).length) ((lvl (exx D x m T) k).cs.getD (j-(k+1)) []) (at0 (exx D x m T).zA j).toNat:=by
  rw[show wM m.Prime D m.zR [] (idM D)=idM D from rfl,sL ek,<-zMs h hE hT hk hc cG ek Vp,<-c2,tZ h hE hT h2,show(at0 x.zA j).toNat=(yL x j-1)+1 from by show _=(at0 x.zA j).toNat-1+1;omega]
  conv=>rhs;rw[pw,wG]
  rfl
 have fF:V (suf (exx D x m T) (k+1)) (((exx D x m T).zQ.getD j []).drop (k+1)):=by rw[zNS h hE hT (by omega) h2];exact zEQ h hE hT (by omega) cv dq
 obtain⟨hy,this⟩:=zGL h hE hT hk hc k1 k2 (r1:=j) (r2:=base x.zA.length k+(j-(k+1))) (s1:=[k]) (s2:=[]) (zBq h hE hT hk pY) (yT gD Vp cG) v1 v2 (by rw[e1,e2,zKA h hE hT hk fF,zTP h hE hT hk (by omega) h2,yC3 h hE hT (by omega) hcV,zTO h hE hT hk h1 h2,tZ h hE hT h2];exact(hL.c1 j h1 h2).symm)
 rw[e1,e2]at this;refine⟨hy,?_⟩;rw[this];exact eq_comm
theorem zYN(hL:LC x k)(h1:k+1<=i)(gQ:i<j)(h2:j<x.zA.length)(k1:qD x k (i::(nw 0 (lcj x i j)++[k])) t1 y1)(k2:qD x k (j::k::nw 0 (lcj x k i)) t2 y2):
  y1=y2/\(tv m.Prime D m T ((base x.zA.length i+(j-(i+1)),[k])::t1)=tv m.Prime D m T ((base x.zA.length k+(i-(k+1)),[])::t2)↔c2E (exx D x m T) k i j):=by
 have hp:=hE.m.p.pos;have ho:=(h.os.2 k hk).pos;have hi:=(h.os.2 i (by omega)).pos;have tp:=uI h gQ h2;have iz:=zUa tp (show k<=i by omega);have VW:V (suf x (k+1)) ((lcj x i j).drop (k+1)):=zAp iz hk;have pU:V (suf x (i+1)) ((lcj x i j).drop (i+1)):=zAp tp;have hn:=tL h iz hk;have hni:=tL h tp (by omega);have dr:=zGr h hE hT gQ h2;have iK:=zEQ h hE hT (k:=k+1) (by omega) VW (xI (p:=m.Prime) (D:=D));obtain⟨c1,c2,c3,c4⟩:=csE h hE hT hk hc h1 (show i<x.zA.length by omega);have cG:=zEQ h hE hT (k:=k+1) (by omega) c1 (xI (p:=m.Prime) (D:=D));have cm:=zTZ h hE hT hk h1 (show i<x.zA.length by omega);have mI:=zTZ h hE hT hk (show k+1<=j by omega) h2;have ek:=zGr h hE hT (show k<i by omega) (show i<x.zA.length by omega);have gD:=uX h hE hT (k:=k+1) (by omega);obtain⟨u1,u2,u3⟩:=zNX h hE hT hk hc h1 (show i<x.zA.length by omega) (b:=1) (by omega) (by omega) pU;rw[<-hni.1,show J0 (1:Int).toNat i++nw 0 (lcj x i j)=i::nw 0 (lcj x i j)from rfl]at u2 u3;have hr:∀a∈i::nw 0 (lcj x i j),k+1<=a/\a<x.zA.length:=fun a ha=>by
  simp only[Je]at ha;rcases ha with rfl|ha
  ·omega
  ·exact hn.2 a ha
 have v1:=zEc h hE hT hk hc hr (z:=[]);have es:sig (suf (exx D x m T) (k+1)) (lvl (exx D x m T) k) (fo (exx D x m T) (k+1) (zeros ((exx D x m T).zA.length-(k+1))) (i::nw 0 (lcj x i j)))=mul (suf (exx D x m T) (k+1)) ((lvl (exx D x m T) k).cs.getD (i-(k+1)) []) (sig (suf (exx D x m T) (k+1)) (lvl (exx D x m T) k) ((lcj x i j).drop (k+1)++zeros D)):=by rw[u3,zER h hE hT hk u1,u2,Gz,zPK h hE hT hk hc cm,zER h hE hT hk VW,<-hn.1];have:=zMw h hE hT hk hc hn.2 cm (zNU h hE hT (k:=k+1) (by omega));rw[yAm h hE hT (by omega) cm]at this;exact this
 rw[es]at v1;have v2:=zEc h hE hT hk hc (v:=[j]) (fun a ha=>by simp only[List.mem_singleton]at ha;omega) (z:=nw 0 (lcj x k i));obtain⟨g1,g2⟩:=zPL h hE hT hk hc (show k+1<=j by omega) h2;rw[g1,g2,zIc h hE hT hk hc (by omega) _ _ c4,zId h hE hT hk hc c4 mI,c3]at v2;have hsV:=zBq h hE hT hk iK;have fu:((((exx D x m T).zG.getD i []).getD (j-(i+1)) []).drop (k+1))=adK m.Prime D (x.zA.length-(k+1)) ((lcj x i j).drop (k+1)++zeros D) (T.getD (base x.zA.length i+(j-(i+1))) []):=by rw[zTN h hE hT (by omega) gQ h2,kK h hE hT (by omega) VW,vW dr]
 have e1:adK m.Prime D (x.zA.length-(k+1)) (mul (suf (exx D x m T) (k+1)) ((lvl (exx D x m T) k).cs.getD (i-(k+1)) []) (sig (suf (exx D x m T) (k+1)) (lvl (exx D x m T) k) ((lcj x i j).drop (k+1)++zeros D))) (wQ m.Prime D (T.getD (base x.zA.length i+(j-(i+1))) []) (wM m.Prime D m.zR [k] (idM D)))=mul (suf (exx D x m T) (k+1)) ((lvl (exx D x m T) k).cs.getD (i-(k+1)) []) (sig (suf (exx D x m T) (k+1)) (lvl (exx D x m T) k) ((((exx D x m T).zG.getD i []).getD (j-(i+1)) []).drop (k+1))):=by rw[zKF h hE hT hk hk,<-zMs h hE hT hk hc hsV (vU) cm,<-zHX h hE hT hk iK dr,<-fu]
 have e2:adK m.Prime D (x.zA.length-(k+1)) (mul (suf (exx D x m T) (k+1)) ((lvl (exx D x m T) k).cs.getD (j-(k+1)) []) ((lcj x k i).drop (k+1)++zeros D)) (wQ m.Prime D (T.getD (base x.zA.length k+(i-(k+1))) []) (wM m.Prime D m.zR [] (idM D)))=mul (suf (exx D x m T) (k+1)) ((lvl (exx D x m T) k).cs.getD (j-(k+1)) []) ((lvl (exx D x m T) k).cs.getD (i-(k+1)) []):=by rw[show wM m.Prime D m.zR [] (idM D)=idM D from rfl,sL ek,<-zMs h hE hT hk hc cG ek mI,<-c2]
 have uk:V (suf (exx D x m T) (k+1)) ((((exx D x m T).zG.getD i []).getD (j-(i+1)) []).drop (k+1)):=by rw[fu];exact yAn h hE hT (by omega) iK
 obtain⟨hy,this⟩:=zGL h hE hT hk hc k1 k2 (r1:=base x.zA.length i+(j-(i+1))) (r2:=base x.zA.length k+(i-(k+1))) (s1:=[k]) (s2:=[]) (yT gD cm hsV) (yT gD mI cG) v1 v2 (by rw[e1,e2,zFN h hE hT (by omega) cm (zBq h hE hT hk uk),zFN h hE hT (by omega) mI cm,zKA h hE hT hk uk,zTO h hE hT hk h1 (by omega),zTO h hE hT hk (by omega) h2,yAg h hE hT hk h1 gQ h2];exact(hL.c2 i h1 (by omega) j (by omega) h2).symm)
 rw[e1,e2]at this;refine⟨hy,?_⟩;rw[this];exact eq_comm
end
section
variable {D:Nat}{x:SPr}{m:zS}{T:Mx} (h:Pres x) (hE:ExB x.zA.length D x m T) (hT:∀i,i<T.length->Row m.Prime D (T.getD i []))
 include h hE hT
variable {k:Nat} (hk:k<x.zA.length) (hc:xS (suf (exx D x m T) (k+1)))
 include hk hc
 omit hc in
theorem zQT:∀(q:Nat){e:Vec},V (suf (exx D x m T) (k+1)) e->V (suf (exx D x m T) (k+1)) (iter q (sig (suf (exx D x m T) (k+1)) (lvl (exx D x m T) k)) e)
  |0,_,he=>he
  |q+1,_,he=>zQT q (zBq h hE hT hk he)
 omit hc in
theorem zYO:∀(q:Nat){e d:Vec},V (suf (exx D x m T) (k+1)) e->Row m.Prime D d->iter q (sig (suf (exx D x m T) (k+1)) (lvl (exx D x m T) k)) (adK m.Prime D (x.zA.length-(k+1)) e d)=adK m.Prime D (x.zA.length-(k+1)) (iter q (sig (suf (exx D x m T) (k+1)) (lvl (exx D x m T) k)) e) (wQ m.Prime D d (wM m.Prime D m.zR (J0 q k) (idM D)))
  |0,e,d,_,hd=>by show adK _ _ _ e d=adK _ _ _ e (wQ m.Prime D d (idM D));rw[sL hd]
  |q+1,e,d,he,hd=>by have hp:=hE.m.p.pos;show iter q _ (sig _ _ (adK _ _ _ e d))=adK _ _ _ (iter q _ (sig _ _ e)) _;rw[zHX h hE hT hk he hd,zYO q (zBq h hE hT hk he) (vU),Jw,show k::J0 q k=[k]++J0 q k from rfl,zEP (by omega),zKF h hE hT hk hk]
theorem zUb:∀(q:Nat){c:Int}{e:Vec},0<=c->c+(q:Int)<at0 x.zA k->V (suf (exx D x m T) (k+1)) e->fo (exx D x m T) k (c::e) (J0 q k)=(c+(q:Int))::iter q (sig (suf (exx D x m T) (k+1)) (lvl (exx D x m T) k)) e
 |0,c,e,_,_,_=>by show c::e=(c+((0:Nat):Int))::e;simp
 |q+1,c,e,h0,h1,he=>by
  rw[Jw,sA,zGt h hE hT hk hc he,if_neg (by omega),zUb q (by omega) (by omega) (zBq h hE hT hk he)]
  grind[iter]
theorem zYP(hL:LC x k)(h1:k+1<=j)(h2:j<x.zA.length)(k1:qD x k (k::(nw 0 (lcj x k j)++J0 (yL x k-1) k)) t1 y1)(k2:qD x k (j::nw 0 (x.zQ.getD k [])) t2 y2):
  y1=y2/\(tv m.Prime D m T ((base x.zA.length k+(j-(k+1)),J0 (yL x k-1) k)::t1)=tv m.Prime D m T ((k,[])::t2)↔c4E (exx D x m T) k j):=by
 have hp:=hE.m.p.pos;have ho:=(h.os.2 k hk).pos;have hon:(yL x k:Int)=at0 x.zA k:=by grind
 obtain⟨w1,w2,w3,w4⟩:=wE h hE hT hk hc;have pY:=zEQ h hE hT (k:=k+1) (by omega) w1 (xI (p:=m.Prime) (D:=D));have po:=zTT h hE hT hk;have ek:=zFM h hE hT hk;obtain⟨c1,c2,c3,c4⟩:=csE h hE hT hk hc h1 h2;have cG:=zEQ h hE hT (k:=k+1) (by omega) c1 (xI (p:=m.Prime) (D:=D));have dq:=zGr h hE hT (show k<j by omega) h2;have gD:=uX h hE hT (k:=k+1) (by omega);have hg:=zEb h hE hT h1 h2;obtain⟨g1,g2⟩:=zPL h hE hT hk hc h1 h2;have hz:fo (exx D x m T) (k+1) (zeros ((exx D x m T).zA.length-(k+1))) []=zeros ((exx D x m T).zA.length-(k+1)):=rfl;have hs:sig (suf (exx D x m T) (k+1)) (lvl (exx D x m T) k) (zeros ((exx D x m T).zA.length-(k+1)))=zeros ((exx D x m T).zA.length-(k+1)):=by grind[sig,uD,yC]
 have hl:=xQ h hE hT;have v1:=zEc h hE hT hk hc (v:=[]) (by simp) (z:=nw 0 (lcj x k j)++J0 (yL x k-1) k);rw[hz,hs]at v1;have v0:=v1.trans (zCP (e:=exx D x m T) (k:=k) (u:=(1:Int)::zeros ((exx D x m T).zA.length-(k+1))) (v:=nw 0 (lcj x k j)) (w:=J0 (yL x k-1) k));rw[zIc h hE hT hk hc (by omega) _ _ c4,c3]at v0;have eV:=zQT h hE hT hk (yL x k-2) cG;have v1':fo (exx D x m T) k (zeros ((exx D x m T).zA.length-k)) (k::(nw 0 (lcj x k j)++J0 (yL x k-1) k))=0::mul (suf (exx D x m T) (k+1)) (lvl (exx D x m T) k).w (iter (yL x k-1) (sig (suf (exx D x m T) (k+1)) (lvl (exx D x m T) k)) ((lcj x k j).drop (k+1)++zeros D)):=by
  refine v0.trans ?_;rw[show yL x k-1=(yL x k-2)+1 from by omega,Lf,zCP,zUb h hE hT hk hc (yL x k-2) (by omega) (by omega) cG];show mul _ _ _=_;rw[zGt h hE hT hk hc eV,if_pos (by omega),wG]
  grind
 have hr:∀a∈j::nw 0 (x.zQ.getD k []),k+1<=a/\a<x.zA.length:=by grind
 have v2:fo (exx D x m T) k (zeros ((exx D x m T).zA.length-k)) (j::nw 0 (x.zQ.getD k []))=0::mul (suf (exx D x m T) (k+1)) (wL ((exx D x m T).zA.length-(k+1)) (j-(k+1))) ((x.zQ.getD k []).drop (k+1)++zeros D):=by rw[show zeros ((exx D x m T).zA.length-k)=0::zeros ((exx D x m T).zA.length-(k+1))from by rw[show(exx D x m T).zA.length-k=(exx D x m T).zA.length-(k+1)+1 from by omega];rfl,zIc h hE hT hk hc (by omega) _ _ hr,sA,zPK h hE hT hk hc hg,zId h hE hT hk hc w4 hg,w3]
 have e1:adK m.Prime D (x.zA.length-(k+1)) (mul (suf (exx D x m T) (k+1)) (lvl (exx D x m T) k).w (iter (yL x k-1) (sig (suf (exx D x m T) (k+1)) (lvl (exx D x m T) k)) ((lcj x k j).drop (k+1)++zeros D))) (wQ m.Prime D (T.getD (base x.zA.length k+(j-(k+1))) []) (wM m.Prime D m.zR (J0 (yL x k-1) k) (idM D)))=mul (suf (exx D x m T) (k+1)) (lvl (exx D x m T) k).w (iter (lvl (exx D x m T) k).o.toNat (sig (suf (exx D x m T) (k+1)) (lvl (exx D x m T) k)) (wL ((exx D x m T).zA.length-(k+1)) (j-(k+1)))):=by rw[<-zMs h hE hT hk hc (zQT h hE hT hk _ cG) (vU) po,<-zYO h hE hT hk _ cG dq,<-c2,<-g2,zEI h hE hT hk,show(at0 x.zA k).toNat=(yL x k-1)+1 from by omega];rfl
 have e2:adK m.Prime D (x.zA.length-(k+1)) (mul (suf (exx D x m T) (k+1)) (wL ((exx D x m T).zA.length-(k+1)) (j-(k+1))) ((x.zQ.getD k []).drop (k+1)++zeros D)) (wQ m.Prime D (T.getD k []) (wM m.Prime D m.zR [] (idM D)))=mul (suf (exx D x m T) (k+1)) (wL ((exx D x m T).zA.length-(k+1)) (j-(k+1))) (lvl (exx D x m T) k).w:=by rw[show wM m.Prime D m.zR [] (idM D)=idM D from rfl,sL ek,<-zMs h hE hT hk hc pY ek hg,<-w2]
 have htw:(lvl (exx D x m T) k).w.take (x.zA.length-(k+1))=(lvl x k).w:=zTP h hE hT hk (J9 k) hk;have px:(wL (x.zA.length-(k+1)) (j-(k+1))).length=x.zA.length-(k+1):=by simp[wL,zeros]
 obtain⟨hy,this⟩:=zGL h hE hT hk hc k1 k2 (r1:=base x.zA.length k+(j-(k+1))) (r2:=k) (s1:=J0 (yL x k-1) k) (s2:=[]) (yT gD po (zQT h hE hT hk _ cG)) (yT gD hg pY) v1' v2 (by rw[e1,e2,zFN h hE hT (by omega) po (zQT h hE hT hk _ hg),zFN h hE hT (by omega) hg po,zPE h hE hT hk _ hg,htw,yAh h hE hT hk h1 h2,Jz px,zEI h hE hT hk];exact hL.c4 j h1 h2)
 rw[e1,e2]at this;exact⟨hy,this⟩
end
structure zKG (x:SPr) (k:Nat) (r1:Nat) (s1 w1:List Nat) (r2:Nat) (s2 w2:List Nat) (t1 t2:List (Nat×List Nat)):Prop where
 a:∃u1 y1,t1=(r1,s1)::u1/\qD x k w1 u1 y1
 b:∃u2 y2,t2=(r2,s2)::u2/\qD x k w2 u2 y2
structure zYQ (x:SPr) (D:Nat) (m:zS) (T:Mx):Prop where
 p1:∀k j,k<j->j<x.zA.length-> ∀t1 t2,zKG x k j [k] (nw 0 (x.zQ.getD j [])++[k]) (base x.zA.length k+(j-(k+1))) [] (J0 (yL x j-1) j++k::nw 0 (lcj x k j)) t1 t2->tv m.Prime D m T t1=tv m.Prime D m T t2
 p2:∀k i j,k<i->i<j->j<x.zA.length-> ∀t1 t2,zKG x k (base x.zA.length i+(j-(i+1))) [k] (i::(nw 0 (lcj x i j)++[k])) (base x.zA.length k+(i-(k+1))) [] (j::k::nw 0 (lcj x k i)) t1 t2->tv m.Prime D m T t1=tv m.Prime D m T t2
 p3:∀k,k<x.zA.length-> ∀t1 t2,zKG x k k [k] (nw 0 (x.zQ.getD k [])++[k]) k [] (k::nw 0 (x.zQ.getD k [])) t1 t2->tv m.Prime D m T t1=tv m.Prime D m T t2
 p4:∀k j,k<j->j<x.zA.length-> ∀t1 t2,zKG x k (base x.zA.length k+(j-(k+1))) (J0 (yL x k-1) k) (k::(nw 0 (lcj x k j)++J0 (yL x k-1) k)) k [] (j::nw 0 (x.zQ.getD k [])) t1 t2->tv m.Prime D m T t1=tv m.Prime D m T t2
section
variable {D:Nat}{x:SPr}{m:zS}{T:Mx} (h:Pres x) (hE:ExB x.zA.length D x m T) (hT:∀i,i<T.length->Row m.Prime D (T.getD i []))
 include h hE hT
theorem zJA(hk:k<x.zA.length)(hL:LC x k)(hc:xS (suf (exx D x m T) (k+1))):LCn x (exx D x m T) k↔
  (∀j,k<j->j<x.zA.length-> ∀t1 t2,zKG x k j [k] (nw 0 (x.zQ.getD j [])++[k]) (base x.zA.length k+(j-(k+1))) [] (J0 (yL x j-1) j++k::nw 0 (lcj x k j)) t1 t2->tv m.Prime D m T t1=tv m.Prime D m T t2)/\
  (∀i j,k<i->i<j->j<x.zA.length-> ∀t1 t2,zKG x k (base x.zA.length i+(j-(i+1))) [k] (i::(nw 0 (lcj x i j)++[k])) (base x.zA.length k+(i-(k+1))) [] (j::k::nw 0 (lcj x k i)) t1 t2->tv m.Prime D m T t1=tv m.Prime D m T t2)/\
  (∀t1 t2,zKG x k k [k] (nw 0 (x.zQ.getD k [])++[k]) k [] (k::nw 0 (x.zQ.getD k [])) t1 t2->tv m.Prime D m T t1=tv m.Prime D m T t2)/\
  (∀j,k<j->j<x.zA.length-> ∀t1 t2,zKG x k (base x.zA.length k+(j-(k+1))) (J0 (yL x k-1) k) (k::(nw 0 (lcj x k j)++J0 (yL x k-1) k)) k [] (j::nw 0 (x.zQ.getD k [])) t1 t2->tv m.Prime D m T t1=tv m.Prime D m T t2):=by
 have hC:=fun(w:List Nat)(hw:∀a∈w,k<=a/\a<x.zA.length)=>zWW h (x.zA.length-k) k (by omega) w hw
 have fu:∀i j,i<j->j<x.zA.length-> ∀a∈nw 0 (lcj x i j),i+1<=a/\a<x.zA.length:=fun i j hi hj=>(tL h (uI h hi hj) (by omega)).2
 have fF:∀i,i<x.zA.length-> ∀a∈nw 0 (x.zQ.getD i []),i+1<=a/\a<x.zA.length:=fun i hi=>(tL h (jP h hi) hi).2
 constructor
 ·intro g
  refine⟨?_,?_,?_,?_⟩
  ·rintro j h1 h2 t1 t2 ⟨⟨u1,y1,rfl,k1⟩,⟨u2,y2,rfl,k2⟩⟩
   exact(zYM h hE hT hk hc hL (by omega) h2 k1 k2).2.2 (g.c1 j (by omega) h2)
  ·rintro i j h1 gQ h2 t1 t2 ⟨⟨u1,y1,rfl,k1⟩,⟨u2,y2,rfl,k2⟩⟩
   exact(zYN h hE hT hk hc hL (by omega) gQ h2 k1 k2).2.2 (g.c2 i (by omega) (by omega) j (by omega) h2)
  ·rintro t1 t2 ⟨⟨u1,y1,rfl,k1⟩,⟨u2,y2,rfl,k2⟩⟩
   exact(zYJ h hE hT hk hc hL k1 k2).2.2 g.c3
  ·rintro j h1 h2 t1 t2 ⟨⟨u1,y1,rfl,k1⟩,⟨u2,y2,rfl,k2⟩⟩
   exact(zYP h hE hT hk hc hL (by omega) h2 k1 k2).2.2 (g.c4 j (by omega) h2)
 ·rintro⟨g1,g2,g3,g4⟩
  refine⟨fun j h1 h2=>?_,fun i h1 hi j gQ h2=>?_,?_,fun j h1 h2=>?_⟩
  ·obtain⟨u1,y1,k1⟩:=hC (nw 0 (x.zQ.getD j [])++[k]) (fun a ha=>by
    simp only[Ji,List.mem_singleton]at ha;rcases ha with ha|rfl
    ·grind
    ·omega)
   obtain⟨u2,y2,k2⟩:=hC (J0 (yL x j-1) j++k::nw 0 (lcj x k j)) (fun a ha=>by
    simp only[Ji,Je]at ha;rcases ha with ha|rfl|ha
    ·grind
    ·omega
    grind)
   exact(zYM h hE hT hk hc hL h1 h2 k1 k2).2.1 (g1 j (by omega) h2 _ _ ⟨⟨u1,y1,rfl,k1⟩,⟨u2,y2,rfl,k2⟩⟩)
  ·obtain⟨u1,y1,k1⟩:=hC (i::(nw 0 (lcj x i j)++[k])) (fun a ha=>by
    simp only[Ji,Je,Gm,or_false]at ha;rcases ha with rfl|ha|rfl
    ·omega
    ·grind
    ·omega)
   obtain⟨u2,y2,k2⟩:=hC (j::k::nw 0 (lcj x k i)) (fun a ha=>by
    simp only[Je]at ha;rcases ha with rfl|rfl|ha
    ·omega
    ·omega
    grind)
   exact(zYN h hE hT hk hc hL h1 (by omega) h2 k1 k2).2.1 (g2 i j (by omega) (by omega) h2 _ _ ⟨⟨u1,y1,rfl,k1⟩,⟨u2,y2,rfl,k2⟩⟩)
  ·obtain⟨u1,y1,k1⟩:=hC (nw 0 (x.zQ.getD k [])++[k]) (fun a ha=>by
    simp only[Ji,List.mem_singleton]at ha;rcases ha with ha|rfl
    ·grind
    ·omega)
   obtain⟨u2,y2,k2⟩:=hC (k::nw 0 (x.zQ.getD k [])) (fun a ha=>by
    simp only[Je]at ha;rcases ha with rfl|ha
    ·omega
    grind)
   exact(zYJ h hE hT hk hc hL k1 k2).2.1 (g3 _ _ ⟨⟨u1,y1,rfl,k1⟩,⟨u2,y2,rfl,k2⟩⟩)
  ·obtain⟨u1,y1,k1⟩:=hC (k::(nw 0 (lcj x k j)++J0 (yL x k-1) k)) (fun a ha=>by
    simp only[Ji,Je]at ha;rcases ha with rfl|ha|ha
    ·omega
    ·grind
    grind)
   obtain⟨u2,y2,k2⟩:=hC (j::nw 0 (x.zQ.getD k [])) (fun a ha=>by
    simp only[Je]at ha;rcases ha with rfl|ha
    ·omega
    grind)
   exact(zYP h hE hT hk hc hL h1 h2 k1 k2).2.1 (g4 j (by omega) h2 _ _ ⟨⟨u1,y1,rfl,k1⟩,⟨u2,y2,rfl,k2⟩⟩)
theorem zQU(hx:xS (suf x 0))(hr:zII x m D):zYQ x D m T↔xS (suf (exx D x m T) 0):=by
 have hl:=xQ h hE hT;have tf:∀k,k<x.zA.length->LC x k:=fun k hk=>((zCH h.w hk).1 (zJ2 hx k)).2
 constructor
 ·intro g
  have key:∀(d k:Nat),k+d=x.zA.length->xS (suf (exx D x m T) k):=by
   intro d
   induction d with
   |zero=>grind[zEM]
   |succ d ih=>
    intro k hk;have hc:=ih (k+1) (by omega);refine(zCH (kW h hE hT) (by omega)).2 ⟨hc,zNT h hE hT hr (by omega) ((zJA h hE hT (by omega) (tf k (by omega)) hc).2 ⟨?_,?_,?_,?_⟩)⟩
    ·exact fun j h1 h2 t1 t2 b=>g.p1 k j h1 h2 t1 t2 b
    ·exact fun i j h1 gQ h2 t1 t2 b=>g.p2 k i j h1 gQ h2 t1 t2 b
    ·exact fun t1 t2 b=>g.p3 k (by omega) t1 t2 b
    ·exact fun j h1 h2 t1 t2 b=>g.p4 k j h1 h2 t1 t2 b
  simp_all
 ·intro g
  have g0:=(zPD h hE hT hr).1 g;have hck:∀k,k<x.zA.length->xS (suf (exx D x m T) (k+1)):=by grind[zJ2]
  have key:=fun k(hk:k<x.zA.length)=>(zJA h hE hT hk (tf k hk) (hck k hk)).1 (g0 k hk)
  exact⟨fun k j h1 h2=>(key k (by omega)).1 j h1 h2,fun k i j h1 gQ h2=>(key k (by omega)).2.1 i j h1 gQ h2,fun k hk=>(key k hk).2.2.1,fun k j h1 h2=>(key k (by omega)).2.2.2 j h1 h2⟩
end
theorem Col.det{k':Nat}{w:List Nat}(h1:Col x k w t1 w1)(h2:Col x k' w t2 w2)(n1:stS x w1=Wv)(n2:stS x w2=Wv):t1=t2/\w1=w2:=by
 induction h1 generalizing t2 with
 |refl w=>
  cases h2 with
  |refl=>simp
  |step _ hs _=>grind
 |step hw hs hc ih=>
  cases h2 with
  |refl=>grind
  |step _ cx eE=>
   grind
structure Fh (n D D2:Nat) (m m2:zS) (T T2:Mx) (φ:Vec->Vec):Prop where
 pr:m2.Prime=m.Prime
 row:∀u,Row m.Prime D u->Row m.Prime D2 (φ u)
 z:φ (zeros D)=zeros D2
 add:∀u v,Row m.Prime D u->Row m.Prime D v->φ (adv m.Prime D u v)=adv m.Prime D2 (φ u) (φ v)
 act:∀k,k<n-> ∀u,Row m.Prime D u->φ (wQ m.Prime D u (m.zR.getD k []))=wQ m.Prime D2 (φ u) (m2.zR.getD k [])
 t:∀r,r<base n n->φ (T.getD r [])=T2.getD r []
def Fm(φ:Vec->Vec)(N:Nat)(e:Vec):Vec:=e.take N++φ (e.drop N)
theorem zCe{φ:Vec->Vec}(hy:y.length=N):Fm φ N (y++u)=y++φ u:=by grind[Fm]
theorem zGM{φ:Vec->Vec}{b:Int}:Fm φ (N+1) (b::e)=b::Fm φ N e:=by rfl
section
variable {D D2:Nat}{x:SPr}{m m2:zS}{T T2:Mx}{φ:Vec->Vec} (h:Pres x) (hE:ExB x.zA.length D x m T) (hT:∀i,i<T.length->Row m.Prime D (T.getD i [])) (gM:ExB x.zA.length D2 x m2 T2) (gP:∀i,i<T2.length->Row m2.Prime D2 (T2.getD i [])) (hF:Fh x.zA.length D D2 m m2 T T2 φ)
 include h hE hT gM gP hF
theorem yDR(hk:k<=x.zA.length):Fm φ (x.zA.length-k) (zeros (suf (exx D x m T) k).length)=zeros (suf (exx D2 x m2 T2) k).length:=by rw[zFK h hE hT hk,zFK h gM gP hk,zCe (yD _),hF.z]
theorem yC5(h1:k+1<=j)(h2:j<x.zA.length):Fm φ (x.zA.length-(k+1)) ((lvl (exx D x m T) k).cs.getD (j-(k+1)) [])=(lvl (exx D2 x m2 T2) k).cs.getD (j-(k+1)) []:=by
 have hn:=hE.hn;have hb:=zBf x.zA.length (by omega) k (by omega);have gF:V (suf x (k+1)) ((lcj x k j).drop (k+1)):=by grind[zAp,uI]
 rw[zHW h hE hT (by omega) h1 h2,zHW h gM gP (by omega) h1 h2,show(lvl x k).cs.getD (j-(k+1)) []=(lcj x k j).drop (k+1)from map_drop,zCe (uG h (by omega) gF),hF.t _ (by omega)]
theorem yDS(hk:k<x.zA.length):Fm φ (x.zA.length-(k+1)) (lvl (exx D x m T) k).w=(lvl (exx D2 x m2 T2) k).w:=by have hn:=hE.hn;have hb:=vF x.zA.length (by omega);have cv:V (suf x (k+1)) ((x.zQ.getD k []).drop (k+1)):=zAp (jP h hk) hk;rw[zHT h hE hT hk,zHT h gM gP hk,show(lvl x k).w=(x.zQ.getD k []).drop (k+1)from rfl,zCe (uG h (by omega) cv),hF.t _ (by omega)]
theorem yAp(hk:k<x.zA.length)(ih:∀a b,V (suf (exx D x m T) (k+1)) a->V (suf (exx D x m T) (k+1)) b->Fm φ (x.zA.length-(k+1)) (mul (suf (exx D x m T) (k+1)) a b)=mul (suf (exx D2 x m2 T2) (k+1)) (Fm φ (x.zA.length-(k+1)) a) (Fm φ (x.zA.length-(k+1)) b)){v:Vec}(hv:V (suf (exx D x m T) (k+1)) v):
  Fm φ (x.zA.length-(k+1)) (sig (suf (exx D x m T) (k+1)) (lvl (exx D x m T) k) v)=sig (suf (exx D2 x m2 T2) (k+1)) (lvl (exx D2 x m2 T2) k) (Fm φ (x.zA.length-(k+1)) v):=by
 have hp:=hE.m.p.pos;have ok:=uX h hE hT (k:=k+1) (by omega);obtain⟨y,u,rfl,hy,hu⟩:=(sX h hE hT (x.zA.length-(k+1)) (k+1) (by omega) _).1 hv;have eQ:=uG h (by omega) hy;have pd:Row m2.Prime D2 (φ u):=by rw[hF.pr];exact hF.row u hu
 have hsg:Fm φ (x.zA.length-(k+1)) (sgG D x m T k y)=sgG D2 x m2 T2 k y:=by
  unfold sgG;rw[zEJ (S:=V (suf (exx D x m T) (k+1))) (n:=mul (suf (exx D2 x m2 T2) (k+1))) (Fm φ (x.zA.length-(k+1))) (fun a b=>yT ok) ih _ _ _ (zTI h hE hT hk) (xT ok),yDR h hE hT gM gP hF (by omega)]
  congr 1
  apply Qj
  ·grind[jO]
  ·intro i h1 h2
   rw[Jm,jO h hE hT]at h1;have e1:(eC1 x T k)[i]'(by grind)=(lvl (exx D x m T) k).cs.getD (k+1+i-(k+1)) []:=by rw[show k+1+i-(k+1)=i from by omega,zCN h hE hT hk,J2,K1 (by grind),J3 (by rw[jO h hE hT];exact h1)];rfl
   have e2:(eC1 x T2 k)[i]'h2=(lvl (exx D2 x m2 T2) k).cs.getD (k+1+i-(k+1)) []:=by rw[show k+1+i-(k+1)=i from by omega,zCN h gM gP hk,J2,K1 h2,J3 h2];rfl
   rw[Qh,e1,e2,yC5 h hE hT gM gP hF (by omega) (by omega)]
 obtain⟨y1,u1,e,eF,pe⟩:=(sX h hE hT (x.zA.length-(k+1)) (k+1) (by omega) _).1 (zJ9 h hE hT hk (y:=y));have gR:=uG h (by omega) eF;rw[e,zCe gR]at hsg;rw[zCO h hE hT hk hy hu,e,Jz gR,Kd gR,zCe gR,zCe eQ,zCO h gM gP hk hy pd,<-hsg,Jz gR,Kd gR,hF.pr,hF.add _ _ pe (vU),hF.act k hk u hu]
theorem zPM{k:Nat}(hk:k<x.zA.length)(ih:∀a b,V (suf (exx D x m T) (k+1)) a->V (suf (exx D x m T) (k+1)) b->Fm φ (x.zA.length-(k+1)) (mul (suf (exx D x m T) (k+1)) a b)=mul (suf (exx D2 x m2 T2) (k+1)) (Fm φ (x.zA.length-(k+1)) a) (Fm φ (x.zA.length-(k+1)) b)):∀(q:Nat){v:Vec},V (suf (exx D x m T) (k+1)) v->
  Fm φ (x.zA.length-(k+1)) (iter q (sig (suf (exx D x m T) (k+1)) (lvl (exx D x m T) k)) v)=iter q (sig (suf (exx D2 x m2 T2) (k+1)) (lvl (exx D2 x m2 T2) k)) (Fm φ (x.zA.length-(k+1)) v)
 |0,_,_=>rfl
 |q+1,v,hv=>by show Fm φ _ (iter q _ (sig _ _ v))=iter q _ (sig _ _ (Fm φ _ v));rw[zPM hk ih q (zBq h hE hT hk hv),yAp h hE hT gM gP hF hk ih hv]
theorem zUc:∀(d k:Nat),k+d=x.zA.length-> ∀a b,V (suf (exx D x m T) k) a->V (suf (exx D x m T) k) b->Fm φ (x.zA.length-k) (mul (suf (exx D x m T) k) a b)=mul (suf (exx D2 x m2 T2) k) (Fm φ (x.zA.length-k) a) (Fm φ (x.zA.length-k) b)
 |0,k,hk,a,b,ha,hb=>by
  have hp:=hE.m.p.pos;have fb:=gM.m.p.pos;rw[zBg h hE hT D k (by omega) (by omega)]at ha hb ⊢
  rw[zBg h gM gP D2 k (by omega) (by omega)];have aG:=(zGq _ _).1 ha;have ev:=(zGq _ _).1 hb;have e:∀w:Vec,Fm φ (x.zA.length-k) w=φ w:=fun w=>by rw[Fm,show x.zA.length-k=0 from by omega];rfl
  rw[e,e,e,jN (by omega) D _ _ aG ev,hF.add _ _ aG ev,hF.pr,jN (by omega) D2 _ _ (hF.row _ aG) (hF.row _ ev)]
 |d+1,k,hk,a,b,ha,hb=>by
  have ci:k<x.zA.length:=by omega
  have ih:=zUc d (k+1) (by omega);have hl:=xQ h hE hT;have dZ:=xQ h gM gP;have ok:=uX h hE hT (k:=k+1) (by omega);have po:=zTT h hE hT ci;rw[yB (x:=exx D x m T)]at ha hb ⊢
  rw[yB (x:=exx D2 x m2 T2)];cases a with
  |nil=>exact ha.elim
  |cons a u=>
  cases b with
  |nil=>exact hb.elim
  |cons b v=>
   obtain⟨_,ha⟩:=ha;obtain⟨_,hb⟩:=hb;have eV:=zQT h hE hT ci b.toNat ha;have hm:=yT ok eV hb;rw[show x.zA.length-k=x.zA.length-(k+1)+1 from by omega,zGM,zGM,yN,yN,zEI h hE hT ci,zEI h gM gP ci,<-zPM h hE hT gM gP hF ci ih _ ha,<-ih _ _ eV hb]
   by_cases g:a+b>=at0 x.zA k
   ·rw[if_pos g,if_pos g,zGM,ih _ _ po hm,yDS h hE hT gM gP hF ci]
   ·rw[if_neg g,if_neg g,zGM]
end
theorem zPN{D:Nat}{f:Nat->Int}:∀B:Nat,S (B*D) f=S B fun q=>S D fun l=>f (q*D+l)
 |0=>by rw[Nat.zero_mul];rfl
 |B+1=>by rw[Lo,zEC,zPN B];rfl
def blk(D:Nat)(w:Vec)(q:Nat):Vec:=mkv D fun j=>at0 w (q*D+j)
theorem zUd{B l:Nat}(hq:q<B)(hl:l<D):q*D+l<B*D:=by
 have:=Lp D (show q+1<=B by omega)
 grind
theorem zWX{p:Int}{B:Nat}{w:Vec}(hw:Row p (B*D) w)(hq:q<B):Row p D (blk D w q):=
 ⟨yI _ _,fun j hj=>by rw[blk,zY hj];exact hw.2 _ (zUd hq hj)⟩
theorem zKH{l:Nat}(hl:l<D):(q*D+l)/D=q/\(q*D+l)%D=l:=by grind[Nat.mul_comm,Nat.mul_add_div,Nat.div_eq_of_lt,Nat.mul_add_mod,Nat.mod_eq_of_lt]
def Tc(N D:Nat)(c:Vec):Mx:=gl N fun i=>blk D c i
section
variable {x:SPr}{m:zS}{D:Nat} (hx:zGm x) (hD:MOk x.zA.length m D)
 include hx hD
theorem yAq{D2:Nat}{m2:zS}{T:Mx}(hm:zQJ x.zA.length m2 D2)(ht:T.length=base x.zA.length x.zA.length):ExB x.zA.length D2 x m2 T:=by have _:=hD;refine⟨hx.n6,rfl,hx.pl,hx.cl,fun i hi=>?_,ht,hm⟩;have:=(hx.tl i hi).2.1;omega
theorem yC6(hy:Row m.Prime (base x.zA.length x.zA.length*D) y):ExB x.zA.length D x m (Tc (base x.zA.length x.zA.length) D y)/\ ∀i,i<(Tc (base x.zA.length x.zA.length) D y).length->Row m.Prime D ((Tc (base x.zA.length x.zA.length) D y).getD i []):=by
 refine⟨yAq hx hD hD.b yG,fun i hi=>?_⟩
 grind[Tc,zWX]
end
def zBr(p:Int)(D:Nat)(m:zS):List (Nat×List Nat)->Nat->Nat->Nat->Int
 | [],_,_,_=>0
 |(q,s)::t,r,i,j=>(if q=r then ent (wM p D m.zR s (idM D)) i j else 0)+zBr p D m t r i j
section
variable {p:Int}{D N:Nat}{m:zS}{y:Vec}
theorem zUe{j:Nat}(hj:j<D):∀t:List (Nat×List Nat),(∀q∈t,q.1<N)->at0 (tv p D m (Tc N D y) t) j=(S N fun r=>S D fun i=>at0 y (r*D+i)*zBr p D m t r i j)%p
 | [],_=>by
  show at0 (zeros D) j=_;rw[uN,xL (g:=fun _=>0) fun r _=>by rw[xL (g:=fun _=>0) fun i _=>by rw[zBr,L6],uU],uU]
  rfl
 |(q,s)::t,h=>by
  have hq:q<N:=h (q,s) (by simp);have ih:=zUe hj t (by grind);show at0 (adv p D (wQ p D ((Tc N D y).getD q []) (wM p D m.zR s (idM D))) (tv p D m (Tc N D y) t)) j=_;rw[show adv p D=fun u v=>mkv D fun j=>(at0 u j+at0 v j)%p from rfl];show at0 (mkv D _) j=_;rw[zY hj,ih,wQ,zY hj,<-Kb]
  congr 1
  have e:(S N fun r=>S D fun i=>at0 y (r*D+i)*zBr p D m ((q,s)::t) r i j)=
    (S N fun r=>S D fun i=>at0 y (r*D+i)*(if q=r then ent (wM p D m.zR s (idM D)) i j else 0))+S N fun r=>S D fun i=>at0 y (r*D+i)*zBr p D m t r i j:=by
   rw[<-zCp];refine xL fun r _=>?_
   rw[<-zCp]
   grind[zBr]
  rw[e]
  congr 1
  rw[zAq (k:=q) hq fun r _ hr=>by rw[xL (g:=fun _=>0) (by grind),uU]]
  refine xL fun l hl=>?_
  rw[if_pos rfl,Tc,yY hq,blk,zY hl]
end
def prR(p:Int)(D:Nat)(m:zS)(t1 t2:List (Nat×List Nat))(k:Nat):List Int:=mkv D fun j=>(zBr p D m t1 (k/D) (k%D) j-zBr p D m t2 (k/D) (k%D) j)%p
section
variable {p:Int}{D N:Nat}{m:zS}{y:Vec}
theorem zPO(hp:2<=p)(h1:∀q∈t1,q.1<N)(h2:∀q∈t2,q.1<N):
  (∀j,j<D->(S (N*D) fun k=>at0 y k*at0 (prR p D m t1 t2 k) j)%p=0)↔tv p D m (Tc N D y) t1=tv p D m (Tc N D y) t2:=by
 have e:∀j,j<D->(S (N*D) fun k=>at0 y k*at0 (prR p D m t1 t2 k) j)%p=(at0 (tv p D m (Tc N D y) t1) j-at0 (tv p D m (Tc N D y) t2) j)%p:=fun j hj=>by
  rw[zUe hj t1 h1,zUe hj t2 h2,<-Qzz,zPN];have e1:((S N fun r=>S D fun i=>at0 y (r*D+i)*zBr p D m t1 r i j)-S N fun r=>S D fun i=>at0 y (r*D+i)*zBr p D m t2 r i j)=S N fun r=>S D fun i=>at0 y (r*D+i)*(zBr p D m t1 r i j-zBr p D m t2 r i j):=by
   have:(S N fun r=>S D fun i=>at0 y (r*D+i)*zBr p D m t1 r i j)=(S N fun r=>S D fun i=>at0 y (r*D+i)*(zBr p D m t1 r i j-zBr p D m t2 r i j))+S N fun r=>S D fun i=>at0 y (r*D+i)*zBr p D m t2 r i j:=by
    rw[<-zCp];refine xL fun r _=>?_
    rw[<-zCp]
    grind
   omega
  rw[e1];refine zAe fun r _=>zAe fun i hi=>?_
  grind[zKH,prR,zY,Jv,K2]
 constructor
 ·intro g
  have r1:=zKD (D:=D) (m:=m) (T:=Tc N D y) hp t1;have r2:=zKD (D:=D) (m:=m) (T:=Tc N D y) hp t2;rw[vT r1.1,vT r2.1];refine yH fun j hj=>?_
  have k:=e j hj;rw[g j hj]at k;have b1:=r1.2 j hj;have b2:=r2.2 j hj;have:=Jau (at0 (tv p D m (Tc N D y) t1) j-at0 (tv p D m (Tc N D y) t2) j) (Int.dvd_refl p);have VU:p∣at0 (tv p D m (Tc N D y) t1) j-at0 (tv p D m (Tc N D y) t2) j:=by omega
  obtain⟨c,hc⟩:=VU;have:c=0:=by
   rcases Int.lt_trichotomy c 0 with gI|h0|hgt
   ·have:p*c<=p*(-1):=Qd (by omega) (by omega)
    omega
   ·exact h0
   ·have:p*1<=p*c:=Qd (by omega) (by omega)
    omega
  grind
 simp_all
end
abbrev Trc:=List (Nat×List Nat)
variable {prs:List (Trc×Trc)}
structure PD where
 k:Nat
 wd:List Nat
 t:Nat
 r1:Nat
 s1:List Nat
 w1:List Nat
 r2:Nat
 s2:List Nat
 w2:List Nat
section
variable (x:SPr)
abbrev PD.B(d:PD)(t1 t2:Trc):Prop:=zKG x d.k d.r1 d.s1 d.w1 d.r2 d.s2 d.w2 t1 t2
def ups(n i:Nat):List Nat:=Ke (i+1) (n-(i+1))
def pd2(i j k:Nat):PD:=⟨i,[k,j,i],1,base x.zA.length j+(k-(j+1)),[i],j::(nw 0 (lcj x j k)++[i]),base x.zA.length i+(j-(i+1)),[],k::i::nw 0 (lcj x i j)⟩
def pd1(i j:Nat):PD:=⟨i,J0 (yL x j) j++[i],yL x j-1,j,[i],nw 0 (x.zQ.getD j [])++[i],base x.zA.length i+(j-(i+1)),[],J0 (yL x j-1) j++i::nw 0 (lcj x i j)⟩
def pd4(i j:Nat):PD:=⟨i,j::J0 (yL x i) i,1,base x.zA.length i+(j-(i+1)),J0 (yL x i-1) i,i::(nw 0 (lcj x i j)++J0 (yL x i-1) i),i,[],j::nw 0 (x.zQ.getD i [])⟩
def pd3(i:Nat):PD:=⟨i,J0 (yL x i+1) i,1,i,[i],nw 0 (x.zQ.getD i [])++[i],i,[],i::nw 0 (x.zQ.getD i [])⟩
def cps:List PD:=
 ((Ju x.zA.length).flatMap fun i=>(ups x.zA.length i).flatMap fun j=>(ups x.zA.length j).map fun k=>pd2 x i j k)++
 (((Ju x.zA.length).flatMap fun i=>(ups x.zA.length i).map fun j=>pd1 x i j)++
 (((Ju x.zA.length).flatMap fun i=>(ups x.zA.length i).map fun j=>pd4 x i j)++
 (Ju x.zA.length).map fun i=>pd3 x i))
end
theorem zES:j∈ups n i↔i<j/\j<n:=by grind[ups]
section
variable {x:SPr}
theorem zBi{φ:PD->Prop}:(∀d∈cps x,φ d)↔(∀i j k,i<j->j<k->k<x.zA.length->φ (pd2 x i j k))/\(∀i j,i<j->j<x.zA.length->φ (pd1 x i j))/\(∀i j,i<j->j<x.zA.length->φ (pd4 x i j))/\ ∀i,i<x.zA.length->φ (pd3 x i):=by
 constructor
 ·intro g
  refine⟨fun i j k h1 h2 h3=>g _ ?_,fun i j h1 h2=>g _ ?_,fun i j h1 h2=>g _ ?_,fun i h1=>g _ ?_⟩
  ·exact Gy _ (He.2 ⟨i,by grind,He.2 ⟨j,by grind[zES],Jq.2 ⟨k,zES.2 ⟨h2,h3⟩,rfl⟩⟩⟩)
  ·exact Hb _ (Gy _ (He.2 ⟨i,by grind,Jq.2 ⟨j,zES.2 ⟨h1,h2⟩,rfl⟩⟩))
  ·exact Hb _ (Hb _ (Gy _ (He.2 ⟨i,by grind,Jq.2 ⟨j,zES.2 ⟨h1,h2⟩,rfl⟩⟩)))
  ·exact Hb _ (by grind)
 ·rintro⟨g2,g1,g4,g3⟩ d hd
  simp only[cps,Ji,He,Jq,Ll,zES]at hd
  grind
theorem zQV{T:Mx}:zYQ x D m T↔ ∀d∈cps x,∀t1 t2,d.B x t1 t2->tv m.Prime D m T t1=tv m.Prime D m T t2:=by
 rw[zBi (φ:=fun d=> ∀t1 t2,d.B x t1 t2->tv m.Prime D m T t1=tv m.Prime D m T t2)];constructor
 ·intro g
  exact⟨fun i j k h1 h2 h3=>g.p2 i j k h1 h2 h3,fun i j h1 h2=>g.p1 i j h1 h2,fun i j h1 h2=>g.p4 i j h1 h2,fun i h1=>g.p3 i h1⟩
 ·rintro⟨g2,g1,g4,g3⟩
  exact⟨fun k j h1 h2=>g1 k j h1 h2,fun k i j h1 h2 h3=>g2 k i j h1 h2 h3,fun k hk=>g3 k hk,fun k j h1 h2=>g4 k j h1 h2⟩
theorem zYR(h6:x.zA.length<=7){w:List Nat}(hw:∀a∈w,a<x.zA.length)(h:hdS x w=Wu r):r.1<base x.zA.length x.zA.length:=by
 unfold hdS at h;have hb:=vF x.zA.length (by omega)
 match w,h with
 | [],h=>cases h
 | [a],h=>
  grind[swp,pws]
 |a::b::w,h=>
  have ha:=hw a (by simp);simp only[swp]at h
  by_cases g:b<a
  ·rw[if_pos g]at h
   cases h;have:=zBf x.zA.length (by omega) b (by omega);omega
  ·rw[if_neg g]at h
   grind[pws]
theorem zYS(h6:x.zA.length<=7):∀{w:List Nat}{r:zDZ},(∀a∈w,a<x.zA.length)->stS x w=Wu r->r.1<base x.zA.length x.zA.length
 | [],_,_,h=>by cases h
 |a::w,r,hw,h=>by
  simp only[stS]at h;cases e:hdS x (a::w)with
  |some q=>
   rw[e]at h;cases h;exact zYR h6 hw e
  |none=>
   rw[e]at h;cases e2:stS x w with
   |none=>grind
   |some q=>
    rw[e2]at h;cases h;have:=zYS (w:=w) (r:=q) h6 (by grind) e2;exact this
theorem Col.lt(h6:x.zA.length<=7){w:List Nat}{tr:Trc}(hc:Col x k w tr w'):∀q∈tr,q.1<base x.zA.length x.zA.length:=by
 induction hc with
 |refl w=>simp
 |step hw hs _ ih=>
  intro q hq;rcases Je.1 hq with rfl|hq
  ·exact zYS h6 (by grind) hs
  grind
end
section
variable {x:SPr} (h:Pres x) (h6:x.zA.length<=7)
 include h
theorem zMx{d:PD}{t1 t2 u1 u2:Trc}(hk:d.k<=x.zA.length)(a:d.B x t1 t2)(b:d.B x u1 u2):t1=u1/\t2=u2:=by
 obtain⟨⟨v1,y1,rfl,k1⟩,⟨v2,y2,rfl,k2⟩⟩:=a;obtain⟨⟨v3,y3,rfl,k3⟩,⟨v4,y4,rfl,k4⟩⟩:=b;have nn:=fun(y:Vec)(hy:V (suf x d.k) y)=>zFP h (x.zA.length-d.k) d.k (by omega) y hy
 exact⟨by rw[(Col.det k1.col k3.col (nn _ k1.v) (nn _ k3.v)).1],by rw[(Col.det k2.col k4.col (nn _ k2.v) (nn _ k4.v)).1]⟩
 include h6
theorem zGN:∀d∈cps x,d.k<x.zA.length/\(∀a∈d.wd,a<x.zA.length)/\ ∃t1 t2,d.B x t1 t2/\(∀q∈t1,q.1<base x.zA.length x.zA.length)/\ ∀q∈t2,q.1<base x.zA.length x.zA.length:=by
 have fu:∀i j,i<j->j<x.zA.length-> ∀a∈nw 0 (lcj x i j),i+1<=a/\a<x.zA.length:=fun i j hi hj=>(tL h (uI h hi hj) (by omega)).2
 have fF:∀i,i<x.zA.length-> ∀a∈nw 0 (x.zQ.getD i []),i+1<=a/\a<x.zA.length:=fun i hi=>(tL h (jP h hi) hi).2
 have eY:=vF x.zA.length (by omega);have mN:=fun i(hi:i<x.zA.length)=>zBf x.zA.length (by omega) i hi
 have key:∀(d:PD),d.k<x.zA.length->(∀a∈d.wd,a<x.zA.length)->d.r1<base x.zA.length x.zA.length->d.r2<base x.zA.length x.zA.length->(∀a∈d.w1,d.k<=a/\a<x.zA.length)->(∀a∈d.w2,d.k<=a/\a<x.zA.length)->d.k<x.zA.length/\(∀a∈d.wd,a<x.zA.length)/\ ∃t1 t2,d.B x t1 t2/\(∀q∈t1,q.1<base x.zA.length x.zA.length)/\ ∀q∈t2,q.1<base x.zA.length x.zA.length:=by
  intro d hk bz b1 b2 c1 c2;obtain⟨u1,y1,k1⟩:=zWW h (x.zA.length-d.k) d.k (by omega) d.w1 c1;obtain⟨u2,y2,k2⟩:=zWW h (x.zA.length-d.k) d.k (by omega) d.w2 c2;refine⟨hk,bz,_,_,⟨⟨u1,y1,rfl,k1⟩,⟨u2,y2,rfl,k2⟩⟩,fun q hq=>?_,fun q hq=>?_⟩
  ·rcases Je.1 hq with rfl|hq
   ·exact b1
   ·exact k1.col.lt h6 q hq
  ·rcases Je.1 hq with rfl|hq
   ·exact b2
   ·exact k2.col.lt h6 q hq
 refine zBi.2 ⟨fun i j k h1 h2 h3=>key _ ?_ ?_ ?_ ?_ ?_ ?_,fun i j h1 h2=>key _ ?_ ?_ ?_ ?_ ?_ ?_,fun i j h1 h2=>key _ ?_ ?_ ?_ ?_ ?_ ?_,fun i h1=>key _ ?_ ?_ ?_ ?_ ?_ ?_⟩
 ·show i<_;omega
 ·intro a ha
  simp only[pd2,Je,Gm,or_false]at ha;omega
 ·have:=mN j (by omega);show base _ j+(k-(j+1))<_;omega
 ·have:=mN i (by omega);show base _ i+(j-(i+1))<_;omega
 ·intro a ha
  simp only[pd2,Je,Ji,Gm,or_false]at ha ⊢
  rcases ha with rfl|ha|rfl
  ·omega
  ·grind
  ·omega
 ·intro a ha
  simp only[pd2,Je]at ha ⊢
  rcases ha with rfl|rfl|ha
  ·omega
  ·omega
  grind
 ·show i<_;omega
 ·intro a ha
  simp only[pd1,Ji,List.mem_singleton]at ha;rcases ha with ha|rfl
  ·grind
  ·omega
 ·show j<_;omega
 ·have:=mN i (by omega);show base _ i+(j-(i+1))<_;omega
 ·intro a ha
  simp only[pd1,Ji,List.mem_singleton]at ha ⊢
  rcases ha with ha|rfl
  ·grind
  ·omega
 ·intro a ha
  simp only[pd1,Ji,Je]at ha ⊢
  rcases ha with ha|rfl|ha
  ·grind
  ·omega
  grind
 ·show i<_;omega
 ·intro a ha
  simp only[pd4,Je]at ha;rcases ha with rfl|ha
  ·omega
  grind
 ·have:=mN i (by omega);show base _ i+(j-(i+1))<_;omega
 ·show i<_;omega
 ·intro a ha
  simp only[pd4,Je,Ji]at ha ⊢
  rcases ha with rfl|ha|ha
  ·omega
  ·grind
  grind
 ·intro a ha
  simp only[pd4,Je]at ha ⊢
  rcases ha with rfl|ha
  ·omega
  grind
 ·exact h1
 ·intro a ha
  have:=Lj (show a∈J0 _ i from ha);omega
 ·show i<_;omega
 ·show i<_;omega
 ·intro a ha
  simp only[pd3,Ji,List.mem_singleton]at ha ⊢
  rcases ha with ha|rfl
  ·grind
  ·omega
 ·intro a ha
  simp only[pd3,Je]at ha ⊢
  rcases ha with rfl|ha
  ·omega
  grind
end
theorem zJB{α:Type}{F:α->Vec}{D:Nat}(hF:∀a,(F a).length=D):∀L:List α,((L.map F).flatten).length=L.length*D
 | []=>by simp
 |a::L=>by rw[Jr,G9,J5,hF,zJB hF L,J8,Lo];omega
theorem zIe{α:Type}{F:α->Vec}{D:Nat}(hF:∀a,(F a).length=D):∀(L:List α)(i j:Nat)(hi:i<L.length),j<D->at0 ((L.map F).flatten) (i*D+j)=at0 (F L[i]) j
 | [],i,j,hi,_=>by simp at hi
 |a::L,i,j,hi,hj=>by
  have hl:=hF a;rw[Jr,G9];cases i with
  |zero=>
   grind
  |succ i=>
   have ih:=zIe hF L i j (by grind) hj
   grind
def zAj(p:Int)(D:Nat)(m:zS)(prs:List (Trc×Trc))(k:Nat):List Int:=(prs.map fun q=>prR p D m q.1 q.2 k).flatten
theorem zIf{p:Int}(prs:List (Trc×Trc)):(zAj p D m prs k).length=prs.length*D:=zJB (F:=fun q:Trc×Trc=>prR p D m q.1 q.2 k) (fun _=>yI _ _) prs
theorem zUf{p:Int}(hp:2<=p)(hl:∀q∈prs,(∀r∈q.1,r.1<N)/\ ∀r∈q.2,r.1<N):
  (∀c,c<prs.length*D->(S (N*D) fun k=>at0 y k*ent (gl (N*D) fun k=>zAj p D m prs k) k c)%p=0)↔ ∀q∈prs,tv p D m (Tc N D y) q.1=tv p D m (Tc N D y) q.2:=by
 have e:∀i j(hi:i<prs.length),j<D->(S (N*D) fun k=>at0 y k*ent (gl (N*D) fun k=>zAj p D m prs k) k (i*D+j))=S (N*D) fun k=>at0 y k*at0 (prR p D m prs[i].1 prs[i].2 k) j:=fun i j hi hj=>by
  refine xL fun k hk=>?_
  show at0 y k*at0 ((gl (N*D) fun k=>zAj p D m prs k).getD k []) (i*D+j)=_
  grind[zAj,zIe,prR,yI]
 constructor
 ·intro g q hq
  obtain⟨i,hi,rfl⟩:=Hy.1 hq;refine(zPO hp (hl _ hq).1 (hl _ hq).2).1 fun j hj=>?_
  rw[<-e i j hi hj];exact g _ (zUd hi hj)
 ·intro g c hc
  have hD:0<D:=by grind
  have hi:c/D<prs.length:=(Nat.div_lt_iff_lt_mul hD).2 hc;have hj:c%D<D:=Nat.mod_lt _ hD;have hm:=Jp hi;rw[show c=c/D*D+c%D from by grind[Nat.div_add_mod],e _ _ hi hj];exact(zPO hp (hl _ hm).1 (hl _ hm).2).2 (g _ hm) _ hj
def qS(x:SPr):List PD->List (Trc×Trc)->Prop
 | [],[]=>True
 |d::ds,q::qs=>d.B x q.1 q.2/\qS x ds qs
 |_,_=>False
theorem qS.len{x:SPr}:{ds:List PD}->{qs:List (Trc×Trc)}->qS x ds qs->ds.length=qs.length
 | [],[],_=>rfl
 |d::ds,q::qs,h=>by rw[J8,J8,qS.len h.2]
 | [],_::_,h=>by simp[qS]at h
 |_::_,[],h=>by simp[qS]at h
theorem qS.all{x:SPr}{φ:Trc×Trc->Prop}:{ds:List PD}->{qs:List (Trc×Trc)}->qS x ds qs->(∀d∈ds,∀t1 t2,d.B x t1 t2->φ (t1,t2))-> ∀q∈qs,φ q
 | [],[],_,_,q,hq=>by cases hq
 |d::ds,q::qs,h,g,r,hr=>by
  rcases Je.1 hr with rfl|hr
  ·exact g d (by simp) _ _ h.1
  ·exact qS.all h.2 (by grind) r hr
 | [],_::_,h,_,_,_=>by simp[qS]at h
 |_::_,[],h,_,_,_=>by grind
theorem qS.of{x:SPr}{φ:Trc×Trc->Prop}:{ds:List PD}->{qs:List (Trc×Trc)}->qS x ds qs->(∀q∈qs,φ q)-> ∀d∈ds,∃t1 t2,d.B x t1 t2/\φ (t1,t2)
 | [],[],_,_,d,hd=>by cases hd
 |d::ds,q::qs,h,g,r,hr=>by
  rcases Je.1 hr with rfl|hr
  ·exact⟨q.1,q.2,h.1,g q (by simp)⟩
  ·exact qS.of h.2 (by grind) r hr
 | [],_::_,h,_,_,_=>by grind
 |_::_,[],h,_,_,_=>by simp[qS]at h
section
variable {x:SPr}{m:zS}{D:Nat} (hx:zGm x) (hD:MOk x.zA.length m D)
 include hx hD
theorem zUg(hq:qS x (cps x) prs)(hc:xS (suf x 0))(hr:zII x m D)(hy:Row m.Prime (base x.zA.length x.zA.length*D) y):
  (∀c,c<prs.length*D->(S (base x.zA.length x.zA.length*D) fun k=>at0 y k*ent (gl (base x.zA.length x.zA.length*D) fun k=>zAj m.Prime D m prs k) k c)%m.Prime=0)↔xS (suf (exx D x m (Tc (base x.zA.length x.zA.length) D y)) 0):=by
 have hp:=hD.p.pos;have cE:=zGN hx.toPres hx.n6;have gI:∀q∈prs,(∀r∈q.1,r.1<base x.zA.length x.zA.length)/\ ∀r∈q.2,r.1<base x.zA.length x.zA.length:=hq.all fun d hd t1 t2 hb=>by
  obtain⟨hk,_,u1,u2,cH,l1,l2⟩:=cE d hd;obtain⟨rfl,rfl⟩:=zMx hx.toPres (by omega) hb cH
  grind
 obtain⟨e1,e2⟩:=yC6 hx hD hy;rw[zUf (by omega) gI,<-zQU hx.toPres e1 e2 hc hr,zQV];constructor
 ·intro g d hd t1 t2 hb
  obtain⟨u1,u2,cH,e⟩:=hq.of (φ:=fun q=>tv m.Prime D m (Tc (base x.zA.length x.zA.length) D y) q.1=tv m.Prime D m (Tc (base x.zA.length x.zA.length) D y) q.2) g d hd;obtain⟨rfl,rfl⟩:=zMx hx.toPres (by grind) hb cH;exact e
 ·intro g
  exact hq.all (by omega)
theorem yAr:∃prs,qS x (cps x) prs:=by
 have _:=hD;have cE:=zGN hx.toPres hx.n6
 revert cE
 generalize cps x=ds
 intro cE
 induction ds with
 |nil=>exact⟨[],trivial⟩
 |cons d ds ih=>
  obtain⟨qs,hq⟩:=ih (by grind);obtain⟨_,_,t1,t2,hb,_⟩:=cE d (by simp);exact⟨(t1,t2)::qs,hb,hq⟩
end
theorem tT{w:List Nat}{t:Nat}(h:t<w.length:=by omega):ixO (enW w) (t:Int)=Wu (((w.getD t 0:Nat):Int)+1):=by
 rw[yS 0 (by grind)]
 grind
theorem qF{w:List Nat}{t:Nat}(h:t<w.length:=by omega):w.drop t=w.getD t 0::w.drop (t+1):=by grind[Ku]
theorem zDr{w:List Nat}{b:Nat}(h1:a<=b)(h2:b<=w.length:=by omega):zT (enW w) (a:Int) (b:Int)=Wu (enW ((w.drop a).take (b-a))):=by
 unfold zT
 simp_all
theorem zUh{w:List Nat}{t o:Nat}{L:Int->Option (Int⊕(Unit⊕Bool))}(hL:L=zO6 (enW w) (t:Int) (enW ((w.drop t).take o))\/L=zO7 (enW w) (t:Int) (enW ((w.drop t).take o)))(ht:t<w.length)(ho:t+o<=w.length)(hl:w.length<=1000000):
  zF L 0=Wu (if decide ((w.drop t).take o=J0 o (w.getD t 0))then .inl ()else .inr Wx):=by
 have gm:((w.drop t).take o).length=o:=by grind
 have bj:(enW ((w.drop t).take o)).length=o:=by grind
 have ck:∀i,i<o->((w.drop t).take o).getD i 0=w.getD (t+i) 0:=by grind
 have hb:∀i,i<o->L (i:Int)=Wu (if(w.getD (t+i) 0==w.getD t 0)then .inl ((i+1:Nat):Int)else .inr (.inr Wx)):=fun i hi=>by
  have e1:ixO (enW ((w.drop t).take o)) (i:Int)=Wu (((w.getD (t+i) 0:Nat):Int)+1):=by grind[tT]
  have e2:(((w.getD (t+i) 0:Nat):Int)+1 != ((w.getD t 0:Nat):Int)+1)= !(w.getD (t+i) 0==w.getD t 0):=by grind
  rcases hL with rfl|rfl<;>
  ·first|unfold zO6|unfold zO7
   rw[bj,xD hi,zK,e1,bs,tT ht,bs,e2]
   by_cases g:(w.getD (t+i) 0==w.getD t 0)=Ww
   ·rw[g,K7,zL,zB,bs,cs];rfl
   grind
 have he:L (o:Int)=Wu (.inr (.inl ())):=by
  rcases hL with rfl|rfl
  ·unfold zO6
   grind
  ·unfold zO7
   grind
 rw[zJw o (fun i=>w.getD (t+i) 0==w.getD t 0) (by grind) (fun _=>he)]
 congr 1
 have VK:(Ju o).all (fun i=>w.getD (t+i) 0==w.getD t 0)=decide ((w.drop t).take o=J0 o (w.getD t 0)):=by
  rw[Bool.eq_iff_iff,Ka,decide_eq_true_iff];constructor
  ·intro g
   refine Qj (by grind) fun i h1 h2=>?_
   have:=g i (by grind)
   grind
  grind
 rw[VK]
section
variable {x:SPr} (h:Pres x)
 include h
theorem qO(ha:a<x.zA.length):ixO x.zA (a:Int)=Wu ((yL x a:Nat):Int)/\2<=yL x a/\yL x a<=7:=by
 have hp:=(h.os.2 a ha).pos;rw[yS 0 ha]
 grind
theorem zUi{w:List Nat}{t:Nat}(ht:t<w.length):(pws x (w.drop t)).isSome=decide (t+yL x (w.getD t 0)<=w.length/\(w.drop t).take (yL x (w.getD t 0))=J0 (yL x (w.getD t 0)) (w.getD t 0)):=by
 have _:=h;have hd:=qF ht
 by_cases g:(w.drop t).take (yL x (w.getD t 0))=J0 (yL x (w.getD t 0)) (w.getD t 0)
 ·have hl:=zBC g
  rw[K8]at hl;rw[Wz ⟨by omega,g⟩];rw[hd]at g ⊢
  simp only[pws]
  grind
 ·rw[Wy fun z=>g z.2]
  rw[hd]at g ⊢
  simp only[pws]
  grind
theorem zIg{w:List Nat}(hw:∀a∈w,a<x.zA.length)(hl:w.length<=1000000){t:Nat}(ht:t<w.length):f_D x (enW w) (t:Int)=Wu (hdS x (w.drop t)).isSome:=by
 have ha:w.getD t 0<x.zA.length:=by grind[Jp]
 obtain⟨o1,o2,o3⟩:=qO h ha;have gm:(enW w).length=w.length:=by simp
 have hd:=qF ht;have a1:((w.getD t 0:Nat):Int)+1-1=((w.getD t 0:Nat):Int):=by omega
 have a2:(t:Int)+((yL x (w.getD t 0):Nat):Int)=((t+yL x (w.getD t 0):Nat):Int):=by omega
 have h9:=h.os.1;have fin:∀L:List Int->Int->Option (Int⊕(Unit⊕Bool)),(∀o,L (enW ((w.drop t).take o))=zO6 (enW w) (t:Int) (enW ((w.drop t).take o))\/L (enW ((w.drop t).take o))=zO7 (enW w) (t:Int) (enW ((w.drop t).take o)))->
   (cond (decide (((t+yL x (w.getD t 0):Nat):Int)> ((w.length:Nat):Int))) (Wu Wx) ((Wu ((t+yL x (w.getD t 0):Nat):Int)).bind fun v9=>(zT (enW w) (t:Int) v9).bind fun v10=>(zF (L v10) 0).bind fun r14=>match r14 with|(.inl _)=>Wu Ww|(.inr r14)=>Wu r14))=Wu (pws x (w.drop t)).isSome:=by
  intro L hL;rw[zUi h ht]
  by_cases g:t+yL x (w.getD t 0)<=w.length
  ·rw[Wy (by omega),zL,bs,zDr (by omega) g,bs,Gx,zUh (hL _) ht g hl,bs]
   grind
  grind
 unfold f_D;rw[gm,zB,bs]
 by_cases g:t+1<w.length
 ·have pT:=qF g
  rw[Wz,zK,tT ht,bs,bs,show(t:Int)+1=((t+1:Nat):Int)from by omega,tT g,bs]
  by_cases g2:w.getD (t+1) 0<w.getD t 0
  ·rw[Wz,zK,hd,pT]
   unfold hdS;simp only[swp]
   grind
  ·rw[Wy (by omega),zL,bs,a1,zB,bs,o1,bs,a2,zB,bs]
   refine(fin (fun v=>zO6 (enW w) (t:Int) v) fun o=>.inl rfl).trans ?_;have:swp x (w.drop t)=Wv:=by rw[hd,pT];simp only[swp];grind
   grind[hdS]
 ·rw[Wy (by omega),zL,tT ht,bs,a1,zB,bs,o1,bs,a2,zB,bs]
  refine(fin (fun v=>zO7 (enW w) (t:Int) v) fun o=>.inr rfl).trans ?_
  grind[swp,hdS]
end
def stI(x:SPr):List Nat->Option (Nat×zDZ)
 | []=>Wv
 |a::w=>match hdS x (a::w)with
  |some r=>Wu (0,r)
  |none=>(stI x w).map fun z=>(z.1+1,z.2)
section
variable {x:SPr}
theorem zKI:∀w:List Nat,stS x w=(stI x w).map fun z=>(z.2.1,z.2.2.1,w.take z.1++z.2.2.2)
 | []=>rfl
 |a::w=>by
  simp only[stS,stI];cases hdS x (a::w)with
  |some r=>rfl
  |none=>
   rw[zKI w];cases stI x w with
   |none=>rfl
   |some z=>rfl
theorem zPP:∀{w:List Nat}{z:Nat×zDZ},stI x w=Wu z->z.1<w.length/\hdS x (w.drop z.1)=Wu z.2
 | [],_,h=>by cases h
 |a::w,z,h=>by
  simp only[stI]at h;cases e:hdS x (a::w)with
  |some r=>
   grind
  |none=>
   rw[e]at h;cases e2:stI x w with
   |none=>grind
   |some q=>
    rw[e2]at h;cases h;obtain⟨h1,h2⟩:=zPP e2
    grind
theorem zMy:∀(k i:Nat)(w:List Nat),i+k=w.length->(Ke i k).findSome? (fun j=>if(hdS x (w.drop j)).isSome then Wu (j:Int)else Wv)=(stI x (w.drop i)).map fun z=>((i+z.1:Nat):Int)
 |0,i,w,h=>by rw[Hf (by omega)];rfl
 |k+1,i,w,h=>by
  rw[L3,Jaq,qF];simp only[stI];cases e:hdS x (w.getD i 0::w.drop (i+1))with
  |some r=>rfl
  |none=>
   simp only[Ui,Hg,if_false];rw[zMy k (i+1) w (by omega)];cases stI x (w.drop (i+1))with
   |none=>rfl
   |some z=>
    grind
section
variable (h:Pres x)
 include h
theorem zBD{w:List Nat}(hw:∀a∈w,a<x.zA.length)(hl:w.length<=1000000):zRJ x (enW w)=Wu (match stI x w with|some z=>(z.1:Int)|none=> -1):=by
 have gm:(enW w).length=w.length:=by simp
 unfold zRJ;have:=zJv (body:=zNa x (enW w)) w.length (fun j=>if(hdS x (w.drop j)).isSome then Wu (j:Int)else Wv) 0 (K4 _) (fun i _ hi _=>by
  unfold zNa;rw[gm,xD hi,zK,zIg h hw hl hi,bs];cases hdS x (w.drop i)with
  |some r=>rfl
  |none=>
   simp only[Ui];rw[zL,zB,bs,cs];rfl) (fun _=>by
  unfold zNa;simp)
 rw[show((0:Nat):Int)=0 from rfl,Li,zMy w.length 0 w (by omega),Hr]at this;rw[this,bs];cases stI x w with
 |none=>rfl
 |some z=>simp only[H9,zLV,Jd]
theorem zIh(hn:x.zA.length<=7)(hv:zZQ x.zA v):f_C v=Wu (enW (nw 0 v))/\(nw 0 v).length<=42:=by
 have hb:∀i,i<v.length->0<=at0 v i/\at0 v i<=6:=fun i hi=>by have h1:=hv.2 i hi;have h2:=(h.os.2 i (by grind)).pos;omega
 have:=zNG 0 v (by grind);have hl:=hv.1
 grind[zG1]
theorem zCQ(hn:x.zA.length<=7){w:List Nat}(hw:∀a∈w,a<x.zA.length)(hl:w.length<=900000){t:Nat}(ht:t<w.length)(hr:hdS x (w.drop t)=Wu r):zRA x (enW w) (t:Int)=Wu (enW (w.take t++r.2.2)):=by
 have gy:∀i,i<w.length->w.getD i 0<x.zA.length:=by grind[Jp]
 have ha:=gy t ht;obtain⟨o1,o2,o3⟩:=qO h ha;have gm:(enW w).length=w.length:=by simp
 have hd:=qF ht;have a1:((w.getD t 0:Nat):Int)+1-1=((w.getD t 0:Nat):Int):=by omega
 have a2:(t:Int)+((yL x (w.getD t 0):Nat):Int)=((t+yL x (w.getD t 0):Nat):Int):=by omega
 obtain⟨p1,p2⟩:=zIh h hn (h.tl _ ha).1.1;have h0:zT (enW w) 0 (t:Int)=Wu (enW (w.take t)):=by
  have:=zDr (w:=w) (K4 t)
  grind
 have hs:∀q,q<=w.length->zT (enW w) (q:Int) (w.length:Int)=Wu (enW (w.drop q)):=fun q hq=>by rw[zDr hq (J9 _),Jt (by simp)]
 have pw:swp x (w.drop t)=Wv->(rng (((w.getD t 0:Nat):Int)+1-1)).bind (fun v3=>(zT (enW w) 0 (t:Int)).bind fun v4=>(ixO x.zQ v3).bind fun v5=>(f_C v5).bind fun r6=>(ixO x.zA v3).bind fun v7=>(rng ((t:Int)+v7)).bind fun v8=>(zT (enW w) v8 (w.length:Int)).bind fun v9=>(f_u [v4,r6,v9]).bind fun r10=>Wu r10)=Wu (enW (w.take t++r.2.2)):=fun aw=>by
  unfold hdS at hr;rw[aw]at hr;simp only at hr;rw[hd]at hr;simp only[pws]at hr;split at hr
  ·rename_i g
   have eg:=zBC g;rw[<-hd,K8]at eg;cases hr;rw[a1,zB,bs,h0,bs,yS [] (by rw[h.pl];exact ha),bs,p1,bs,o1,bs,a2,zB,bs,hs _ (by omega),bs,zBd (by simp) (by simp only[G9,Jbr,J5,Jm,Kv,K8,Kh,enW];omega),bs]
   simp_all
  ·cases hr
 unfold zRA;rw[gm,zB,bs]
 by_cases g:t+1<w.length
 ·have pT:=qF g
  have hb:=gy _ g;rw[Wz,zK,tT ht,bs,bs,show(t:Int)+1=((t+1:Nat):Int)from by omega,tT g,bs]
  by_cases g2:w.getD (t+1) 0<w.getD t 0
  ·rw[hd,pT]at hr
   unfold hdS at hr;simp only[swp]at hr;rw[if_pos g2]at hr;cases hr;have fC:=h.tl _ hb;have iz:=fC.2.2 (w.getD t 0-(w.getD (t+1) 0+1)) (by have:=fC.2.1;omega);obtain⟨q1,q2⟩:=zIh h hn iz.1;have b1:((w.getD (t+1) 0:Nat):Int)+1-1=((w.getD (t+1) 0:Nat):Int):=by omega
   have b2:((w.getD t 0:Nat):Int)-((w.getD (t+1) 0:Nat):Int)-1=((w.getD t 0-(w.getD (t+1) 0+1):Nat):Int):=by omega
   rw[Wz,zK,bs,a1,zB,bs,bs,tT g,bs,b1,zB,bs,h0,bs,zB,bs,yS [] (by rw[h.cl];exact hb),bs,zB,bs,b2,zB,bs,yS [] (by have:=fC.2.1;omega),bs,q1,bs,zB,bs,show(t:Int)+2=((t+2:Nat):Int)from by omega,hs _ (by omega),bs,zBd (by simp) (by simp only[G9,Jbr,J5,Jm,Kv,K8,Kh,J8,enW];omega),bs];simp
  ·rw[Wy (by omega),zL,bs]
   exact pw (by rw[hd,pT];simp only[swp];grind)
 ·rw[Wy (by omega),zL,tT ht,bs]
  exact pw (by rw[hd,Hf (by omega)];rfl)
end
end
def smx(p:Int)(D N:Nat)(F:Nat->Nat->Nat->Int):List zM:=gl N fun r=>zM.mk p (D:Int) (gl D fun i=>mkv D fun j=>F r i j%p)
def upd(F:Nat->Nat->Nat->Int)(s:Int)(r0:Nat)(A:Mx)(c:Nat):Nat->Nat->Nat->Int:=fun r i j=>F r i j+if r=r0/\i<c then s*ent A i j else 0
theorem zBE{β:Type}{f g:Nat->β}(h:∀i,i<n->f i=g i):gl n f=gl n g:=by simp_all
section
variable {x:SPr}{m:zS}{D N:Nat}{s:Int}{r0:Nat}{A:Mx}{T0:List zM}
theorem zJC(hp:Prime m.Prime)(hD:D<=3)(_:N<=100)(hs:-7<=s/\s<=7)(hr:r0<N)(hA:Mat m.Prime D A){F:Nat->Nat->Nat->Int}{L:(List zM)×Int->Option (((List zM)×Int)⊕(List zM))}
  (hL:L=zV8 ⟨x,m,T0⟩ s (r0:Int) (zM.mk m.Prime (D:Int) A)\/L=zV9 ⟨x,m,T0⟩ s (r0:Int) (zM.mk m.Prime (D:Int) A)\/L=zVA ⟨x,m,T0⟩ s (r0:Int) (zM.mk m.Prime (D:Int) A)):
  zF L (smx m.Prime D N F,0)=Wu (smx m.Prime D N (upd F s r0 A D)):=by
 have fb:=hp.pos;have ak:=hA.1;have gE:∀c,c<D-> ∀(k:Nat),(c:Int)+1=(k:Int)->((ixO A (c:Int)).bind fun v10=>(ixO (smx m.Prime D N (upd F s r0 A c)) (r0:Int)).bind fun v11=>(ixO v11.Rows (c:Int)).bind fun v12=>(f_s v12 v10 s m.Prime).bind fun r13=>(rng ((c:Int)+1)).bind fun v14=>
   (Wu (.inl ((smx m.Prime D N (upd F s r0 A c)).set (r0:Int).toNat (zM.mk v11.Prime v11.wP (v11.Rows.set (c:Int).toNat r13)),v14)):Option (((List zM)×Int)⊕(List zM))))=Wu (.inl (smx m.Prime D N (upd F s r0 A (c+1)),((c+1:Nat):Int))):=fun c hc k _=>by
  have fD:Row m.Prime D (mkv D fun j=>upd F s r0 A c r0 c j%m.Prime):=⟨yI _ _,fun j hj=>by rw[zY hj];exact⟨Kl _ (by omega),by have:=K9 (upd F s r0 A c r0 c j) (show 0<m.Prime by omega);omega⟩⟩
  rw[yS [],bs,smx,vM hr,bs];simp only
  rw[vM hc,bs,zDl hp fD (hA.2 c hc) hs (by omega),bs,zB,bs,J7,J7,zAG,zAG,cs]
  congr 3
  refine zBE fun r _=>?_
  by_cases g:r=r0
  ·rw[if_pos g,g]
   congr 1
   refine zBE fun i _=>?_
   by_cases g2:i=c
   ·rw[if_pos g2,g2,tN]
    refine yH fun j hj=>?_
    rw[zY hj,upd,upd,if_neg (by simp),if_pos (by simp),Kf];simp
   ·rw[if_neg g2]
    refine yH fun j hj=>?_
    rw[upd,upd]
    grind
  ·rw[if_neg g]
   congr 1
   refine zBE fun i _=>yH fun j _=>?_
   rw[upd,upd,if_neg (fun z=>g z.1),if_neg (fun z=>g z.1)]
 have:=zN (body:=L) (r:=smx m.Prime D N (upd F s r0 A D)) (fun c=>(smx m.Prime D N (upd F s r0 A c),(c:Int))) D (fun c hc=>by
  rcases hL with rfl|rfl|rfl
  ·unfold zV8
   grind
  ·unfold zV9
   grind
  ·unfold zVA
   grind) (by
  rcases hL with rfl|rfl|rfl
  ·unfold zV8
   grind
  ·unfold zV9
   grind
  ·unfold zVA
   grind)
 rw[show smx m.Prime D N (upd F s r0 A 0)=smx m.Prime D N F from zBE fun r _=>by
  congr 1
  refine zBE fun i _=>yH fun j _=>?_
  rw[upd,if_neg (by simp),Kf]]at this
 exact this
end
theorem zUj:∀n:Nat,n<8-> ∀j:Nat,j<n-> ∀i:Nat,i<j->((rng ((n:Int)-1)).bind fun v10=>(rng ((i:Int)*v10)).bind fun v11=>(rng ((n:Int)+v11)).bind fun v12=>(rng ((i:Int)-1)).bind fun v13=>(rng ((i:Int)*v13)).bind fun v14=>(vP v14 2).bind fun v15=>(rng (v12-v15)).bind fun v16=>(rng (v16+(j:Int))).bind fun v17=>(rng (v17-(i:Int))).bind fun v18=>(rng (v18-1)).bind fun v19=>Wu v19)=Wu ((base n i+(j-(i+1)):Nat):Int):=by decide+kernel
section
variable {x:SPr}{m:zS}{D:Nat}{T0:List zM} (h:Pres x) (hn:x.zA.length<=7) (hD:MOk x.zA.length m D)
 include h hn
theorem zG2{w:List Nat}(hw:∀a∈w,a<x.zA.length)(hl:w.length<=900000){t:Nat}(ht:t<w.length)(hr:hdS x (w.drop t)=Wu r):zXM ⟨x,m,T0⟩ (enW w) (t:Int)=Wu (r.1:Int):=by
 have _:=h;have gy:∀i,i<w.length->w.getD i 0<x.zA.length:=by grind[Jp]
 have ha:=gy t ht;have gm:(enW w).length=w.length:=by simp
 have hd:=qF ht;have a1:((w.getD t 0:Nat):Int)+1-1=((w.getD t 0:Nat):Int):=by omega
 have pw:swp x (w.drop t)=Wv->(rng (((w.getD t 0:Nat):Int)+1-1)).bind (fun v3=>Wu v3)=Wu (r.1:Int):=by grind[hdS,pws,zB]
 unfold zXM;rw[gm,zB,bs]
 by_cases g:t+1<w.length
 ·have pT:=qF g
  have hb:=gy _ g;rw[Wz,zK,tT ht,bs,bs,show(t:Int)+1=((t+1:Nat):Int)from by omega,tT g,bs]
  by_cases g2:w.getD (t+1) 0<w.getD t 0
  ·rw[hd,pT]at hr
   unfold hdS at hr;simp only[swp]at hr;rw[if_pos g2]at hr;cases hr;have b1:((w.getD (t+1) 0:Nat):Int)+1-1=((w.getD (t+1) 0:Nat):Int):=by omega
   rw[Wz,zK,bs,a1,zB (n:=((w.getD t 0:Nat):Int)),bs,bs,tT g,bs,b1,zB (n:=((w.getD (t+1) 0:Nat):Int)),bs]
   grind[zUj]
  ·rw[Wy (by omega),zL,bs]
   exact pw (by rw[hd,pT];simp only[swp];grind)
 ·rw[Wy (by omega),zL,tT ht,bs]
  exact pw (by rw[hd,Hf (by omega)];rfl)
 include hD
theorem zFQ{w:List Nat}(hw:∀a∈w,a<x.zA.length)(hl:w.length<=80000){t:Nat}(ht:t<w.length)(hr:hdS x (w.drop t)=Wu r){s:Int}(hs:-7<=s/\s<=7){F:Nat->Nat->Nat->Int}:
  f_j ⟨x,m,smx m.Prime D (base x.zA.length x.zA.length) F⟩ (enW w) (t:Int) s=Wu (enW (w.take t++r.2.2),⟨x,m,smx m.Prime D (base x.zA.length x.zA.length) (upd F s r.1 (wM m.Prime D m.zR r.2.1 (idM D)) D)⟩):=by
 have hp:=hD.p.pos;have h3:=hD.d3;have eY:=vF x.zA.length (by omega);have gy:∀i,i<w.length->w.getD i 0<x.zA.length:=by grind[Jp]
 have ha:=gy t ht;obtain⟨o1,o2,o3⟩:=qO h ha;have gm:(enW w).length=w.length:=by simp
 have hd:=qF ht;have a1:((w.getD t 0:Nat):Int)+1-1=((w.getD t 0:Nat):Int):=by omega
 have a2:(t:Int)+((yL x (w.getD t 0):Nat):Int)=((t+yL x (w.getD t 0):Nat):Int):=by omega
 have hr0:=zYR hn (by grind) hr;have hA:∀z,Mat m.Prime D (wM m.Prime D m.zR z (idM D)):=by grind[zHL,tX]
 have gC:∀q,q<=w.length->zT (enW w) (q:Int) (w.length:Int)=Wu (enW (w.drop q)):=fun q hq=>by rw[zDr hq (J9 _),Jt (by simp)]
 have ux:∀q,q<=w.length->zOw m (enW (w.drop q))=Wu (zM.mk m.Prime (D:Int) (wM m.Prime D m.zR (w.drop q) (idM D))):=fun q hq=>
  zIH hD (by omega) (by grind) (by grind)
 have pw:swp x (w.drop t)=Wv->r.2.1=w.drop (t+yL x (w.getD t 0))/\t+yL x (w.getD t 0)<=w.length:=fun aw=>by
  unfold hdS at hr;rw[aw]at hr;simp only at hr;rw[hd]at hr;simp only[pws]at hr;split at hr
  ·rename_i g
   have eg:=zBC g
   grind[List.drop_drop]
  ·cases hr
 unfold f_j;rw[zG2 h hn hw (by omega) ht hr,bs,zCQ h hn hw (by omega) ht hr,bs,gm,zB,bs]
 by_cases g:t+1<w.length
 ·have pT:=qF g
  have hb:=gy _ g;rw[Wy (by omega),zL,tT ht,bs,bs,show(t:Int)+1=((t+1:Nat):Int)from by omega,tT g,bs]
  by_cases g2:w.getD (t+1) 0<w.getD t 0
  ·rw[hd,pT]at hr
   unfold hdS at hr;simp only[swp]at hr;rw[if_pos g2]at hr;cases hr;rw[Wy (by omega),zL,zB,bs,show(t:Int)+2=((t+2:Nat):Int)from by omega,gC _ (by omega),bs,ux _ (by omega),bs,zJC hD.p h3 (by omega) hs hr0 (hA _) (.inr (.inr rfl)),bs]
  ·obtain⟨e1,e2⟩:=pw (by rw[hd,pT];simp only[swp];grind)
   rw[Wz,zK,bs,a1,zB,bs,o1,bs,a2,zB,bs,gC _ e2,bs,ux _ e2,bs,zJC hD.p h3 (by omega) hs hr0 (hA _) (.inr (.inl rfl)),bs,e1]
 ·obtain⟨e1,e2⟩:=pw (by rw[hd,Hf (by omega)];rfl)
  omega
end
inductive Cb (x:SPr) (M:Nat):List Nat->Trc->List Nat->Prop where
 |refl (w:List Nat) (hl:w.length<=M) (hw:∀a∈w,a<x.zA.length):Cb x M w [] w
 |step {w w1 w' s:List Nat}{r:Nat}{tr:Trc} (hl:w.length<=M) (hw:∀a∈w,a<x.zA.length) (hs:stS x w=Wu (r,s,w1)) (h:Cb x M w1 tr w'):Cb x M w ((r,s)::tr) w'
theorem Cb.st{w:List Nat}{tr:Trc}(h:Cb x M w tr w'):w.length<=M/\ ∀a∈w,a<x.zA.length:=by
 cases h with
 |refl _ hl hw=>grind
 |step hl hw _ _=>grind
def zD2(m:zS)(D:Nat)(s:Int):(Nat->Nat->Nat->Int)->Trc->Nat->Nat->Nat->Int
 |F,[]=>F
 |F,(r,z)::tr=>zD2 m D s (upd F s r (wM m.Prime D m.zR z (idM D)) D) tr
theorem zPQ{m:zS}{D:Nat}{s:Int}{r i j:Nat}(hi:i<D):∀(tr:Trc)(F:Nat->Nat->Nat->Int),zD2 m D s F tr r i j=F r i j+s*zBr m.Prime D m tr r i j
 | [],F=>by rw[zD2,zBr,L6,Kf]
 |(q,z)::tr,F=>by
  rw[zD2,zPQ hi tr,upd,zBr,Int.mul_add,Jc2]
  grind
abbrev zUk(x:SPr)(w:List Nat):Int:=match stI x w with
 |some z=>(z.1:Int)
 |none=> -1
section
variable {x:SPr}{m:zS}{D:Nat} (h:Pres x) (hn:x.zA.length<=7) (hD:MOk x.zA.length m D)
 include h hn hD
theorem zKJ{s:Int}(hs:-7<=s/\s<=7){w:List Nat}{tr:Trc}(hc:Cb x 80000 w tr w')(gS:stS x w'=Wv):∀F:Nat->Nat->Nat->Int,
  zF (zVB s) (x,m,smx m.Prime D (base x.zA.length x.zA.length) F,enW w,zUk x w)=Wu (x,m,smx m.Prime D (base x.zA.length x.zA.length) (zD2 m D s F tr)):=by
 induction hc with
 |refl w hl hw=>
  intro F;have e:zUk x w= -1:=by
   rw[zKI]at gS
   grind
  rw[yW,e];rfl
 |step hl hw gE hc ih=>
  rename_i w w1 w2 z r tr;intro F;rw[zKI]at gE;cases g:stI x w with
  |none=>grind
  |some q=>
   rw[g]at gE;obtain⟨t,q⟩:=q;simp only[H9,Lr.injEq,Jak.injEq]at gE;obtain⟨e1,e2,e3⟩:=gE;obtain⟨ht,hh⟩:=zPP g;simp only at ht hh;have ct:=hc.st;have e:zUk x w=(t:Int):=by grind
   have h1:=zFQ h hn hD hw hl ht hh hs (F:=F);rw[e3,e1,e2]at h1;have h2:=zBD h ct.2 (by omega);rw[yW,e];have hb:zVB s (x,m,smx m.Prime D (base x.zA.length x.zA.length) F,enW w,(t:Int))=Wu (.inl (x,m,smx m.Prime D (base x.zA.length x.zA.length) (upd F s r (wM m.Prime D m.zR z (idM D)) D),enW w1,zUk x w1)):=by
    unfold zVB
    grind
   rw[hb];simp only
   exact ih gS _
theorem zET{s:Int}(hs:-7<=s/\s<=7){w:List Nat}{tr:Trc}(hc:Cb x 80000 w tr w')(gS:stS x w'=Wv)(F:Nat->Nat->Nat->Int):
  f_t ⟨x,m,smx m.Prime D (base x.zA.length x.zA.length) F⟩ (enW w) s=Wu ⟨x,m,smx m.Prime D (base x.zA.length x.zA.length) (zD2 m D s F tr)⟩:=by
 have ct:=hc.st;unfold f_t;rw[show zRJ (xJ.p ⟨x,m,smx m.Prime D (base x.zA.length x.zA.length) F⟩) (enW w)=Wu (zUk x w)from by grind[zBD],bs];have:=zKJ h hn hD hs hc gS F
 grind
end
inductive Cl (x:SPr) (k M:Nat):List Nat->Trc->List Nat->Prop where
 |refl (w:List Nat) (hl:w.length<=M) (hw:∀a∈w,k<=a/\a<x.zA.length):Cl x k M w [] w
 |step {w w1 w' s:List Nat}{r:Nat}{tr:Trc} (hl:w.length<=M) (hw:∀a∈w,k<=a/\a<x.zA.length) (hs:stS x w=Wu (r,s,w1)) (h:Cl x k M w1 tr w'):Cl x k M w ((r,s)::tr) w'
theorem Cl.trans{w:List Nat}{t1 t2:Trc}(h:Cl x k M w t1 w1)(h2:Cl x k M w1 t2 w2):Cl x k M w (t1++t2) w2:=by
 induction h with
 |refl w=>exact h2
 |step hl hw hs _ ih=>exact .step hl hw hs (ih h2)
theorem Cl.mono{M2:Nat}(hM:M<=M2){w:List Nat}{tr:Trc}(h:Cl x k M w tr w'):Cl x k M2 w tr w':=by
 induction h with
 |refl w hl hw=>exact .refl _ (by omega) hw
 |step hl hw hs _ ih=>exact .step (by omega) hw hs ih
theorem Cl.cb{w:List Nat}{tr:Trc}(h:Cl x k M w tr w'):Cb x M w tr w':=by
 induction h with
 |refl w hl hw=>exact .refl _ hl (by grind)
 |step hl hw hs _ ih=>exact .step hl (by grind) hs ih
theorem Cl.col{w:List Nat}{tr:Trc}(h:Cl x k M w tr w'):Col x k w tr w':=by
 induction h with
 |refl w hl hw=>exact .refl _
 |step hl hw hs _ ih=>exact .step hw hs ih
section
variable {x:SPr} (h:Pres x)
 include h
theorem zPR:∀(d k:Nat),k+d=x.zA.length-> ∀y,V (suf x k) y->(nw k y).length<=6*d
 |0,k,hk,y,hy=>by
  rw[vQ (x:=x) (k:=k)]at hy;cases y with
  |nil=>simp[nw]
  |cons b y=>cases hy
 |d+1,k,hk,y,hy=>by
  have hp:=(h.os.2 k (by omega)).pos;rw[yB (x:=x)]at hy;cases y with
  |nil=>exact hy.elim
  |cons b y=>
   obtain⟨⟨h1,h2⟩,h3⟩:=hy;have ih:=zPR d (k+1) (by omega) y h3;have fP:b<at0 x.zA k:=h2
   grind[nw]
theorem Cl.ctx(hi:i<x.zA.length)(ha:a<yL x i){s:List Nat}(hs:∀b∈s,i<=b/\b<x.zA.length){w:List Nat}{tr:Trc}(hc:Cl x (i+1) M w tr w'):
  Cl x i (a+M+s.length) (J0 a i++(w++s)) (tr.map fun q=>(q.1,q.2++s)) (J0 a i++(w'++s)):=by
 have mem:∀{w:List Nat},(∀b∈w,i+1<=b/\b<x.zA.length)-> ∀b∈J0 a i++(w++s),i<=b/\b<x.zA.length:=by grind
 induction hc with
 |refl w hl hw=>exact .refl _ (by simp;omega) (mem hw)
 | @step w w1 w' s1 r tr hl hw gE _ ih=>
  refine .step (by simp;omega) (mem hw) ?_ ih;rw[zEa ha a (J9 _) fun b hb=>?_,zKB (by grind[zMu]) gE]
  ·rfl
  ·cases w with
   |nil=>cases gE
   |cons c w=>
    simp only[K0,Uw,Lr.injEq]at hb;have:=hw c (by simp);omega
theorem zKK(hn:x.zA.length<=7)(hi:i<j)(hj:j<x.zA.length):(nw 0 (lcj x i j)).length<=42:=(zIh h hn (uI h hi hj).1).2
theorem zPS(hn:x.zA.length<=7){i:Nat}:∀{ur:List Nat},(∀b∈ur,i+1<=b/\b<x.zA.length)->(cwd x i ur).length<=42*ur.length
 | [],_=>by simp[cwd]
 |l::ur,hu=>by
  have h1:=hu l (by simp);have h2:=zKK h hn (show i<l by omega) h1.2;have ih:=zPS hn (ur:=ur) fun b hb=>hu b (by simp[hb])
  grind[cwd]
theorem Cl.move(hn6:x.zA.length<=7){i a:Nat}(hi:i<x.zA.length)(ha:a<yL x i):∀{ur:List Nat},(∀b∈ur,i+1<=b/\b<x.zA.length)->stS x ur.reverse=Wv-> ∀{z:List Nat},(∀b∈z,i<=b/\b<x.zA.length)->
  Cl x i (a+1+43*ur.length+z.length) (J0 a i++(ur.reverse++i::z)) (mtr x i ur z) (J0 (a+1) i++(cwd x i ur++z))
 | [],_,_,z,hz=>by
  have e:J0 a i++(([]:List Nat).reverse++i::z)=J0 (a+1) i++(cwd x i []++z):=by grind[Lf,cwd]
  rw[e];refine .refl _ (by simp[cwd]) fun b hb=>?_
  grind
 |l::ur,hu,hn,z,hz=>by
  obtain⟨l1,l2⟩:=hu l (by simp);have pd:∀b∈ur,i+1<=b/\b<x.zA.length:=by grind
  have cY:=tL h (uI h (show i<l by omega) l2) hi;have tf:=zKK h hn6 (show i<l by omega) l2;rw[Ly]at hn ⊢
  have mC:=zGs (by grind[zMu]) hn;have eT:∀b∈nw 0 (lcj x i l)++z,i<=b/\b<x.zA.length:=by grind
  have ih:=(Cl.move hn6 hi ha pd mC eT).mono (M2:=a+1+43*(l::ur).length+z.length) (by grind);rw[show cwd x i (l::ur)++z=cwd x i ur++(nw 0 (lcj x i l)++z)from by simp[cwd]];have e1:ur.reverse++[l]++i::z=ur.reverse++l::i::z:=by simp
  rw[e1];refine .step (by simp;omega) (fun b hb=>?_) ?_ ih
  ·simp only[Ji,Je,Jag]at hb
   rcases hb with hb|hb|hb|hb|hb
   ·grind
   ·grind
   ·omega
   all_goals grind
  ·rw[zEa ha a (J9 _) fun b hb=>?_,zTR (by grind) (by omega) hn]
   ·rfl
   ·have:b∈ur.reverse++l::i::z:=by grind[Gp]
    cases e:ur.reverse with
    |nil=>grind
    |cons c t=>
     rw[e]at hb;simp only[K0,Uw,Lr.injEq]at hb
     grind
end
section
variable {x:SPr} (h:Pres x) (hn:x.zA.length<=7)
 include h hn
theorem zKL{k M W L:Nat}(hk:k<x.zA.length)(P:∀v:List Nat,v.length<=W->(∀a∈v,k+1<=a/\a<x.zA.length)-> ∃tr y,Cl x (k+1) M v tr (nw (k+1) y)/\V (suf x (k+1)) y):∀(z:List Nat),z.length<=L->(∀a∈z,k<=a/\a<x.zA.length)-> ∀(a:Nat),a<yL x k-> ∀(v:List Nat),v.length+z.length<=W->1900+z.length<=W->(∀a∈v,k+1<=a/\a<x.zA.length)->
  ∃tr y,Cl x k (M+L+2000) (J0 a k++(v++z)) tr (nw k y)/\V (suf x k) y
 | [],_,_,a,ha,v,pq,_,hv=>by
  obtain⟨tr,y,c1,c2⟩:=P v (by omega) hv;have ho:=(qO h hk).2.2;have hc:=(Cl.ctx h hk ha (s:=[]) (by simp) c1).mono (M2:=M+L+2000) (by simp;omega);rw[show(fun q:Nat×List Nat=>(q.1,q.2++[]))=id from by grind,Jb7,Jh,Jh]at hc;refine⟨tr,(a:Int)::y,?_,?_⟩
  ·grind[nw]
  ·rw[yB hk]
   refine⟨⟨by omega,?_⟩,c2⟩;show(a:Int)<at0 x.zA k
   grind
 |l::z,pb,hz,a,ha,v,pq,hW,hv=>by
  have ho:=(qO h hk).2.2;have hzl2:z.length+1<=L:=by omega
  have iO:v.length+(z.length+1)<=W:=by omega
  have aI:1900+(z.length+1)<=W:=by omega
  have eT:∀b∈z,k<=b/\b<x.zA.length:=by grind
  obtain⟨l1,l2⟩:=hz l (by simp);rcases Jk k l with g|g
  ·obtain⟨tr,y,c1,c2⟩:=zKL (L:=L) hk P z (by omega) eT a ha (v++[l]) (by simp;omega) (by omega) (by grind)
   grind
  ·obtain rfl:l=k:=by omega
   obtain⟨tr1,y1,c1,c2⟩:=P v (by omega) hv;have gK:=zPH h (by omega) c2;have pS:∀b∈(nw (l+1) y1).reverse,l+1<=b/\b<x.zA.length:=by grind
   have eF:(nw (l+1) y1).length<=42:=by have:=zPR h (x.zA.length-(l+1)) (l+1) (by omega) y1 c2;omega
   have gF:(cwd x l (nw (l+1) y1).reverse).length<=1764:=by grind[zPS]
   have k1:=(Cl.ctx h hk ha (s:=l::z) hz c1).mono (M2:=M+L+2000) (by simp;omega);have k2:=(Cl.move h hn hk ha pS (by rw[K6];exact zFP h _ _ (by omega:l+1+(x.zA.length-(l+1))=x.zA.length) y1 c2) eT).mono (M2:=M+L+2000) (by grind);rw[K6]at k2;have eW:=zKE h pS;rcases Jk (a+1) (yL x l)with g2|g2
   ·obtain⟨tr2,y2,d1,d2⟩:=zKL (L:=L) hk P z (by omega) eT (a+1) g2 (cwd x l (nw (l+1) y1).reverse) (by omega) (by omega) eW
    exact⟨_,y2,k1.trans (k2.trans d1),d2⟩
   ·have g4:a+1=yL x l:=by omega
    have ma:=jP h hk;have mb:=tL h ma hk;have bX:=(zIh h hn ma.1).2;have ie:∀b∈nw 0 (x.zQ.getD l [])++cwd x l (nw (l+1) y1).reverse,l+1<=b/\b<x.zA.length:=fun b hb=>by
     simp only[Ji]at hb;rcases hb with hb|hb
     ·grind
     grind
    obtain⟨tr2,y2,d1,d2⟩:=zKL (L:=L) hk P z (by omega) eT 0 (by omega) _ (by grind) (by omega) ie;rw[Kt,Js,Jg]at d1;have k3:Cl x l (M+L+2000) (J0 (a+1) l++(cwd x l (nw (l+1) y1).reverse++z)) ((l,cwd x l (nw (l+1) y1).reverse++z)::tr2) (nw l y2):=by
     refine .step (by grind[J5,Jc]) (fun b hb=>?_) (by grind[zYF,zMu]) d1;simp only[Ji]at hb;rcases hb with hb|hb|hb
     ·grind
     ·grind
     grind
    exact⟨_,y2,k1.trans (k2.trans k3),d2⟩
def lnB:Nat->Nat->Nat
 |0,l=>l
 |d+1,l=>lnB d (l+1900)+l+2000
theorem zYT:∀(d k:Nat),k+d=x.zA.length-> ∀(L:Nat)(z:List Nat),z.length<=L->(∀a∈z,k<=a/\a<x.zA.length)-> ∃tr y,Cl x k (lnB d L) z tr (nw k y)/\V (suf x k) y
 |0,k,hk,L,z,_,hz=>by
  have:z=[]:=by
   cases z with
   |nil=>rfl
   |cons a z=>have:=hz a (by simp);omega
  subst this;exact⟨[],[],.refl _ (by simp) (by simp),by rw[vQ (x:=x) (k:=k)];rfl⟩
 |d+1,k,hk,L,z,hl,hz=>by
  have ho:=zMu h (show k<x.zA.length by omega);obtain⟨tr,y,c1,c2⟩:=zKL h hn (M:=lnB d (L+1900)) (W:=L+1900) (L:=L) (by omega) (fun v hv hvm=>zYT d (k+1) (by omega) (L+1900) v hv hvm) z hl hz 0 (by omega) [] (by simp;omega) (by omega) (by simp)
  grind[lnB]
theorem zPT{L:Nat}(hk:k<=x.zA.length){z:List Nat}(hl:z.length<=L){tr:Trc}(hc:qD x k z tr y)(hz:∀a∈z,k<=a/\a<x.zA.length):Cb x (lnB (x.zA.length-k) L) z tr (nw k y)/\stS x (nw k y)=Wv:=by obtain⟨tr2,y2,c1,c2⟩:=zYT h hn (x.zA.length-k) k (by omega) L z hl hz;have n1:=zFP h (x.zA.length-k) k (by omega) y hc.v;have n2:=zFP h (x.zA.length-k) k (by omega) y2 c2;obtain⟨e1,e2⟩:=Col.det hc.col c1.col n1 n2;rw[e1,e2];exact⟨c1.cb,n2⟩
end
theorem yAs:∀d:Nat,d<8->lnB d 100<=80000:=by decide
structure PD.Ok (x:SPr) (d:PD):Prop where
 h1:hdS x (d.wd.drop 0)=Wu (d.r1,d.s1,d.w1)
 ht:d.t<d.wd.length
 h2:∃q,hdS x (d.wd.drop d.t)=Wu (d.r2,d.s2,q)/\d.w2=d.wd.take d.t++q
 l:d.wd.length<=14
 l1:d.w1.length<=100
 l2:d.w2.length<=100
 m1:∀a∈d.w1,d.k<=a/\a<x.zA.length
 m2:∀a∈d.w2,d.k<=a/\a<x.zA.length
section
variable {x:SPr} (h:Pres x) (hn:x.zA.length<=7)
 include h hn
theorem zPU{b:Nat}{s:List Nat}(fA:b<a):hdS x (a::b::s)=Wu (base x.zA.length b+(a-(b+1)),s,b::(nw 0 (lcj x b a)++s)):=by
 have _:=h;have _:=hn;unfold hdS;simp only[swp]
 grind
theorem zPV{s:List Nat}(ha:a<x.zA.length):hdS x (J0 (yL x a) a++s)=Wu (a,s,nw 0 (x.zQ.getD a [])++s):=by
 have _:=hn;obtain⟨q,hq⟩:∃q,yL x a=q+2:=⟨yL x a-2,by have:=(qO h ha).2.1;omega⟩;have e:swp x (J0 (yL x a) a++s)=Wv:=by rw[hq,Jw,Jw];simp only[K0,swp];simp
 unfold hdS;rw[e];have e2:J0 (yL x a) a++s=a::(J0 (q+1) a++s):=by grind
 have e3:(J0 (yL x a) a++s).take (yL x a)=J0 (yL x a) a:=by simp
 have e4:(J0 (yL x a) a++s).drop (yL x a)=s:=by simp
 rw[e2]at e3 e4;rw[e2];simp only[pws]
 grind
theorem zKM:∀d∈cps x,d.Ok x:=by
 have fu:∀i j,i<j->j<x.zA.length-> ∀a∈nw 0 (lcj x i j),i+1<=a/\a<x.zA.length:=fun i j hi hj=>(tL h (uI h hi hj) (by omega)).2
 have fF:∀i,i<x.zA.length-> ∀a∈nw 0 (x.zQ.getD i []),i+1<=a/\a<x.zA.length:=fun i hi=>(tL h (jP h hi) hi).2
 have lcon:∀i j,i<j->j<x.zA.length->(nw 0 (lcj x i j)).length<=42:=fun i j hi hj=>zKK h hn hi hj
 have lpow:∀i,i<x.zA.length->(nw 0 (x.zQ.getD i [])).length<=42:=fun i hi=>(zIh h hn (jP h hi).1).2
 have od:∀i,i<x.zA.length->2<=yL x i/\yL x i<=7:=fun i hi=>(qO h hi).2
 refine zBi.2 ⟨fun i j k h1 h2 h3=>?_,fun i j h1 h2=>?_,fun i j h1 h2=>?_,fun i h1=>?_⟩
 ·have c1:=lcon j k h2 h3
  have c2:=lcon i j h1 (by omega);refine⟨zPU h hn h2,by simp[pd2],⟨i::(nw 0 (lcj x i j)++[]),zPU h hn h1,by simp[pd2]⟩,by simp[pd2],by simp only[pd2,J8,J5,Kh];omega,by simp only[pd2,J8];omega,fun a ha=>?_,fun a ha=>?_⟩
  ·simp only[pd2,Je,Ji,Gm,or_false]at ha ⊢
   rcases ha with rfl|ha|rfl
   ·omega
   ·have:=fu j k (by omega) h3 a ha;omega
   ·omega
  ·simp only[pd2,Je]at ha ⊢
   rcases ha with rfl|rfl|ha
   ·omega
   ·omega
   ·have:=fu i j (by omega) (by omega) a ha;omega
 ·have c1:=lpow j h2
  have c2:=lcon i j h1 h2;have o:=od j h2;have e:J0 (yL x j) j++[i]=J0 (yL x j-1) j++[j,i]:=by obtain⟨q,hq⟩:∃q,yL x j=q+1:=⟨yL x j-1,by omega⟩;rw[hq,Lf,Ja6,Jg];rfl
  refine⟨zPV h hn h2,by simp only[pd1,J5,Jc,J8,Kh];omega,⟨i::(nw 0 (lcj x i j)++[]),?_,?_⟩,by simp only[pd1,J5,Jc,J8,Kh];omega,by simp only[pd1,J8,J5,Kh];omega,by simp only[pd1,J5,Jc,J8];omega,fun a ha=>?_,fun a ha=>?_⟩
  ·show hdS x ((J0 (yL x j) j++[i]).drop (yL x j-1))=_
   rw[e,Kd (Jc)];exact zPU h hn h1
  ·show _=(J0 (yL x j) j++[i]).take (yL x j-1)++_
   rw[e,Jz (Jc),Jh];rfl
  ·simp only[pd1,Ji,List.mem_singleton]at ha ⊢
   rcases ha with ha|rfl
   ·have:=fF j h2 a ha;omega
   ·omega
  ·simp only[pd1,Ji,Je]at ha ⊢
   rcases ha with ha|rfl|ha
   ·have:=Lj ha;omega
   ·omega
   ·have:=fu i j h1 h2 a ha;omega
 ·have c1:=lpow i (by omega)
  have c2:=lcon i j h1 h2;have o:=od i (by omega);have e:J0 (yL x i) i=i::J0 (yL x i-1) i:=by obtain⟨q,hq⟩:∃q,yL x i=q+1:=⟨yL x i-1,by omega⟩;rw[hq,Jw,Ja6]
  refine⟨?_,by simp only[pd4,Jc,J8];omega,⟨nw 0 (x.zQ.getD i [])++[],?_,by simp[pd4]⟩,by simp only[pd4,Jc,J8];omega,by simp only[pd4,J8,J5,Jc];omega,by simp only[pd4,J8];omega,fun a ha=>?_,fun a ha=>?_⟩
  ·show hdS x (j::J0 (yL x i) i)=_
   rw[e];exact zPU h hn h1
  ·show hdS x (J0 (yL x i) i)=_
   have:=zPV h hn (s:=[]) (show i<x.zA.length by omega);rw[Jh]at this;exact this
  ·simp only[pd4,Je,Ji]at ha ⊢
   rcases ha with rfl|ha|ha
   ·omega
   ·have:=fu i j h1 h2 a ha;omega
   ·have:=Lj ha;omega
  ·simp only[pd4,Je]at ha ⊢
   rcases ha with rfl|ha
   ·omega
   ·have:=fF i (by omega) a ha;omega
 ·have c1:=lpow i h1
  have o:=od i h1;refine⟨?_,by simp only[pd3,Jc];omega,⟨nw 0 (x.zQ.getD i [])++[],?_,?_⟩,by simp only[pd3,Jc];omega,by simp only[pd3,J8,J5,Kh];omega,by simp only[pd3,J8];omega,fun a ha=>?_,fun a ha=>?_⟩
  ·show hdS x (J0 (yL x i+1) i)=_
   rw[Lf];exact zPV h hn h1
  ·show hdS x ((J0 (yL x i+1) i).drop 1)=_
   rw[Jw,List.drop_succ_cons,Hr];have:=zPV h hn (s:=[]) h1;rw[Jh]at this;exact this
  ·show i::nw 0 (x.zQ.getD i [])=(J0 (yL x i+1) i).take 1++_
   rw[Jw,Jh];rfl
  ·simp only[pd3,Ji,List.mem_singleton]at ha ⊢
   rcases ha with ha|rfl
   ·have:=fF i h1 a ha;omega
   ·omega
  ·simp only[pd3,Je]at ha ⊢
   rcases ha with rfl|ha
   ·omega
   ·have:=fF i h1 a ha;omega
end
section
variable {x:SPr}{m:zS}{D:Nat} (h:Pres x) (hn:x.zA.length<=7) (hD:MOk x.zA.length m D)
 include h hn hD
theorem zQW{d:PD}(hd:d∈cps x){t1 t2:Trc}(hb:d.B x t1 t2)(F:Nat->Nat->Nat->Int):
  ((f_j ⟨x,m,smx m.Prime D (base x.zA.length x.zA.length) F⟩ (enW d.wd) ((0:Nat):Int) 1).bind fun r=>(f_t r.2 r.1 1).bind fun k2=>(f_j k2 (enW d.wd) (d.t:Int) (-1)).bind fun r3=>f_t r3.2 r3.1 (-1))=
   Wu ⟨x,m,smx m.Prime D (base x.zA.length x.zA.length) (zD2 m D (-1) (zD2 m D 1 F t1) t2)⟩:=by
 have ok:=zKM h hn d hd;obtain⟨hk,bz,_⟩:=zGN h hn d hd;obtain⟨⟨u1,y1,rfl,k1⟩,⟨u2,y2,rfl,k2⟩⟩:=hb;obtain⟨q,q1,q2⟩:=ok.h2;have hl:=ok.l;have ht:=ok.ht;obtain⟨c1,n1⟩:=zPT h hn (by omega) ok.l1 k1 ok.m1;obtain⟨c2,n2⟩:=zPT h hn (by omega) ok.l2 k2 ok.m2;have up:∀{w w':List Nat}{tr:Trc},Cb x (lnB (x.zA.length-d.k) 100) w tr w'->Cb x 80000 w tr w':=fun{w w' tr} hc=>by
  have hM:=yAs (x.zA.length-d.k) (by omega)
  generalize lnB (x.zA.length-d.k) 100=M at hc hM
  induction hc with
  |refl w hl hw=>exact .refl _ (by omega) hw
  |step hl hw hs _ ih=>exact .step (by omega) hw hs ih
 rw[zFQ h hn hD bz (by omega) (by omega) ok.h1 (s:=1) (by omega) (F:=F),bs];simp only[L9,Js];rw[zET h hn hD (by omega) (up c1) n1,bs,zFQ h hn hD bz (by omega) ht q1 (s:=-1) (by omega),bs];simp only
 rw[<-q2,zET h hn hD (by omega) (up c2) n2];rfl
end
theorem zUl{p:Int}{r:Nat}(hi:i<D){t1 t2:Trc}(hp:m.Prime=p):(mkv D fun j=>zD2 m D (-1) (zD2 m D 1 (fun _ _ _=>0) t1) t2 r i j%m.Prime)=prR p D m t1 t2 (r*D+i):=by grind[zKH,prR,zPQ]
theorem uV{α β:Type}{f:α->List β}{c:Nat}(hf:∀a,(f a).length<=c):∀l:List α,(l.flatMap f).length<=l.length*c
 | []=>by simp
 |a::l=>by
  have:=uV hf l
  grind[Lo]
theorem zKN(hn:x.zA.length<=7):(cps x).length<=500:=by
 have hu:∀i,(ups x.zA.length i).length<=7:=by grind[ups]
 have h1:=uV (c:=49) (f:=fun i=>(ups x.zA.length i).flatMap fun j=>(ups x.zA.length j).map fun k=>pd2 x i j k) (fun i=>by
  have:=uV (c:=7) (f:=fun j=>(ups x.zA.length j).map fun k=>pd2 x i j k) (by grind) (ups x.zA.length i)
  grind) (Ju x.zA.length)
 have h2:=uV (c:=7) (f:=fun i=>(ups x.zA.length i).map fun j=>pd1 x i j) (by grind) (Ju x.zA.length);have h3:=uV (c:=7) (f:=fun i=>(ups x.zA.length i).map fun j=>pd4 x i j) (by grind) (Ju x.zA.length)
 grind[cps]
theorem yDT{v:Int}:f_k [v] 4=Wu [v,v,v,v]:=by
 unfold f_k;have h:=zN (body:=zCj) (r:=[v,v,v,v]) (fun i=>match i with|0=>([v,0,0,0],1)|1=>([v,v,0,0],2)|_=>([v,v,v,v],4)) 2 (fun i hi=>by
  match i,hi with
  |0,_=>rfl
  |1,_=>simp[zCj,zT,wU,rng,inR]) (by rfl)
 rw[show decide ((4:Int)<0)=Wx from rfl,zL,zMd (by rfl),bs];have hl:yO (IntKind.wrap .i64 4)=Wu 4:=by rfl
 simp only[hl,bs];rw[show decide ((0:Int)> 0)=Wx from rfl,zL,show decide ((4:Int)> 9223372036854775807)=Wx from by decide,zL]
 grind[wU]
theorem yDU{v:Int}:f_k [v] 6=Wu [v,v,v,v,v,v]:=by
 unfold f_k;have h:=zN (body:=zCj) (r:=[v,v,v,v,v,v]) (fun i=>match i with|0=>([v,0,0,0,0,0],1)|1=>([v,v,0,0,0,0],2)|2=>([v,v,v,v,0,0],4)|_=>([v,v,v,v,v,v],6)) 3 (fun i hi=>by
  match i,hi with
  |0,_=>rfl
  |1,_=>simp[zCj,zT,wU,rng,inR]
  |2,_=>rfl) (by rfl)
 rw[show decide ((6:Int)<0)=Wx from rfl,zL,zMd (by rfl),bs];have hl:yO (IntKind.wrap .i64 6)=Wu 6:=by rfl
 simp only[hl,bs];rw[show decide ((0:Int)> 0)=Wx from rfl,zL,show decide ((6:Int)> 9223372036854775807)=Wx from by decide,zL];have e2:wU (J0 6 (0:Int)) 0 (([v]:List Int).take ((J0 6 (0:Int)).length-0))=[v,0,0,0,0,0]:=by rfl
 grind
theorem yDV{v:Int}:f_k [v] 8=Wu [v,v,v,v,v,v,v,v]:=by
 unfold f_k;have h:=zN (body:=zCj) (r:=[v,v,v,v,v,v,v,v]) (fun i=>match i with|0=>([v,0,0,0,0,0,0,0],1)|1=>([v,v,0,0,0,0,0,0],2)|2=>([v,v,v,v,0,0,0,0],4)|_=>([v,v,v,v,v,v,v,v],8)) 3 (fun i hi=>by
  match i,hi with
  |0,_=>rfl
  |1,_=>simp[zCj,zT,wU,rng,inR]
  |2,_=>simp[zCj,zT,wU,rng,inR]) (by rfl)
 rw[show decide ((8:Int)<0)=Wx from rfl,zL,zMd (by rfl),bs];have hl:yO (IntKind.wrap .i64 8)=Wu 8:=by rfl
 simp only[hl,bs];rw[show decide ((0:Int)> 0)=Wx from rfl,zL,show decide ((8:Int)> 9223372036854775807)=Wx from by decide,zL];have e2:wU (J0 8 (0:Int)) 0 (([v]:List Int).take ((J0 8 (0:Int)).length-0))=[v,0,0,0,0,0,0,0]:=by rfl
 grind
theorem zBj{β:Type}{body:List β×Int->Option ((List β×Int)⊕List β)}(s n B:Nat)(F:Nat->List β)(a0:List β)(hB:a0.length+((Ke s n).flatMap F).length<=B)
  (h:∀i acc,s<=i->i<s+n->acc.length+(F i).length<=B->body (acc,((i+1:Nat):Int))=Wu (.inl (acc++F i,((i+1+1:Nat):Int))))(he:∀acc,body (acc,((s+n+1:Nat):Int))=Wu (.inr acc)):
  zF body (a0,((s+1:Nat):Int))=Wu (a0++(Ke s n).flatMap F):=by
 have:=zN (body:=body) (r:=a0++(Ke s n).flatMap F) (fun i=>(a0++(Ke s i).flatMap F,((s+i+1:Nat):Int))) n (fun i hi=>by
  have e:(Ke s (i+1)).flatMap F=(Ke s i).flatMap F++F (s+i):=by rw[List.range'_1_concat,Jap,Lm,List.flatMap_nil,Jh]
  have fR:((Ke s (i+1)).flatMap F).length<=((Ke s n).flatMap F).length:=by
   obtain⟨k,rfl⟩:∃k,n=i+1+k:=⟨n-(i+1),by omega⟩;have e3:Ke s (i+1+k)=Ke s (i+1)++Ke (s+(i+1)) k:=U9.symm
   grind
  grind) (he _)
 grind
def CPd(d:PD):zH:=⟨enW d.wd,enW d.w1,enW d.w2⟩
section
variable {x:SPr} (h:Pres x) (hn:x.zA.length<=7)
 include h
theorem zMz{v:Int}(ha:a<x.zA.length):zMZ v ((yL x a:Nat):Int)=Wu (J0 (yL x a) v):=by
 have hp:=h.os.2 a ha;have e:=(qO h ha).1;have e2:at0 x.zA a=((yL x a:Nat):Int):=by grind[xM]
 grind[zMZ,zGn]
theorem zQX{v:Int}(ha:a<x.zA.length):zMZ v (((yL x a+1:Nat)):Int)=Wu (J0 (yL x a+1) v):=by
 have hp:=h.os.2 a ha;have e:=(qO h ha).1;have e2:at0 x.zA a=((yL x a:Nat):Int):=by grind[xM]
 rw[e2]at hp;have:yL x a=2\/yL x a=3\/yL x a=5\/yL x a=7:=by rcases hp with g|g|g|g<;>omega
 unfold zMZ;rcases this with g|g|g|g<;>rw[g]
 ·exact(congrArg (fun o=>Gl o _) (zGn (v:=v) (o:=3) (.inr (.inl rfl)))).trans rfl
 ·exact(congrArg (fun o=>Gl o _) (yDT (v:=v))).trans rfl
 ·exact(congrArg (fun o=>Gl o _) (yDU (v:=v))).trans rfl
 ·exact(congrArg (fun o=>Gl o _) (yDV (v:=v))).trans rfl
 include hn
theorem zEU{d:PD}(hd:d∈cps x)(ho:out.length<=100000):f_Y (enW d.wd) (d.t:Int) out x=Wu (out++[CPd d]):=by have ok:=zKM h hn d hd;obtain⟨_,bz,_⟩:=zGN h hn d hd;obtain⟨q,q1,q2⟩:=ok.h2;have hl:=ok.l;have ht:=ok.ht;unfold f_Y;rw[show(0:Int)=((0:Nat):Int)from rfl,zCQ h hn bz (by omega) (by omega) ok.h1,bs,zCQ h hn bz (by omega) ht q1,bs,yA (by grind),bs];simp only[L9,Js];rw[<-q2];rfl
end
theorem zCf{α β:Type}{f:α->β}:∀l:List α,(l.flatMap fun a=>[f a])=l.map f
 | []=>rfl
 |a::l=>by rw[Lm,zCf l];rfl
theorem zAx(hN:N<=7):(ups N i).length<=7:=by grind[ups]
section
variable {x:SPr} (h:Pres x) (hn:x.zA.length<=7)
 include h hn
theorem yC7(gQ:i<j)(hj:j<x.zA.length){o2:List zH}(ho:out.length<=3000):
  zF (zRB x (o1,((i+1:Nat):Int)) (o2,((j+1:Nat):Int))) (out,((j+1+1:Nat):Int))=Wu (out++(ups x.zA.length j).map fun k=>CPd (pd2 x i j k)):=by
 have hm:=((zBi (x:=x) (φ:=fun d=>d∈cps x)).1 fun d hd=>hd).1;have hu:=zAx (i:=j) hn;have:=zBj (body:=zRB x (o1,((i+1:Nat):Int)) (o2,((j+1:Nat):Int))) (j+1) (x.zA.length-(j+1)) 4000 (fun k=>[CPd (pd2 x i j k)]) out (by rw[zCf,Jm];grind) (fun k acc hk1 eR hb=>by
  unfold zRB;simp only
  have e:([((k+1:Nat):Int),((j+1:Nat):Int),((i+1:Nat):Int)])=enW (pd2 x i j k).wd:=by rfl
  rw[Wz,zK,e,show(1:Int)=((pd2 x i j k).t:Int)from rfl,zEU h hn (by grind) (by omega),bs,show((k+1:Nat):Int)+((pd2 x i j k).t:Int)=((k+1+1:Nat):Int)from rfl,zB,bs]) (fun acc=>by
  unfold zRB
  grind)
 rw[zCf]at this;exact this
theorem yC8(hi:i<x.zA.length)(ho:out.length<=2000):
  zF (zRC x (o1,((i+1:Nat):Int))) (out,((i+1+1:Nat):Int))=Wu (out++(ups x.zA.length i).flatMap fun j=>(ups x.zA.length j).map fun k=>CPd (pd2 x i j k)):=by
 have hu:=zAx (i:=i) hn;have hf:=uV (c:=7) (f:=fun j=>(ups x.zA.length j).map fun k=>CPd (pd2 x i j k)) (by grind[zAx]) (ups x.zA.length i);have:=zBj (body:=zRC x (o1,((i+1:Nat):Int))) (i+1) (x.zA.length-(i+1)) 3000 (fun j=>(ups x.zA.length j).map fun k=>CPd (pd2 x i j k)) out (by grind[ups]) (fun j acc hj1 tm hb=>by
  unfold zRC;simp only
  rw[Wz,zK,show((j+1:Nat):Int)+1=((j+1+1:Nat):Int)from by omega,zB,bs,yC7 h hn (by omega) (by omega) (by omega),bs,bs]) (fun acc=>by
  unfold zRC
  grind)
 exact this
theorem yC9:zF (zRD x) ([],1)=Wu ((Ju x.zA.length).flatMap fun i=>(ups x.zA.length i).flatMap fun j=>(ups x.zA.length j).map fun k=>CPd (pd2 x i j k)):=by
 have hf:=uV (c:=49) (f:=fun i=>(ups x.zA.length i).flatMap fun j=>(ups x.zA.length j).map fun k=>CPd (pd2 x i j k)) (fun i=>by
  have:=uV (c:=7) (f:=fun j=>(ups x.zA.length j).map fun k=>CPd (pd2 x i j k)) (by grind[zAx]) (ups x.zA.length i)
  grind[zAx]) (Ju x.zA.length)
 rw[Gv]at hf;have:=zBj (body:=zRD x) 0 x.zA.length 2000 (fun i=>(ups x.zA.length i).flatMap fun j=>(ups x.zA.length j).map fun k=>CPd (pd2 x i j k)) [] (by grind[Ld]) (fun i acc tq eD hb=>by
  unfold zRD;simp only
  rw[Wz,zK,show((i+1:Nat):Int)+1=((i+1+1:Nat):Int)from by omega,zB,bs,yC8 h hn (by omega) (by omega),bs,bs]) (fun acc=>by
  unfold zRD
  grind)
 grind[Ld]
theorem yCA(hi:i<x.zA.length)(ho:out.length<=3000):
  zF (zRE x (o1,((i+1:Nat):Int))) (out,((i+1+1:Nat):Int))=Wu (out++(ups x.zA.length i).map fun j=>CPd (pd1 x i j)):=by
 have hm:=((zBi (x:=x) (φ:=fun d=>d∈cps x)).1 fun d hd=>hd).2.1;have hu:=zAx (i:=i) hn;have:=zBj (body:=zRE x (o1,((i+1:Nat):Int))) (i+1) (x.zA.length-(i+1)) 4000 (fun j=>[CPd (pd1 x i j)]) out (by rw[zCf,Jm];rw[ups]at hu;omega) (fun j acc hj1 tm hb=>by
  have ho:=qO h (show j<x.zA.length by omega);unfold zRE;simp only
  have e:J0 (yL x j) ((j+1:Nat):Int)++[((i+1:Nat):Int)]=enW (pd1 x i j).wd:=by show _=enW (J0 (yL x j) j++[i]);simp only[enW,Lq,List.map_replicate,Jr,Jai];rfl
  have et:((yL x j:Nat):Int)-1=((pd1 x i j).t:Int):=by show _=((yL x j-1:Nat):Int);omega
  rw[Wz,zK,show((j+1:Nat):Int)-1=(j:Int)from by omega,zB (n:=(j:Int)),bs,ho.1,bs,zMz h (by omega),bs,yA (by simp only[Jc,J8,Kh];omega),bs,bs,ho.1,bs,zB (n:=((yL x j:Nat):Int)-1),bs,e,et,zEU h hn (hm i j (by omega) (by omega)) (by simp only[J8,Kh]at hb;omega),bs,show((j+1:Nat):Int)+1=((j+1+1:Nat):Int)from by omega,zB,bs]) (fun acc=>by
  unfold zRE;simp only
  rw[Wy (by omega),zL])
 rw[zCf]at this;exact this
theorem yCB(ho:out.length<=1000):zF (zRF x) (out,1)=Wu (out++(Ju x.zA.length).flatMap fun i=>(ups x.zA.length i).map fun j=>CPd (pd1 x i j)):=by
 have hf:=uV (c:=7) (f:=fun i=>(ups x.zA.length i).map fun j=>CPd (pd1 x i j)) (by grind[zAx]) (Ju x.zA.length);rw[Gv]at hf;have:=zBj (body:=zRF x) 0 x.zA.length 2000 (fun i=>(ups x.zA.length i).map fun j=>CPd (pd1 x i j)) out (by grind[Ld]) (fun i acc tq eD hb=>by
  unfold zRF;simp only
  rw[Wz,zK,show((i+1:Nat):Int)+1=((i+1+1:Nat):Int)from by omega,zB,bs,yCA h hn (by omega) (by omega),bs,bs]) (fun acc=>by
  unfold zRF
  grind)
 grind[Ld]
theorem yCC(hi:i<x.zA.length)(ho:out.length<=3000):
  zF (zRG x (o1,((i+1:Nat):Int))) (out,((i+1+1:Nat):Int))=Wu (out++(ups x.zA.length i).map fun j=>CPd (pd4 x i j)):=by
 have hm:=((zBi (x:=x) (φ:=fun d=>d∈cps x)).1 fun d hd=>hd).2.2.1;have hu:=zAx (i:=i) hn;have ho:=qO h hi;have:=zBj (body:=zRG x (o1,((i+1:Nat):Int))) (i+1) (x.zA.length-(i+1)) 4000 (fun j=>[CPd (pd4 x i j)]) out (by rw[zCf,Jm];grind) (fun j acc hj1 tm hb=>by
  unfold zRG;simp only
  have e:[((j+1:Nat):Int)]++J0 (yL x i) ((i+1:Nat):Int)=enW (pd4 x i j).wd:=by show _=enW (j::J0 (yL x i) i);simp
  rw[Wz,zK,show((i+1:Nat):Int)-1=(i:Int)from by omega,zB (n:=(i:Int)),bs,ho.1,bs,zMz h hi,bs,yA (by simp only[Jc,J8,Kh];omega),bs,e,show(1:Int)=((pd4 x i j).t:Int)from rfl,zEU h hn (hm i j (by omega) (by omega)) (by simp only[J8,Kh]at hb;omega),bs,show((j+1:Nat):Int)+((pd4 x i j).t:Int)=((j+1+1:Nat):Int)from rfl,zB,bs]) (fun acc=>by
  unfold zRG
  grind)
 rw[zCf]at this;exact this
theorem yCD(ho:out.length<=1000):zF (zRH x) (out,1)=Wu (out++(Ju x.zA.length).flatMap fun i=>(ups x.zA.length i).map fun j=>CPd (pd4 x i j)):=by
 have hf:=uV (c:=7) (f:=fun i=>(ups x.zA.length i).map fun j=>CPd (pd4 x i j)) (by grind[zAx]) (Ju x.zA.length);rw[Gv]at hf;have:=zBj (body:=zRH x) 0 x.zA.length 2000 (fun i=>(ups x.zA.length i).map fun j=>CPd (pd4 x i j)) out (by grind[Ld]) (fun i acc tq eD hb=>by
  unfold zRH;simp only
  rw[Wz,zK,show((i+1:Nat):Int)+1=((i+1+1:Nat):Int)from by omega,zB,bs,yCC h hn (by omega) (by omega),bs,bs]) (fun acc=>by
  unfold zRH
  grind)
 grind[Ld]
theorem yCE(ho:out.length<=1000):zF (zRI x) (out,1)=Wu (out++(Ju x.zA.length).map fun i=>CPd (pd3 x i)):=by
 have hm:=((zBi (x:=x) (φ:=fun d=>d∈cps x)).1 fun d hd=>hd).2.2.2;have:=zBj (body:=zRI x) 0 x.zA.length 2000 (fun i=>[CPd (pd3 x i)]) out (by rw[zCf,Jm,List.length_range'];omega) (fun i acc tq eD hb=>by
  have ho:=qO h (show i<x.zA.length by omega);unfold zRI;simp only
  have e:J0 (yL x i+1) ((i+1:Nat):Int)=enW (pd3 x i).wd:=by show _=enW (J0 (yL x i+1) i);simp
  rw[Wz,zK,show((i+1:Nat):Int)-1=(i:Int)from by omega,zB (n:=(i:Int)),bs,ho.1,bs,show((yL x i:Nat):Int)+1=((yL x i+1:Nat):Int)from by omega,zB (n:=((yL x i+1:Nat):Int)),bs,zQX h (by omega),bs,e,show(1:Int)=((pd3 x i).t:Int)from rfl,zEU h hn (hm i (by omega)) (by simp only[J8,Kh]at hb;omega),bs,show((i+1:Nat):Int)+((pd3 x i).t:Int)=((i+1+1:Nat):Int)from rfl,zB,bs]) (fun acc=>by
  unfold zRI
  grind)
 grind[zCf,Ld]
theorem zEd:f_d x=Wu ((cps x).map CPd):=by
 have hl:=zKN (x:=x) hn;have em:(cps x).map CPd=((Ju x.zA.length).flatMap fun i=>(ups x.zA.length i).flatMap fun j=>(ups x.zA.length j).map fun k=>CPd (pd2 x i j k))++(((Ju x.zA.length).flatMap fun i=>(ups x.zA.length i).map fun j=>CPd (pd1 x i j))++(((Ju x.zA.length).flatMap fun i=>(ups x.zA.length i).map fun j=>CPd (pd4 x i j))++(Ju x.zA.length).map fun i=>CPd (pd3 x i))):=by simp only[cps,Lq,List.map_flatMap,Q5];rfl
 have dZ:((cps x).map CPd).length<=500:=by grind
 rw[em]at dZ;simp only[J5]at dZ;unfold f_d;rw[yC9 h hn,bs,yCB h hn (by omega),bs,yCD h hn (by grind),bs,yCE h hn (by simp only[J5];omega),bs,em];simp
end
theorem yDW:yAI=zNb:=rfl
theorem yDX:yAJ=zNb:=rfl
theorem qS.get{x:SPr}:{ds:List PD}->{qs:List (Trc×Trc)}->qS x ds qs-> ∀k(h1:k<ds.length)(h2:k<qs.length),(ds[k]).B x (qs[k]).1 (qs[k]).2
 | [],[],_,k,h1,_=>by simp at h1
 |d::ds,q::qs,h,0,_,_=>h.1
 |d::ds,q::qs,h,k+1,h1,h2=>by simpa using qS.get h.2 k (by simpa using h1) (by simpa using h2)
 | [],_::_,h,_,_,_=>by grind
 |_::_,[],h,_,_,_=>by grind
theorem zQY{p:Int}(hk:k<prs.length):zAj p D m (prs.take (k+1)) q=zAj p D m (prs.take k) q++prR p D m (prs[k]).1 (prs[k]).2 q:=by grind[zAj,Jy]
section
variable {x:SPr}{m:zS}{D:Nat} (hD:MOk x.zA.length m D)
 include hD
theorem yCF:zF (zRK ⟨m.Prime,(D:Int),idM D⟩) (idM D,0)=Wu (gl D fun _=>mkv D fun _=>0):=by
 have h3:=hD.d3;have:=zN (body:=zRK ⟨m.Prime,(D:Int),idM D⟩) (r:=gl D fun _=>mkv D fun _=>0) (fun i=>(gl D fun a=>mkv D fun j=>if j=a then(if a<i then 0 else 1)else 0,(i:Int))) D (fun i hi=>by
  unfold zRK;simp only
  rw[qM,xD hi,zK,vM hi,bs,xM (by grind[yI]),bs,zB,bs];simp only[J7];rw[zAG,kS]
  grind) (by
  unfold zRK;simp only
  rw[qM,wX,zL]
  simp_all)
 have e:(gl D fun a=>mkv D fun j=>if j=a then(if a<0 then(0:Int)else 1)else 0)=idM D:=rfl
 grind
theorem yCG(hN:N<=100):zF (zRL m (N:Int)) ([],0)=Wu (smx m.Prime D N fun _ _ _=>0):=by
 refine(tF (body:=zRL m (N:Int)) N (fun _=>zM.mk m.Prime (D:Int) (gl D fun _=>mkv D fun _=>0)) (fun i acc hi ha=>?_) (fun acc=>?_)).trans ?_
 ·unfold zRL
  simp only
  rw[xD hi,zK,hD.d,zBp hD.p (by have:=hD.d3;omega),bs]
  grind[yCF,yA,zB]
 ·unfold zRL
  simp
 ·rfl
section
variable {N:Nat}{G:Nat->Nat->Nat->Int}{R:Nat->List Int}
abbrev zEV(p:Int)(D:Nat)(G:Nat->Nat->Nat->Int)(R:Nat->List Int)(k:Nat):List Int:=R k++mkv D fun j=>G (k/D) (k%D) j%p
theorem yCH(hN:N<=100)(hR:∀k,(R k).length<=100000){r:Nat}(hr:r<N){z:Mx}:
  zF (zRM m (z,(r:Int)) ⟨m.Prime,(D:Int),gl D fun i=>mkv D fun j=>G r i j%m.Prime⟩) (gl (N*D) fun k=>if k<r*D then zEV m.Prime D G R k else R k,0)=Wu (gl (N*D) fun k=>if k<(r+1)*D then zEV m.Prime D G R k else R k):=by
 have h3:=hD.d3;have h1:=hD.d1;have hb:(r+1)*D<=N*D:=Lp D (by omega);have cH:N*D<=100*3:=Gt hN h3;rw[Lo]at hb;have:=zN (body:=zRM m (z,(r:Int)) ⟨m.Prime,(D:Int),gl D fun i=>mkv D fun j=>G r i j%m.Prime⟩) (r:=gl (N*D) fun k=>if k<(r+1)*D then zEV m.Prime D G R k else R k) (fun i=>(gl (N*D) fun k=>if k<r*D+i then zEV m.Prime D G R k else R k,(i:Int))) D (fun i hi=>by
  obtain⟨e1,e2⟩:=zKH (q:=r) hi;unfold zRM;simp only
  rw[yG,xD hi,zK,vM hi,bs,hD.d,<-Int.natCast_mul,zB,bs,<-Ja9,zB,bs,vM,bs,if_neg (by omega),yA (by rw[yI];have:=hR (r*D+i);omega),bs,zB,bs];simp only[J7];rw[zAG]
  grind) (by
  unfold zRM
  grind)
 exact this
theorem yCI(hN:N<=100)(hR:∀k,(R k).length<=100000):zF (zNb m ⟨x,m,smx m.Prime D N G⟩) (gl (N*D) R,0)=Wu (gl (N*D) (zEV m.Prime D G R)):=by
 have gm:(smx m.Prime D N G).length=N:=yG;have:=zN (body:=zNb m ⟨x,m,smx m.Prime D N G⟩) (r:=gl (N*D) (zEV m.Prime D G R)) (fun i=>(gl (N*D) fun k=>if k<i*D then zEV m.Prime D G R k else R k,(i:Int))) N (fun i hi=>by
  unfold zNb;simp only
  rw[gm,xD hi,zK,smx,vM hi,bs,yCH hD hN hR hi,bs,zB,bs];rfl) (by
  unfold zNb
  simp_all)
 grind
end
end
theorem yCJ(h:Pres x):∀d∈cps x,2<=d.wd.length/\((d.wd.getD 0 0=d.wd.getD 1 0/\d.wd.getD (d.wd.length-1) 0≠d.wd.getD 0 0/\d.t=d.wd.length-2)\/(d.wd.getD 0 0=d.wd.getD 1 0/\d.wd.getD (d.wd.length-1) 0=d.wd.getD 0 0/\d.t=1)\/(d.wd.getD 0 0≠d.wd.getD 1 0/\d.t=1)):=by
 refine zBi.2 ⟨fun i j k h1 h2 h3=>?_,fun i j h1 h2=>?_,fun i j h1 h2=>?_,fun i h1=>?_⟩
 ·refine⟨by simp[pd2],.inr (.inr ⟨?_,rfl⟩)⟩
  show k≠j;omega
 ·have o:=(qO h h2).2
  obtain⟨q,hq⟩:∃q,yL x j=q+2:=⟨yL x j-2,by omega⟩;simp only[pd1,hq,J5,Jc,J8,Kh];refine⟨by omega,.inl ⟨rfl,?_,by omega⟩⟩;have:(J0 (q+2) j++[i]).getD (q+2+(0+1)-1) 0=i:=by simp
  grind
 ·have o:=(qO h (show i<x.zA.length by omega)).2
  obtain⟨q,hq⟩:∃q,yL x i=q+2:=⟨yL x i-2,by omega⟩;simp only[pd4,hq,Jc,J8]
  grind
 ·have o:=(qO h h1).2
  obtain⟨q,hq⟩:∃q,yL x i=q+2:=⟨yL x i-2,by omega⟩;simp only[pd3,hq,Jc];simp
section
variable {x:SPr}{m:zS}{D:Nat} (h:Pres x) (hn:x.zA.length<=7) (hD:MOk x.zA.length m D)
 include h hn hD
theorem zWY(hq:qS x (cps x) prs)(hk:k<(cps x).length)(hN:N=base x.zA.length x.zA.length):
  zRN x m (N:Int) ((cps x).map CPd) (gl (N*D) (fun q=>zAj m.Prime D m (prs.take k) q),(k:Int))=Wu (.inl (gl (N*D) (fun q=>zAj m.Prime D m (prs.take (k+1)) q),((k+1:Nat):Int))):=by
 subst hN;have hl:=hq.len;have hd:=Jp hk;have eR:k<prs.length:=by omega
 have eY:=vF x.zA.length (by omega);have h3:=hD.d3;have h1:=hD.d1;have gF:=zKN (x:=x) hn;have fm:=zQW h hn hD hd (hq.get k hk eR) (fun _ _ _=>0);obtain⟨w2,ht⟩:=yCJ h _ hd;have hlw:=(zKM h hn _ hd).l;have fC:=(zKM h hn _ hd).ht;have hR:∀q,(zAj m.Prime D m (prs.take k) q).length<=100000:=fun q=>by rw[zIf,Kv];have:min k prs.length*D<=500*3:=Gt (by omega) h3;omega
 have cy:=yCI (x:=x) (G:=zD2 m D (-1) (zD2 m D 1 (fun _ _ _=>0) (prs[k]).1) (prs[k]).2) hD (show base x.zA.length x.zA.length<=100 by omega) hR;have erow:gl (base x.zA.length x.zA.length*D) (zEV m.Prime D (zD2 m D (-1) (zD2 m D 1 (fun _ _ _=>0) (prs[k]).1) (prs[k]).2) (fun q=>zAj m.Prime D m (prs.take k) q))=gl (base x.zA.length x.zA.length*D) fun q=>zAj m.Prime D m (prs.take (k+1)) q:=xZ fun q _=>by have hm:q%D<D:=Nat.mod_lt _ (by omega);rw[zQY eR,zEV,zUl hm rfl,show q/D*D+q%D=q from by grind[Nat.div_add_mod]]
 rw[erow]at cy;have me:ixO ((cps x).map CPd) (k:Int)=Wu (CPd (cps x)[k]):=by grind[tB]
 generalize (cps x)[k]=d at*
 have key:∀K:xJ->Option ((Mx×Int)⊕Mx),((f_j ⟨x,m,smx m.Prime D (base x.zA.length x.zA.length) fun _ _ _=>0⟩ (enW d.wd) 0 1).bind fun r=>(f_t r.2 r.1 1).bind fun k2=>(f_j k2 (enW d.wd) (d.t:Int) (-1)).bind fun r3=>(f_t r3.2 r3.1 (-1)).bind K)=K ⟨x,m,smx m.Prime D (base x.zA.length x.zA.length) (zD2 m D (-1) (zD2 m D 1 (fun _ _ _=>0) (prs[k]).1) (prs[k]).2)⟩:=fun K=>by have e:=congrArg (fun o=>Gl o K) fm;simp only[Option.bind_assoc,bs]at e;exact e
 unfold zRN;simp only
 rw[Jm,xD hk,zK,me,bs,yCG hD (by omega),bs];simp only[CPd];have i0:=tT (w:=d.wd) (t:=0);have i1:=tT (w:=d.wd) (t:=1);have il:=tT (w:=d.wd) (t:=d.wd.length-1);rw[show((0:Nat):Int)=0 from rfl]at i0;rw[show((1:Nat):Int)=1 from rfl]at i1;rw[i0,bs,i1,bs,Jm];rcases ht with⟨t1,t2,t3⟩|⟨t1,t2,t3⟩|⟨t1,t3⟩
 ·rw[show((((d.wd.getD 0 0:Nat):Int)+1)==(((d.wd.getD 1 0:Nat):Int)+1))=Ww from by grind,zK,zB,bs,show(d.wd.length:Int)-1=((d.wd.length-1:Nat):Int)from by omega,il,bs,show((((d.wd.getD (d.wd.length-1) 0:Nat):Int)+1) != (((d.wd.getD 0 0:Nat):Int)+1))=Ww from by rw[bne_iff_ne];omega,zK,zB,bs,show(d.wd.length:Int)-2=(d.t:Int)from by omega,key,cy,bs,zB,bs]
  rfl
 ·rw[show((((d.wd.getD 0 0:Nat):Int)+1)==(((d.wd.getD 1 0:Nat):Int)+1))=Ww from by grind,zK,zB,bs,show(d.wd.length:Int)-1=((d.wd.length-1:Nat):Int)from by omega,il,bs,show((((d.wd.getD (d.wd.length-1) 0:Nat):Int)+1) != (((d.wd.getD 0 0:Nat):Int)+1))=Wx from by rw[t2];exact bne_self_eq_false _,zL]
  rw[t3]at key;rw[show(1:Int)=((1:Nat):Int)from rfl]at*
  rw[key,yDW,cy,bs,zB,bs];rfl
 ·rw[show((((d.wd.getD 0 0:Nat):Int)+1)==(((d.wd.getD 1 0:Nat):Int)+1))=Wx from by grind,zL]
  rw[t3]at key;rw[show(1:Int)=((1:Nat):Int)from rfl]at*
  rw[key,yDX,cy,bs,zB,bs];rfl
end
def uJ(q:Int)(D n:Nat):zS:=⟨q,(D:Int),gl n fun _=>idM D⟩
theorem tS{q:Int}(h:i<n):(uJ q D n).zR.getD i []=idM D:=by rw[uJ,J2,J3 (by grind)];simp[gl]
theorem zNY{q:Int}(hq:Prime q)(h6:x.zA.length<=7)(hD:D<=8:=by omega):f_S x q (D:Int)=Wu (uJ q D x.zA.length):=by
 unfold f_S;rw[tF (body:=zNd x q (D:Int)) x.zA.length (fun _=>idM D) (fun i acc hi ha=>by
  unfold zNd;simp only
  rw[xD hi,zK,zBp hq hD,bs,yA (by grind),bs,zB,bs];rfl) (fun acc=>by
  unfold zNd;simp),bs]
 rfl
theorem zWZ{q:Int}(hq:Prime q)(h1:1<=D:=by omega)(h3:D<=3:=by omega):MOk n (uJ q D n) D:=
 ⟨hq,rfl,h1,h3,yG,fun i hi=>by rw[tS hi];exact tX hq.pos.1⟩
theorem zDs{q:Int}{D n:Nat}:∀(w:List Nat){B:Mx},Mat q D B->(∀a∈w,a<n)->wM q D (uJ q D n).zR w B=B
 | [],_,_,_=>rfl
 |a::w,B,hB,hw=>by show wM q D (uJ q D n).zR w (PM q D B ((uJ q D n).zR.getD a []))=B;rw[tS (hw a (by simp)),zCI hB];exact zDs w hB (by grind)
theorem zM0(h:Pres x){q:Int}(hq:Prime q):zII x (uJ q D x.zA.length) D:=by
 have hI:Mat q D (idM D):=tX hq.pos.1;intro i hi;refine⟨?_,fun j hj1 tm=>?_⟩
 ·show wM q D _ _ _=wM q D _ _ _
  rw[zDs _ hI (by grind),zDs _ hI fun a ha=>((tL h (jP h hi) hi).2 a ha).2]
 ·show PM q D _ _=PM q D _ (wM q D _ _ _)
  have:=tL h (uI h (show i<j by omega) tm) hi;rw[tS hi,tS tm,zDs _ hI (by grind)]
theorem zQZ:(J0 D (0:Int)).set i 1=mkv D fun j=>if j=i then 1 else 0:=by rw[sK,kS]
theorem zIi{p:Int}(hD:D<=1000):f_G p (D:Int)=Wu (zM.mk p (D:Int) (idM D)):=by
 unfold f_G;rw[tF (body:=zLf (D:Int)) D (fun i=>mkv D fun j=>if j=i then 1 else 0) (fun i acc hi ha=>by
  unfold zLf;simp only
  rw[xD hi,zK,yZ,bs,uL,K3,if_pos hi,bs,J7,zQZ,yA (by grind),bs,zB,bs];rfl) (fun acc=>by
  unfold zLf;simp),bs]
 rfl
theorem zNZ{q:Int}(h6:x.zA.length<=7)(hD:D<=1000:=by omega):f_S x q (D:Int)=Wu (uJ q D x.zA.length):=by
 unfold f_S;rw[tF (body:=zNd x q (D:Int)) x.zA.length (fun _=>idM D) (fun i acc hi ha=>by
  unfold zNd;simp only
  rw[xD hi,zK,zIi hD,bs,yA (by grind),bs,zB,bs];rfl) (fun acc=>by
  unfold zNd;simp),bs]
 rfl
theorem zM1{q:Int}(hq:Prime q)(h3:D<=40:=by omega):zZT n (uJ q D n) D:=
 ⟨hq,rfl,h3,yG,fun i hi=>by rw[tS hi];exact tX hq.pos.1⟩
theorem fv0(v:Vec):fv 0 v=v:=by simp[zeros]
section
variable {x:SPr} (h:Pres x) (hc:xS (suf x 0))
 include h hc
theorem g0:Grp (V (suf x 0)) (mul (suf x 0)) (zeros (suf x 0).length):=zDC h (by omega) hc
theorem ok0:Pc.Ok (suf x 0):=by have _:=hc;exact h.okAt (by omega)
theorem zBF{v:Vec}(hv:V (suf x 0) v):v.length=x.zA.length:=by
 have _:=hc;have:=zHF h (k:=0) (by omega) hv
 rwa [fv0]at this
theorem zXa{a b:Vec}(ha:V (suf x 0) a)(hb:V (suf x 0) b):zI5 x a b=Wu (mul (suf x 0) a b):=by have:=zDD h (k:=0) (by omega) hc ha hb;simpa only[fv0]using this
theorem tv0{a b:Vec}(ha:V (suf x 0) a)(hb:V (suf x 0) b):f_b x a b=Wu (mul (suf x 0) a b):=by have:=zHG h (k:=0) (by omega) hc ha hb;simpa only[fv0]using this
theorem zUm(fO:V (suf x 0) c){e:Int}(e0:0<=e)(e1:e<=1000):f_Q x c e=Wu (pw (mul (suf x 0)) (zeros (suf x 0).length) c e.toNat):=by have:=zND h (k:=0) (by omega) hc fO e0 e1;simpa only[fv0]using this
theorem yCK{a b:Vec}(ha:V (suf x 0) a)(hb:V (suf x 0) b):∃w,V (suf x 0) w/\mul (suf x 0) (mul (suf x 0) b a) w=mul (suf x 0) a b/\zXS x a b=Wu w:=by
 have ok:=ok0 h hc;have G:=g0 h hc;obtain⟨i,i1,i2,i3⟩:=zBb h (k:=0) (by omega) hc ha;obtain⟨c,c1,c2,c3⟩:=zCG h (k:=0) (by omega) hc ha hb;simp only[fv0]at i3 c3;refine⟨mul (suf x 0) i c,yT ok i1 c1,?_,?_⟩
 ·rw[G.assoc hb ha (yT ok i1 c1),<-G.assoc ha i1 c1,i2,G.onel c1,c2]
 ·unfold zXS
  rw[i3,bs,c3,bs,zXa h hc i1 c1,bs]
theorem zCR{a b:Vec}(ha:V (suf x 0) a)(hb:V (suf x 0) b):f_n x a b=Wu (mul (suf x 0) a b):=by have _:=hc;have:=zGE h (k:=0) (by omega) a b ha hb;unfold f_n;rw[show f_a x 0 a b=Wu (mul (suf x 0) a b)from by simpa[zeros]using this,bs]
theorem zYU(fO:V (suf x 0) c){e:Int}(e0:0<=e)(e1:e<=1000):zVf x 0 c e=Wu (pw (mul (suf x 0)) (zeros (suf x 0).length) c e.toNat):=by
 have h6:=h.os.1;have ok:=ok0 h hc;have G:=g0 h hc;have hA:∀a b,V (suf x 0) a->V (suf x 0) b->f_a x 0 a b=Wu (mul (suf x 0) a b):=fun a b ha hb=>by have:=zGE h (k:=0) (by omega) a b ha hb;simpa[zeros]using this
 have pwV:∀a,V (suf x 0) (pw (mul (suf x 0)) (zeros (suf x 0).length) c a):=fun a=>wO G.toMon fO a
 unfold zVf;rw[yZ,bs,zT2 h (k:=0) (by omega),fv0];obtain⟨r,r1,r2⟩:=uH (body:=zQm x 0) (Q:=fun r=>r=pw (mul (suf x 0)) (zeros (suf x 0).length) c e.toNat)
  (fun s=> ∃(m a q:Nat),s=((m:Int),pw (mul (suf x 0)) (zeros (suf x 0).length) c a,pw (mul (suf x 0)) (zeros (suf x 0).length) c q)/\a+q*m=e.toNat/\m<=1000) (fun s=>s.1.toNat) (fun s hs=>by
   obtain⟨m,a,q,rfl,he,hm⟩:=hs;unfold zQm;simp only
   by_cases hm0:m=0
   ·right
    subst hm0;rw[show decide (((0:Nat):Int)> 0)=Wx from rfl,zL];refine⟨_,rfl,?_⟩;rw[<-he,Nat.mul_zero];rfl
   ·left
    have hr:vL (m:Int) 2=Wu ((m%2:Nat):Int):=by unfold vL;rw[if_neg (by decide),Lh (by omega)];rfl
    have hq:vP (m:Int) 2=Wu ((m/2:Nat):Int):=by unfold vP;rw[if_neg (by decide),Int.tdiv_eq_ediv_of_nonneg (by omega)];rw[zB];rfl
    have dF:mul (suf x 0) (pw (mul (suf x 0)) (zeros (suf x 0).length) c q) (pw (mul (suf x 0)) (zeros (suf x 0).length) c q)=pw (mul (suf x 0)) (zeros (suf x 0).length) c (q+q):=(zCA G.toMon fO q q).symm;rw[Wz,zK,hr,bs];rcases Nat.mod_two_eq_zero_or_one m with h2|h2
    ·rw[h2,show((((0:Nat):Int))==1)=Wx from rfl,zL,hA _ _ (pwV q) (pwV q),bs,hq,bs,dF]
     refine⟨_,rfl,⟨m/2,a,q+q,rfl,?_,by omega⟩,by simp only;omega⟩;rw[<-he];have:m=m/2+m/2:=by omega
     have e3:(q+q)*(m/2)=q*m:=by rw[Hj,<-Qv,<-this]
     omega
    ·rw[h2,show((((1:Nat):Int))==1)=Ww from rfl,zK,hA _ _ (pwV a) (pwV q),bs,hA _ _ (pwV q) (pwV q),bs,hq,bs,dF,<-zCA G.toMon fO a q]
     refine⟨_,rfl,⟨m/2,a+q,q+q,rfl,?_,by omega⟩,by simp only;omega⟩;rw[<-he];have:m=m/2+m/2+1:=by omega
     have e3:(q+q)*(m/2)+q=q*m:=by
      have e4:q*m=q*(m/2+m/2+1):=by rw[<-this]
      rw[e4,Qv,Qv,Gd,Hj]
     omega) 1000000 (e,(zeros (suf x 0).length),c) (by simp only;omega) ⟨e.toNat,0,1,by rw[zN5 G.toMon fO,show((e.toNat:Nat):Int)=e from by omega];rfl,by omega,by omega⟩
 rw[r1,bs,r2]
theorem zPW(fO:V (suf x 0) c){e:Int}(e0:0<=e)(e1:e<=1000):zFV x c e=Wu (pw (mul (suf x 0)) (zeros (suf x 0).length) c e.toNat):=by unfold zFV;rw[Wy (by omega),zL,zYU h hc fO e0 e1,bs]
theorem zYV(fO:V (suf x 0) c){e:Int}(e0:0<e)(e1:e<=1000):∃u,V (suf x 0) u/\mul (suf x 0) c u=(zeros (suf x 0).length)/\zFV x c (-e)=Wu (pw (mul (suf x 0)) (zeros (suf x 0).length) u e.toNat):=by obtain⟨u,u1,u2,u3⟩:=zEF h hc fO;refine⟨u,u1,u2,?_⟩;unfold zFV;rw[Wz,zK,u3,bs,zB,bs,show(0:Int)- -e=e from by omega,zYU h hc u1 (by omega) e1,bs]
theorem yAt{a b:Vec}(ha:V (suf x 0) a)(hb:V (suf x 0) b):∃w,V (suf x 0) w/\mul (suf x 0) (mul (suf x 0) b a) w=mul (suf x 0) a b/\zXP x a b=Wu w:=by
 have ok:=ok0 h hc;have G:=g0 h hc;have hba:=yT ok hb ha;have fA:=yT ok ha hb;obtain⟨i,i1,i2,i3⟩:=zEF h hc hba;refine⟨mul (suf x 0) i (mul (suf x 0) a b),yT ok i1 fA,?_,?_⟩
 ·rw[<-G.assoc hba i1 fA,i2,G.onel fA]
 ·unfold zXP
  rw[zCR h hc hb ha,bs,i3,bs,zCR h hc ha hb,bs,zCR h hc i1 fA,bs]
theorem zCg:Fil (V (suf x 0)) (mul (suf x 0)) (zeros (suf x 0).length) x.zA.length (fun d=>at0 x.zA d) (fun v d=>at0 v d):=by
 have F:=fil (ok0 h hc) hc;have hl:(suf x 0).length=x.zA.length:=by rw[yC];omega
 have ho:∀d,d<x.zA.length->od (suf x 0) d=at0 x.zA d:=fun d hd=>by unfold od suf;rw[Jn,J3 (by simpa using hd)];simp[lvl]
 exact⟨F.g,fun ha hd=>by have:=F.r ha (by rw[hl];exact hd);rwa [ho _ hd]at this,fun hd=>F.e0 (by rw[hl];exact hd),fun ha hb hh=>F.ex ha hb fun d hd=>hh d (by rw[<-hl];exact hd),
  fun ha hb hd hz=>by have:=F.ad ha hb (by rw[hl];exact hd) hz;rw[ho _ hd]at this;exact this⟩
end
def tbl(b:Mx)(k:Nat):Option Vec:=match b.getD k []with
 | []=>Wv
 |v::vs=>Wu (v::vs)
theorem jQ{b:Mx}{t:Vec}:tbl b k=Wu t↔b.getD k []=t/\t≠[]:=by
 unfold tbl;cases b.getD k []with
 |nil=>simp
 |cons v vs=>simp;intro h;rw[<-h];simp
theorem tH{b:Mx}:tbl b k=Wv↔b.getD k []=[]:=by unfold tbl;cases b.getD k []<;>simp
theorem zKO{b:Mx}{d:Nat}(hd:d<b.length)(hy:y≠[]):tbl (b.set d y)=fun j=>if j=d then Wu y else tbl b j:=by
 funext j
 by_cases h:j=d
 ·subst h
  rw[if_pos rfl,jQ,J2,Jat hd];exact⟨rfl,hy⟩
 ·rw[if_neg h]
  unfold tbl;rw[J2,List.getElem?_set_ne (fun e=>h e.symm),<-J2]
def zAM:Mx->Nat
 | []=>0
 | []::b=>zAM b+1
 |(_::_)::b=>zAM b
theorem zDt:∀b:Mx,zAM b<=b.length
 | []=>J9 _
 | []::b=>by simp only[zAM,J8];have:=zDt b;omega
 |(_::_)::b=>by simp only[zAM,J8];have:=zDt b;omega
theorem zIj:∀(b:Mx)(d:Nat)(y:Vec),d<b.length->b.getD d []=[]->y≠[]->zAM (b.set d y)+1=zAM b
 | [],d,y,h,_,_=>by simp at h
 |v::b,0,y,_,h,hy=>by
  simp at h;subst h;cases y with
  |nil=>exact absurd rfl hy
  |cons a y=>simp[zAM]
 |v::b,d+1,y,h,h1,hy=>by have ih:=zIj b d y (by simpa using h) (by simpa using h1) hy;cases v<;>simp only[L8,zAM]<;>omega
theorem zCh(hl:v.length<=1000:=by omega):∃d:Nat,d<=v.length/\zO8 v=Wu (d:Int)/\(∀j,j<d->at0 v j=0)/\(d<v.length->at0 v d≠0):=by
 obtain⟨r,r1,r2⟩:=uE (body:=zNf v) (Q:=fun r=>match r with
   |.inl ()=> ∀j,j<v.length->at0 v j=0
   |.inr e=> ∃d:Nat,e=(d:Int)/\d<v.length/\(∀j,j<d->at0 v j=0)/\at0 v d≠0)
  (fun i s=>s=(i:Int)/\ ∀j,j<i->at0 v j=0) v.length (fun i s hi hs=>by
   obtain⟨rfl,hz⟩:=hs;unfold zNf;rw[xD hi,zK,yS 0 hi,bs]
   by_cases h0:at0 v i=0
   ·left
    have cZ:v.getD i 0=0:=h0;rw[cZ,show((0:Int) != 0)=Wx from rfl,zL,zB,bs,cs];refine⟨_,rfl,rfl,fun j hj=>?_⟩
    by_cases e:j=i
    ·rw[e];exact h0
    ·exact hz j (by omega)
   ·right
    have cZ:(v.getD i 0 != 0)=Ww:=by simpa using h0
    rw[cZ,zK];exact⟨_,rfl,i,rfl,hi,hz,h0⟩) (fun s hs=>by
   obtain⟨rfl,hz⟩:=hs;unfold zNf;rw[wX,zL];exact⟨_,rfl,hz⟩) (s:=0) ⟨rfl,fun j hj=>by omega⟩
 unfold zO8;rw[r1,bs];cases r with
 |inl u=>exact⟨v.length,J9 _,rfl,r2,fun h=>absurd h (Jax _)⟩
 |inr e=>
  obtain⟨d,rfl,h1,h2,h3⟩:=r2;exact⟨d,by omega,rfl,h2,fun _=>h3⟩
section
variable {x:SPr} (h:Pres x) (hc:xS (suf x 0)) {b:Mx} (hb:b.length=x.zA.length) (hT:Tab (V (suf x 0)) x.zA.length (fun v d=>at0 v d) (tbl b))
 include h hc hb hT
theorem zRa(hy:V (suf x 0) y):∃(z:Vec)(d:Nat),zXR ⟨x,b⟩ y=Wu (z,⟨x,b⟩)/\Sf (V (suf x 0)) (mul (suf x 0)) (zeros (suf x 0).length) x.zA.length (fun v d=>at0 v d) (tbl b) y z/\
  d<=x.zA.length/\(∀j,j<d->at0 z j=0)/\(d<x.zA.length->at0 z d≠0/\tbl b d=Wv):=by
 have h6:=h.os.1;have F:=zCg h hc;obtain⟨d0,a1,a2,a3,a4⟩:=zCh (v:=y) (by rw[zBF h hc hy];omega);rw[zBF h hc hy]at a1 a4;obtain⟨r,r1,_,d,rfl,r3,r4,r5,r6⟩:=uH (body:=zQo ⟨x,b⟩)
  (Q:=fun r=> ∃(z:Vec)(d:Nat),r=z/\Sf (V (suf x 0)) (mul (suf x 0)) (zeros (suf x 0).length) x.zA.length (fun v d=>at0 v d) (tbl b) y z/\d<=x.zA.length/\(∀j,j<d->at0 z j=0)/\(d<x.zA.length->at0 z d≠0/\tbl b d=Wv))
  (fun s=> ∃(z:Vec)(d:Nat),s=(z,(d:Int))/\Sf (V (suf x 0)) (mul (suf x 0)) (zeros (suf x 0).length) x.zA.length (fun v d=>at0 v d) (tbl b) y z/\d<=x.zA.length/\(∀j,j<d->at0 z j=0)/\(d<x.zA.length->at0 z d≠0))
  (fun s=>x.zA.length-s.2.toNat) (fun s hs=>by
   obtain⟨z,d,rfl,sf,d1,d2,d3⟩:=hs;have hz:=sf.s;have pb:=zBF h hc hz;unfold zQo;simp only
   by_cases hd:d<x.zA.length
   ·rw[show decide ((d:Int)<(z.length:Int))=Ww from Wz,zK,yS [],bs]
    cases ht:b.getD d []with
    |nil=>
     right;rw[show(!(([]:List Int)).isEmpty)=Wx from rfl,zL];exact⟨_,rfl,z,d,rfl,sf,d1,d2,fun _=>⟨d3 hd,tH.2 ht⟩⟩
    |cons t0 ts=>
     left;have eM:tbl b d=Wu (t0::ts):=jQ.2 ⟨ht,by simp⟩;obtain⟨_,t2,t3,t4⟩:=hT.h eM;have fm:=h.os.2 d hd;have hp7:=fm.pos;have hr:=F.r hz hd;have k1:=F.killl hd t2 t3 t4 hz d2;obtain⟨q1,q2,_⟩:=F.pw1 hd t2 t3 t4 (at0 x.zA d-at0 z d).toNat;obtain⟨s1,s2⟩:=Sf.left F hT hd hz d2 (d3 hd) eM (fun _ g=>g.pw _) q1 q2 k1;have iI:=s1.s;rw[show(!((t0::ts)).isEmpty)=Ww from rfl,zK,bs,yS 0 hd,bs,yS 0,bs];rw[zB (by show _<=at0 x.zA d-at0 z d;omega) (by show at0 x.zA d-at0 z d<=_;omega),bs];rw[show x.zA.getD d 0-z.getD d 0=at0 x.zA d-at0 z d from rfl,zUm h hc t2 (by omega) (by omega),bs,zXa h hc q1 hz,bs,yS 0 (by rw[zBF h hc iI];exact hd),bs];rw[show Jao (mul (suf x 0) (pw (mul (suf x 0)) (zeros (suf x 0).length) (t0::ts) (at0 x.zA d-at0 z d).toNat) z) d 0=0 from k1,show((0:Int) != 0)=Wx from rfl,zL];obtain⟨e0,b1,b2,b3,b4⟩:=zCh (v:=mul (suf x 0) (pw (mul (suf x 0)) (zeros (suf x 0).length) (t0::ts) (at0 x.zA d-at0 z d).toNat) z) (by rw[zBF h hc iI];omega);rw[zBF h hc iI]at b1 b4;rw[b2,bs];refine⟨_,rfl,⟨_,e0,rfl,sf.trans s1,b1,b3,b4⟩,?_⟩;have:d<e0:=by apply Classical.byContradiction;intro gf;have:=s2 e0 (by omega);exact b4 (by omega) this
     simp only[J7];omega
   ·right
    rw[show decide ((d:Int)<(z.length:Int))=Wx from Wy (by omega),zL];exact⟨_,rfl,z,d,rfl,sf,d1,d2,fun hh=>absurd hh hd⟩) 1000 (y,(d0:Int)) (by simp only;omega) ⟨y,d0,rfl,Sf.refl hy,a1,a3,a4⟩
 refine⟨r,d,?_,r3,r4,r5,r6⟩;unfold zXR;rw[a2,bs,r1,bs]
end
end Go.Pl
