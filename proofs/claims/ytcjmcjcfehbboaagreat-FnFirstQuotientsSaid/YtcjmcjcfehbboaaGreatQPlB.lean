/- x -/
import Derived.Test.YtcjmcjcfehbboaaGreatQPlA
import Derived.Test.YtcjmcjcfehbboaaGreatQWF
import Derived.Test.YtcjmcjcfehbboaaGreatQAbB
open List renaming replicate→J1,getD_eq_getElem?_getD→J2,getElem?_eq_getElem→J4,length_append→J8,length_singleton→Jd,getElem?_append_right→Je,take_of_length_le→Jg,mem_map→Jh,append_assoc→Ji,length_map→Jj,length_replicate→Jl,map_cons→Jm,eq_nil_of_length_eq_zero→Jn,getElem?_map→Jp,all_eq_true→Jr,mem_cons→Js,getElem_mem→Jt,range→Ju,length_cons→Jx,nil_append→Jy,getElem?_replicate→K1,replicate_append_replicate→K3,mem_append→K4,mem_range→K5,getElem?_append_left→K9,nodup_cons→Kj,set_cons_succ→Kk,ext_getElem?→Kl,length_drop→Km,length_set→Kn,take_zero→Kv,take_add_one→Kw,drop_replicate→L1,drop_append_of_le_length→L2,map_append→L7,range_succ→L9,filterMap_cons→Lf,length_nil→Li,drop_eq_getElem_cons→Lv,getElem?_eq_none→H1,drop_zero→H3,length_range→H8,drop_of_length_le→H9,replicate_succ'→Hb,range'_succ→Hi,getElem_replicate→G3,getElem?_take_of_lt→G4,cons_append→G5,range'→Ga,getElem_of_mem→Gx,map_congr_left→U7,getD→Uc,idxOf_lt_length_of_mem→Uk,range_succ_eq_map→Qj,cons→Qm,all_eq_false→Qq,nodup_range→Qw,length→Qx,ext_getElem→Qz,idxOf_cons→Ja3,getD_cons_zero→Ja4,drop_left'→Ja5,getElem?_set_self→Jaa,mem_iff_getElem→Jah,getElem?_set_ne→Jaj,take_left'→Jao,mem_filter→Jap,map_map→Jau,drop→Jb4
open Bool renaming and_eq_true→J3,not_true→Jo,not_false→K2
open Nat renaming le_refl→J7,zero_add→Jc,lt_or_ge→Jf,zero_le→Jw,sub_self→L8,eq_or_lt_of_le→Lr,lt_trichotomy→H4,add_mul→H6,strongRecOn→Gg,mul_one→Gw,mul_add→Q7,lt_irrefl→Jbm,eq_zero_or_pos→Jbn
open Int renaming toNat_natCast→J9,emod_eq_of_lt→Jb,mul_emod→Jq,add_emod→Jv,zero_add→Jz,emod_emod→K0,add_zero→Kd,mul_one→Kf,emod_lt_of_pos→Kh,emod_nonneg→Kq,mul_zero→L3,tdiv_eq_ediv_of_nonneg→Lb,emod_emod_of_dvd→Ld,pow_succ→Lo,mul_comm→Lp,one_mul→Hj,dvd_refl→G6,zero_emod→G9,tmod_eq_emod_of_nonneg→Gb,zero_mul→Gf,mul_emod_right→Gm,mul_nonneg→Gy,sub_emod→Gz,emod_self→U4,sub_zero→Ud,pow_pos→Um,add_emod_right→Un,le_refl→Qc,toNat_of_nonneg→Qn,tdiv_nonneg→Jab,add_emod_emod→Jar,add_comm→Jas,tmod_lt_of_pos→Jbo,add_assoc→Jbp
open Option renaming getD_some→Kr,map_some→Ua,map_none→Ub,isSome_iff_exists→Ui,isSome_none→Qi
open Option renaming some→jq,none→jr
open Bool renaming true→js,false→jt
namespace Go.Pl
open Go Go.Ab Go.Wk Go.Pc
theorem zHh{N c:Nat}{f:Nat→Int}:(mkv N f).drop c=mkv (N-c) fun i=>f (c+i):=by
 have hl:((mkv N f).drop c).length=N-c:=by rw[Km,yG]
 grind[tM,yV,zHg,yD]
theorem zBe{n j:Nat}:tY n j=mkv n fun i=>if i=j then 1 else 0:=by rw[tY,show zeros n=J1 n (0:Int)from rfl,qO,zAs]
theorem vE{n i:Nat}:at0 (zeros n) i=0:=by
 rcases Jf i n with g|g
 ·simp[zeros,at0,J2,g]
 ·simp[zeros,at0,J2,g]
theorem zD9.p{x:SPr}(h:zD9 x)(hl:x.zA.length≤14):Pres x:=⟨⟨hl,h.os.2⟩,h.pl,h.cl,h.tl⟩
structure ExB (n D:Nat) (x:SPr) (m:yS) (T:Mx):Prop where
 hn:n≤6
 o:x.zA.length=n
 p:x.yB.length=n
 c:x.zD.length=n
 cl:∀i,i<n→(x.zD.getD i []).length=n-1-i
 t:T.length=base n n
 m:yAq n m D
section
variable {D:Nat}{x:SPr}{m:yS}{T:Mx} (h:Pres x) (hE:ExB x.zA.length D x m T) (hT:∀i,i<T.length→Row m.Prime D (T.getD i []))
 include h hE hT
abbrev exx(D:Nat)(x:SPr)(m:yS)(T:Mx):SPr:=ext x.zA.length D x m T
theorem qH:(exx D x m T).zA.length=x.zA.length+D:=by have _:=h;have _:=hE;have _:=hT;simp[exx,ext]
theorem zEG{i:Nat}(hi:i<x.zA.length):at0 (exx D x m T).zA i=at0 x.zA i:=by
 have _:=h;have _:=hE;have _:=hT;show at0 (x.zA++J1 D m.Prime) i=_
 grind
theorem zCi{i:Nat}(hi:x.zA.length≤i)(h2:i<x.zA.length+D):at0 (exx D x m T).zA i=m.Prime:=by
 have _:=h;have _:=hE;have _:=hT;show at0 (x.zA++J1 D m.Prime) i=_
 grind
theorem zM3{v t:List Int}{i:Nat}(hv:v.length=x.zA.length)(hr:∀j,j<x.zA.length→0≤at0 v j∧at0 v j≤at0 x.zA j-1)(hz:∀j,j≤i→j<x.zA.length→at0 v j=0)(ht:Row m.Prime D t)(hi:i<x.zA.length):Exp (exx D x m T).zA (v++t) i:=by
 have hl:=qH h hE hT;refine⟨⟨by rw[J8,hv,ht.1,hl],fun j hj=>?_⟩,fun j hj=>?_⟩
 ·rw[J8,hv,ht.1]at hj
  rw[zJ0,hv];split
  ·grind[zEG]
  ·next g=>rw[zCi h hE hT (by omega) hj];exact ht.2 _ (by omega)
 grind
theorem zLd(i:Nat)(hi:i<base x.zA.length x.zA.length):Row m.Prime D (T.getD i []):=by have _:=h;exact hT i (by rw[hE.t];exact hi)
theorem zFZ:zD9 (exx D x m T):=by
 have hn:=hE.hn;have h3:=hE.m.d3;have h7:=hE.m.p.pos;have hl:=qH h hE hT;have hb:=zCQ x.zA.length (by omega);refine⟨⟨trivial,fun i hi=>?_⟩,by rw[hl];exact yK,by rw[hl];exact yK,fun i hi=>?_⟩
 ·rw[hl]at hi
  rcases Jf i x.zA.length with g|g
  ·rw[zEG h hE hT g];exact h.os.2 i g
  ·rw[zCi h hE hT g hi];exact hE.m.p
 ·rw[hl]at hi
  have hP:(exx D x m T).yB.getD i []=exP x.zA.length D x T i:=vO hi;have hC:(exx D x m T).zD.getD i []=exC x.zA.length D x m T i:=by
   show(gl (x.zA.length+D) (exC x.zA.length D x m T)).getD i []=_
   grind
  refine⟨?_,?_,?_⟩
  ·rw[hP,exP]
   rcases Jf i x.zA.length with g|g
   ·rw[if_pos g]
    obtain⟨t1,_,_⟩:=h.tl i g;exact zM3 h hE hT t1.1.1 (fun j hj=>t1.1.2 j (by rw[t1.1.1];exact hj)) (fun j hj _=>t1.2 j hj) (by grind[zLd]) g
   ·rw[if_neg (by omega)]
    have hz:∀j,at0 (J1 (x.zA.length+D) (0:Int)) j=0:=fun j=>vE
    refine⟨⟨by grind,fun j hj=>?_⟩,fun j _=>hz j⟩;rw[Jl]at hj;rw[hz];rcases Jf j x.zA.length with g2|g2
    ·rw[zEG h hE hT g2];have:=(h.os.2 j g2).pos;omega
    grind[zCi]
  ·grind[exC,unC]
  ·rw[hC,exC]
   split
   ·next g=>
    intro j hj;rw[yK]at hj;rw[vO hj,exF];split
    ·next g2=>
     have gK:=hE.cl i g;have hbl:=zJy x.zA.length (by omega) i g;obtain⟨_,_,t3⟩:=h.tl i g;have t:=t3 j (by omega);exact zM3 h hE hT t.1.1 (fun q hq=>t.1.2 q (by rw[t.1.1];exact hq)) (fun q hq _=>t.2 q hq) (by grind[zLd]) g
    ·next g2=>
     have hz:∀j,at0 (J1 x.zA.length (0:Int)) j=0:=fun j=>vE
     refine zM3 h hE hT (by simp) (fun q hq=>?_) (fun q _ _=>hz q) ((hE.m.mat i g).2 _ (by omega)) g;rw[hz];have:=(h.os.2 q hq).pos;omega
   ·next g=>
    intro j hj;rw[unC,yK]at hj;rw[unC,vO hj];refine⟨⟨by rw[hl];exact yG _ _,fun q hq=>?_⟩,fun q hq=>?_⟩
    ·rw[zX,yG]at hq
     rw[zX,yD hq];rcases Jf q x.zA.length with g2|g2
     ·rw[zEG h hE hT g2];have:=(h.os.2 q g2).pos;omega
     grind[zCi]
    ·rw[zX,yD (by omega),if_neg (by omega)]
theorem zOf{k:Nat}(hk:k<x.zA.length):(lvl (exx D x m T) k).o=at0 x.zA k:=zEG h hE hT hk
theorem yAz{k:Nat}(hk:k<x.zA.length):(lvl (exx D x m T) k).w=(lvl x k).w++T.getD k []:=by have t1:=(h.tl k hk).1.1.1;have _:=hE;have _:=hT;show((exx D x m T).yB.getD k []).drop (k+1)=_;have hP:(exx D x m T).yB.getD k []=exP x.zA.length D x T k:=vO (by omega);rw[hP,exP,if_pos hk,L2 (by omega)];rfl
def eC1(x:SPr)(T:Mx)(k:Nat):List Vec:=gl (x.zA.length-1-k) fun j=>(lvl x k).cs.getD j []++T.getD (base x.zA.length k+j) []
def eC2(x:SPr)(m:yS)(D k:Nat):List Vec:=((gl D fun j=>(m.yZ.getD k []).getD j []).map fun r=>zeros (x.zA.length-1-k)++r)
theorem zJ4{k:Nat}(hk:k<x.zA.length):(lvl (exx D x m T) k).cs=eC1 x T k++eC2 x m D k:=by
 have gK:=hE.cl k hk;have _:=hT;show((exx D x m T).zD.getD k []).map (·.drop (k+1))=_;have hC:(exx D x m T).zD.getD k []=exC x.zA.length D x m T k:=by
  show(gl (x.zA.length+D) (exC x.zA.length D x m T)).getD k []=_
  grind
 rw[hC,exC,if_pos hk];apply Kl;intro j
 by_cases hj:j<x.zA.length+D-1-k
 ·have e1:((gl (x.zA.length+D-1-k) (exF x.zA.length x m T k)).map (·.drop (k+1)))[j]? =jq ((exF x.zA.length x m T k j).drop (k+1)):=by grind
  rw[e1,exF]
  by_cases g:j<x.zA.length-1-k
  ·rw[if_pos g,K9 (by grind[eC1])]
   have t:=(h.tl k hk).2.2 j (by omega);rw[L2 (by have:=t.1.1;omega)];have e2:(eC1 x T k)[j]? =jq ((lvl x k).cs.getD j []++T.getD (base x.zA.length k+j) []):=by simp[eC1,gl,g]
   rw[e2]
   congr 2
   simp only[lvl,J2,Jp]
   grind
  ·rw[if_neg g,Je (by grind[eC1]),eC1,yK]
   have e2:(eC2 x m D k)[j-(x.zA.length-1-k)]? =jq (zeros (x.zA.length-1-k)++(m.yZ.getD k []).getD (j-(x.zA.length-1-k)) []):=by simp[eC2,gl,show j-(x.zA.length-1-k)<D by omega]
   rw[e2,L2 (by simp;omega),L1,show x.zA.length-(k+1)=x.zA.length-1-k from by omega];rfl
 ·rw[H1 (by grind),H1 (by simp[eC1,eC2,gl];omega)]
end
def tlv(p:Int):Nat→Pcp
 |0=>[]
 |d+1=>⟨p,zeros d,wH d⟩::tlv p d
theorem zDr{p:Int}:∀d,(tlv p d).length=d
 |0=>rfl
 |d+1=>by simp[tlv,zDr d]
theorem zHi{p:Int}:∀(d:Nat)(v:Vec),V (tlv p d) v↔Row p d v
 |0,v=>by
  constructor
  ·intro h
   obtain rfl:v=[]:=h;exact⟨rfl,fun i hi=>by omega⟩
  ·intro h
   have:=Jn h.1;subst this;exact rfl
 |d+1,v=>by
  cases v with
  |nil=>exact⟨fun h=>h.elim,fun h=>by have:=h.1;grind⟩
  |cons a v=>
   show((0≤a∧a<p)∧V (tlv p d) v)↔_;rw[zHi d v];constructor
   ·rintro⟨⟨h0,h1⟩,h2⟩
    refine⟨by simp[h2.1],fun i hi=>?_⟩;cases i with
    |zero=>grind
    |succ i=>have:=h2.2 i (by omega);grind
   ·intro h
    have h0:=h.2 0 (by omega);simp only[at0,Ja4]at h0;refine⟨⟨h0.1,by omega⟩,by have:=h.1;grind,fun i hi=>?_⟩;have:=h.2 (i+1) (by omega)
    grind
abbrev adv(p:Int)(D:Nat)(u v:List Int):List Int:=mkv D fun j=>(at0 u j+at0 v j)%p
theorem sU{p:Int}{D:Nat}{u v:List Int}(hp:0<p):Row p D (adv p D u v):=by refine⟨yG _ _,fun j hj=>?_⟩;rw[yD hj];have e1:=Kq (at0 u j+at0 v j) (show p≠0 by omega);have e2:=Kh (at0 u j+at0 v j) hp;omega
theorem zEH{p:Int}{D:Nat}{c:List Int}(hp:0<p):∀(k:Nat)(acc:List Int),Row p D acc→iter k (fun w=>adv p D w c) acc=mkv D fun j=>(at0 acc j+(k:Int)*at0 c j)%p
 |0,acc,ha=>by
  show acc=_
  conv=>lhs;rw[tM ha.1]
  refine yV fun j hj=>?_
  have:=ha.2 j hj;rw[Int.natCast_zero,Gf,Kd,Jb this.1 (by omega)]
 |k+1,acc,ha=>by
  show iter k (fun w=>adv p D w c) (adv p D acc c)=_;rw[zEH hp k _ (sU hp)];refine yV fun j hj=>?_
  grind[yD,Jv,K0]
theorem zXX{f:Nat→Int}{n:Nat}:S (n+1) f=f 0+S n fun i=>f (i+1):=by
 rw[Nat.add_comm,zJ1 1 n];simp only[S]
 grind
theorem zGa{p:Int}{D:Nat}(hp:0<p):∀(cs:List Vec)(v acc:Vec),v.length=cs.length→(∀i,i<v.length→0≤at0 v i)→Row p D acc→img (adv p D) cs v acc=mkv D fun j=>(at0 acc j+S cs.length fun k=>at0 v k*ent cs k j)%p
 | [],v,acc,hl,_,ha=>by
  show acc=_
  conv=>lhs;rw[tM ha.1]
  refine yV fun j hj=>?_
  have:=ha.2 j hj;simp only[Li,S];rw[Kd,Jb this.1 (by omega)]
 |c::cs,[],acc,hl,_,_=>by simp at hl
 |c::cs,a::v,acc,hl,hv,ha=>by
  have h0:=hv 0 (by simp);simp only[at0,Ja4]at h0;have ca:Row p D (iter a.toNat (fun w=>adv p D w c) acc):=sA (S:=Row p D) (fun _ _=>sU hp) _ ha;show img (adv p D) cs v (iter a.toNat (fun w=>adv p D w c) acc)=_;rw[zGa hp cs v _ (by grind) (fun i hi=>by have:=hv (i+1) (by grind);grind) ca,zEH hp _ _ ha];refine yV fun j hj=>?_
  rw[yD hj,Jx,zXX,Jv,K0,←Jv,Qn h0,Jbp];rfl
theorem zDs{α:Type}{S:α→Prop}{m m':α→α→α}(hm:∀a b,S a→S b→m a b=m' a b)(hc:∀a b,S a→S b→S (m' a b)):∀(cs:List α)(v:Vec)(acc:α),(∀c∈cs,S c)→S acc→img m cs v acc=img m' cs v acc
 | [],_,_,_,_=>by simp[img]
 |c::cs,[],_,_,_=>by simp[img]
 |c::cs,a::v,acc,h1,h2=>by
  have tf:=h1 c (by simp);have e:∀k acc,S acc→iter k (fun w=>m w c) acc=iter k (fun w=>m' w c) acc∧S (iter k (fun w=>m' w c) acc):=by
   intro k
   induction k with
   |zero=>intro acc ha;exact⟨rfl,ha⟩
   |succ k ih=>
    intro acc ha;show iter k (fun w=>m w c) (m acc c)=iter k (fun w=>m' w c) (m' acc c)∧_;rw[hm acc c ha tf];exact ih _ (hc _ _ ha tf)
  show img m cs v (iter a.toNat (fun w=>m w c) acc)=img m' cs v (iter a.toNat (fun w=>m' w c) acc);rw[(e _ _ h2).1];exact zDs hm hc cs v _ (by grind) (e _ _ h2).2
theorem zDt{d k j:Nat}(hk:k<d)(hj:j<d):ent (wH d) k j=if j=k then 1 else 0:=by
 have e:(wH d).getD k []=tY d k:=by grind[wH]
 rw[ent,e,zBe,yD hj]
theorem wV{p:Int}{D:Nat}(hp:0<p):Row p D (zeros D):=zR5 hp
theorem zAu{p:Int}(hp:2≤p):∀(d:Nat)(u v:Vec),Row p d u→Row p d v→mul (tlv p d) u v=adv p d u v
 |0,u,v,hu,_=>by rfl
 |d+1,u,v,hu,hv=>by
  have ih:=zAu hp d;have bQ:=(zHi (d+1) u).2 hu;have px:=(zHi (d+1) v).2 hv;cases u with
  |nil=>exact bQ.elim
  |cons a u=>
   cases v with
   |nil=>exact px.elim
   |cons b v=>
    obtain⟨⟨a0,a1⟩,uk⟩:=bQ;obtain⟨⟨b0,b1⟩,fJ⟩:=px;have hu3:=(zHi d u).1 uk;have cB:=(zHi d v).1 fJ;change a<p at a1;change b<p at b1;have fp:∀w,Row p d w→sig (tlv p d) ⟨p,zeros d,wH d⟩ w=w:=fun w hw=>by
     have ug:∀c∈wH d,Row p d c:=fun c hc=>by obtain⟨k,hk,rfl⟩:=Jh.1 hc;rw[zBe];exact⟨yG _ _,by grind[yD]⟩
     unfold sig;rw[zDr,zDs (S:=Row p d) (m':=adv p d) (by omega) (fun _ _ _ _=>sU (by omega)) (wH d) w _ ug (wV (by omega)),zGa (by omega) (wH d) w _ (by rw[hw.1];simp[wH]) (fun i hi=>(hw.2 i (by rw[←hw.1];exact hi)).1) (wV (by omega))]
     conv=>rhs;rw[tM hw.1]
     refine yV fun j hj=>?_
     have cD:(wH d).length=d:=by simp[wH]
     have:=hw.2 j hj;rw[cD,vE,Jz,zBO (k:=j) hj (fun k hk gf=>by rw[zDt hk hj,if_neg (Ne.symm gf),L3]),zDt hj hj,if_pos rfl,Kf,Jb this.1 (by omega)]
    have pi:∀k,iter k (sig (tlv p d) ⟨p,zeros d,wH d⟩) u=u:=by grind[zEC]
    show mul (⟨p,zeros d,wH d⟩::tlv p d) (a::u) (b::v)=_;rw[xG,pi,ih u v hu3 cB];have hz:adv p d (zeros d) (adv p d u v)=adv p d u v:=by
     refine yV fun j hj=>?_
     rw[yD hj,vE,Jz,K0]
    rw[ih _ _ (wV (by omega)) (sU (by omega)),hz];have aW:adv p (d+1) (a::u) (b::v)=(a+b)%p::adv p d u v:=by
     simp only[adv,mkv,Qj,Jm,Jau]
     congr 1
    rw[aW];split
    ·next g=>
     have g:a+b≥p:=g;have e:(a+b)%p=a+b-p:=by rw[show a+b=(a+b-p)+p from by omega,Un,Jb (by omega) (by omega)];omega
     grind
    ·next g=>
     have g:¬a+b≥p:=g
     congr 1
     exact(Jb (by omega) (by omega)).symm
end Go.Pl

namespace Go.Pl
open Go Go.Ab Go.Wk Go.Pc
theorem zOg{α:Type}{m:α→α→α}:∀(c1:List α)(y:Vec)(c2:List α)(u:Vec)(acc:α),c1.length=y.length→img m (c1++c2) (y++u) acc=img m c2 u (img m c1 y acc)
 | [],[],_,_,_,_=>by rfl
 | [],_::_,_,_,_,h=>by simp at h
 |_::_,[],_,_,_,h=>by simp at h
 |c::c1,a::y,c2,u,acc,h=>zOg c1 y c2 u _ (by grind)
theorem zLe{p:Int}{D:Nat}{r:List Int}(hr:Row p D r):zA2 p D r (idM D)=r:=by
 conv=>rhs;rw[tM hr.1]
 refine yV fun j hj=>?_
 have:=hr.2 j hj;have e:∀l,l<D→ent (idM D) l j=if j=l then 1 else 0:=fun l hl=>by rw[ent,zDn hl,yD hj]
 rw[zBO (k:=j) hj (by grind),e j hj,if_pos rfl,Kf,tV this]
theorem zOh{p:Int}{D:Nat}{r:List Int}{A B:Mx}(hA:A.length=D):zA2 p D (zA2 p D r A) B=zA2 p D r (PM p D A B):=by
 refine yV fun j hj=>?_
 have e1:S D (fun l=>at0 (zA2 p D r A) l*ent B l j)%p=S D (fun l=>S D (fun i=>at0 r i*ent A i l)*ent B l j)%p:=zCL (by grind[zA2,yD,Jq,K0]);have e2:S D (fun l=>at0 r l*ent (PM p D A B) l j)%p=S D (fun i=>at0 r i*S D (fun l=>ent A i l*ent B l j))%p:=zCL (by grind[zMr,Jq,K0]);rw[e1,e2]
 congr 1
 have e3:S D (fun l=>S D (fun i=>at0 r i*ent A i l)*ent B l j)=S D (fun l=>S D (fun i=>at0 r i*ent A i l*ent B l j)):=vU (by grind[zNX]);rw[e3,zJv];refine vU fun i _=>?_
 rw[←zDT];exact vU (by grind)
theorem zHj{p:Int}{D:Nat}{v:List Int}(hv:Row p D v):adv p D (zeros D) v=v:=by
 conv=>rhs;rw[tM hv.1]
 refine yV fun j hj=>?_
 rw[vE,Jz,tV (hv.2 j hj)]
theorem zRG{p:Int}{D:Nat}{acc v:List Int}{A:Mx}(hl:A.length=D):(mkv D fun j=>(at0 acc j+S A.length fun k=>at0 v k*ent A k j)%p)=adv p D acc (zA2 p D v A):=by grind[yV,zA2,yD,Jar]
theorem zBQ{p:Int}{D:Nat}{u v:List Int}:adv p D u v=adv p D v u:=by grind
theorem zUy{p:Int}{D:Nat}{u v w:List Int}(hv:Row p D v)(hw:Row p D w):adv p D u v=adv p D u w↔v=w:=by
 constructor
 ·intro h
  rw[tM hv.1,tM hw.1];refine yV fun j hj=>?_
  have e:at0 (adv p D u v) j=at0 (adv p D u w) j:=by rw[h]
  rw[adv,adv,yD hj,yD hj]at e;have h1:=hv.2 j hj;have h2:=hw.2 j hj;have h3:=Ld (at0 u j+at0 v j) (G6 p);have e4:(at0 u j+at0 v j-at0 u j)%p=(at0 u j+at0 w j-at0 u j)%p:=by rw[Gz,e,←Gz]
  rw[show at0 u j+at0 v j-at0 u j=at0 v j from by omega,show at0 u j+at0 w j-at0 u j=at0 w j from by omega,tV h1,tV h2]at e4;exact e4
 grind
section
variable {D:Nat}{x:SPr}{m:yS}{T:Mx} (h:Pres x) (hE:ExB x.zA.length D x m T) (hT:∀i,i<T.length→Row m.Prime D (T.getD i []))
 include h hE hT
theorem zCj:∀(d k:Nat),x.zA.length≤k→k+d=x.zA.length+D→suf (exx D x m T) k=tlv m.Prime d
 |0,k,hk,hd=>by rw[sT (by grind[qH])];rfl
 |d+1,k,hk,hd=>by
  have hl:=qH h hE hT;rw[yY (by omega),zCj d (k+1) (by omega) (by omega),tlv]
  congr 1
  have hP:(exx D x m T).yB.getD k []=exP x.zA.length D x T k:=vO (by omega);have hC:(exx D x m T).zD.getD k []=exC x.zA.length D x m T k:=by
   show(gl (x.zA.length+D) (exC x.zA.length D x m T)).getD k []=_
   grind
  unfold lvl;rw[hP,hC,exP,exC,if_neg (by omega),if_neg (by omega),zCi h hE hT hk (by omega),L1,show x.zA.length+D-(k+1)=d from by omega]
  congr 1
  rw[unC,wH,gl,Jau,show x.zA.length+D-1-k=d from by omega];refine U7 fun j hj=>?_
  have hj:=K5.1 hj;show(zX (x.zA.length+D) (k+1+j)).drop (k+1)=tY d j;rw[zX,zHh,zBe,show x.zA.length+D-(k+1)=d from by omega];simp
theorem zWG:∀(d k:Nat),k+d=x.zA.length→ ∀v,V (suf (exx D x m T) k) v↔ ∃y u,v=y++u∧V (suf x k) y∧Row m.Prime D u
 |0,k,hk,v=>by
  rw[zCj h hE hT D k (by omega) (by omega),zHi,sT (x:=x) (k:=k) (by omega)];constructor
  ·intro g;exact⟨[],v,rfl,rfl,g⟩
  ·rintro⟨y,u,rfl,hy,hu⟩
   obtain rfl:y=[]:=hy;exact hu
 |d+1,k,hk,v=>by
  have hl:=qH h hE hT;have ih:=zWG d (k+1) (by omega);rw[yY (x:=exx D x m T) (by omega),yY (x:=x) (by omega)];cases v with
  |nil=>
   refine⟨fun g=>g.elim,?_⟩
   rintro⟨y,u,e,hy,hu⟩
   cases y with
   |nil=>exact hy.elim
   |cons a y=>simp at e
  |cons a v=>
   show((0≤a∧a<(lvl (exx D x m T) k).o)∧V (suf (exx D x m T) (k+1)) v)↔_;rw[zOf h hE hT (by omega),ih v];constructor
   ·rintro⟨g,y,u,rfl,hy,hu⟩
    exact⟨a::y,u,rfl,⟨g,hy⟩,hu⟩
   ·rintro⟨y,u,e,hy,hu⟩
    cases y with
    |nil=>exact hy.elim
    |cons b y=>
     simp only[G5,Qm.injEq]at e;obtain⟨rfl,rfl⟩:=e;exact⟨hy.1,y,u,rfl,hy.2,hu⟩
theorem zI4:∀(d k:Nat),k+d=x.zA.length→ ∀y u r,V (suf x k) y→Row m.Prime D u→Row m.Prime D r→mul (suf (exx D x m T) k) (y++u) (zeros d++r)=y++adv m.Prime D u r
 |0,k,hk,y,u,r,hy,hu,hr=>by have hp:=hE.m.p.pos;rw[sT (x:=x) (k:=k) (by omega)]at hy;obtain rfl:y=[]:=hy;rw[zCj h hE hT D k (by omega) (by omega)];exact zAu (by omega) D u r hu hr
 |d+1,k,hk,y,u,r,hy,hu,hr=>by
  have hl:=qH h hE hT;rw[yY (x:=x) (by omega)]at hy;cases y with
  |nil=>exact hy.elim
  |cons a y=>
   obtain⟨⟨a0,a1⟩,hy⟩:=hy;change a<at0 x.zA k at a1;rw[yY (x:=exx D x m T) (by omega)];show mul _ (a::(y++u)) (0::(zeros d++r))=_;rw[xG,zOf h hE hT (by omega),if_neg (by omega)];show(a+0)::mul _ (y++u) (zeros d++r)=_;rw[zI4 d (k+1) (by omega) y u r hy hu hr,Kd];rfl
theorem zWH{k:Nat}(hk:k≤x.zA.length+D):Pc.Ok (suf (exx D x m T) k):=(zFZ h hE hT).okAt (by grind[qH])
theorem zM4{d k:Nat}(hk:k+d=x.zA.length):∀(rs:List Vec)(v:Vec)(y u:Vec),(∀r∈rs,Row m.Prime D r)→V (suf x k) y→Row m.Prime D u→img (mul (suf (exx D x m T) k)) (rs.map fun r=>zeros d++r) v (y++u)=y++img (adv m.Prime D) rs v u
 | [],v,y,u,_,_,_=>by rfl
 |_::_,[],_,_,_,_,_=>rfl
 |c::rs,t::v,y,u,hr,hy,hu=>by
  have hp:=hE.m.p.pos;have hc:=hr c (by simp);have e:∀q u,Row m.Prime D u→iter q (fun w=>mul (suf (exx D x m T) k) w (zeros d++c)) (y++u)=y++iter q (fun w=>adv m.Prime D w c) u:=by
   intro q
   induction q with
   |zero=>intro u _;rfl
   |succ q ih=>
    intro u hu;show iter q _ (mul _ (y++u) (zeros d++c))=_;rw[zI4 h hE hT d k hk y u c hy hu hc,ih _ (sU (by omega))];rfl
  show img _ (rs.map fun r=>zeros d++r) v (iter t.toNat (fun w=>mul (suf (exx D x m T) k) w (zeros d++c)) (y++u))=_;rw[e _ _ hu,zM4 hk rs v y _ (by grind) hy (sA (S:=Row m.Prime D) (fun _ _=>sU (by omega)) _ hu)];rfl
theorem zXY{k:Nat}(hk:k<x.zA.length):(gl D fun j=>(m.yZ.getD k []).getD j [])=m.yZ.getD k []:=by
 have _:=h;have _:=hT;have hl:=(hE.m.mat k hk).1;apply Kl
 grind
def sgG(D:Nat)(x:SPr)(m:yS)(T:Mx)(k:Nat)(y:Vec):Vec:=img (mul (suf (exx D x m T) (k+1))) (eC1 x T k) y (zeros (suf (exx D x m T) (k+1)).length)
theorem zGb{k:Nat}:(eC1 x T k).length=x.zA.length-1-k:=by have _:=h;have _:=hE;have _:=hT;grind[eC1]
theorem yA0{k:Nat}(hk:k<x.zA.length):∀c∈eC1 x T k,V (suf (exx D x m T) (k+1)) c:=by intro c hc;have ok:=zWH h hE hT (k:=k) (by omega);rw[yY (by grind[qH])]at ok;exact ok.2.2.2.1 c (by grind[zJ4])
theorem zRH{k:Nat}(hk:k≤x.zA.length):zeros (suf (exx D x m T) k).length=zeros (x.zA.length-k)++zeros D:=by grind[wK,qH,zeros,K3]
theorem yA1{k:Nat}(hk:k<x.zA.length){y:Vec}:V (suf (exx D x m T) (k+1)) (sgG D x m T k y):=by have ok:=zWH h hE hT (k:=k+1) (by omega);exact zAP (wY ok) _ _ (yA0 h hE hT hk) (vT ok)
theorem zXZ{k:Nat}(hk:k<x.zA.length){y u:Vec}(hy:V (suf x (k+1)) y)(hu:Row m.Prime D u):
  sig (suf (exx D x m T) (k+1)) (lvl (exx D x m T) k) (y++u)=(sgG D x m T k y).take (x.zA.length-(k+1))++adv m.Prime D ((sgG D x m T k y).drop (x.zA.length-(k+1))) (zA2 m.Prime D u (m.yZ.getD k [])):=by
 have hp:=hE.m.p.pos;have hA:=hE.m.mat k hk;have hyl:=zGW h (by omega) hy;unfold sig;rw[zJ4 h hE hT hk,zOg _ _ _ _ _ (by grind[zGb])];show img _ (eC2 x m D k) u (sgG D x m T k y)=_;obtain⟨y1,u1,e,fc,di⟩:=(zWG h hE hT (x.zA.length-(k+1)) (k+1) (by omega) _).1 (yA1 h hE hT hk (y:=y));have tq:=zGW h (by omega) fc;rw[e,eC2,zXY h hE hT hk,show x.zA.length-1-k=x.zA.length-(k+1)from by omega,zM4 h hE hT (by omega) _ _ _ _ (fun r hr=>?_) fc di,zGa (by omega) _ _ _ (by rw[hA.1,hu.1]) (fun i hi=>(hu.2 i (by rw[←hu.1];exact hi)).1) di,zRG hA.1,Jao tq,Ja5 tq];obtain⟨j,hj,rfl⟩:=Jah.1 hr;have jp:=hA.1;have:=hA.2 j (by omega)
 grind
theorem zGc{k:Nat}(hk:k<x.zA.length){u:Vec}(hu:Row m.Prime D u):
  sig (suf (exx D x m T) (k+1)) (lvl (exx D x m T) k) (zeros (x.zA.length-(k+1))++u)=zeros (x.zA.length-(k+1))++zA2 m.Prime D u (m.yZ.getD k []):=by
 have hp:=hE.m.p.pos;have ok:=h.okAt (k:=k+1) (by omega);have hz:=vT ok;rw[wK]at hz;have e:sgG D x m T k (zeros (x.zA.length-(k+1)))=zeros (x.zA.length-(k+1))++zeros D:=by grind[sgG,zAT,zRH]
 rw[zXZ h hE hT hk hz hu,e,Jao (yN _),Ja5 (yN _),zHj (zCP (by omega))]
theorem zHk{k:Nat}(hk:k<x.zA.length):∀(q:Nat){u:Vec},Row m.Prime D u→
  iter q (sig (suf (exx D x m T) (k+1)) (lvl (exx D x m T) k)) (zeros (x.zA.length-(k+1))++u)=zeros (x.zA.length-(k+1))++iter q (fun u=>zA2 m.Prime D u (m.yZ.getD k [])) u
 |0,u,_=>rfl
 |q+1,u,hu=>by have hp:=hE.m.p.pos;show iter q _ (sig _ _ _)=_;rw[zGc h hE hT hk hu,zHk hk q (zCP (by omega))];rfl
end
end Go.Pl

namespace Go.Pl
open Go Go.Ab Go.Wk Go.Pc
theorem zFp{p:Int}{D:Nat}{A:Mx}(hA:Mat p D A)(hp:2≤p){r:List Int}(hr:Row p D r):∀q,iter q (fun u=>zA2 p D u A) r=zA2 p D r (pw (PM p D) (idM D) A q)
 |0=>(zLe hr).symm
 |q+1=>by
  have hm:Mat p D (pw (PM p D) (idM D) A q):=sA (S:=Mat p D) (fun _ hB=>zMq (by omega) hB.1) q (zJw hp);unfold pw at*
  rw[vK,vK,zFp hA hp hr q];exact zOh hm.1
theorem zRI{p:Int}{D:Nat}(hp:0<p){r:List Int}:iter p.toNat (fun w=>adv p D w r) (zeros D)=zeros D:=by
 rw[zEH hp _ _ (wV hp)];rw[show zeros D=mkv D fun _=>0 from qO D];refine yV fun j hj=>?_
 rw[yD hj,Qn (by omega),Jz,Gm]
theorem zM5{p:Int}{D:Nat}{A:Mx}:zA2 p D (zeros D) A=zeros D:=by
 rw[show zeros D=mkv D fun _=>0 from qO D];refine yV fun j hj=>?_
 rw[vU (g:=fun _=>0) fun l hl=>by rw[yD hl,Gf],zA8,G9]
theorem zPm{p:Int}{D q:Nat}{A:Mx}(hq:q<D)(hA:Mat p D A):zA2 p D (tY D q) A=A.getD q []:=by
 have hr:=hA.2 q hq
 conv=>rhs;rw[tM hr.1]
 refine yV fun j hj=>?_
 rw[zBe,zBO (k:=q) hq (fun i hi gf=>by rw[yD hi,if_neg gf,Gf]),yD hq,if_pos rfl,Hj,tV (hr.2 j hj)]
theorem tW{p:Int}{D q:Nat}(hp:2≤p):Row p D (tY D q):=by rw[zBe];exact⟨yG _ _,by grind[yD]⟩
theorem zLf{N D q:Nat}(hq:q<D):tY (N+D) (N+q)=zeros N++tY D q:=by
 rw[zE4 (by omega),zE4 hq,←Ji]
 grind[zeros,K3]
def aM(m:yS)(D k:Nat)(v:Vec):Mx:=img (PM m.Prime D) (m.yZ.drop k) v (idM D)
theorem zRJ{p:Int}{D:Nat}(hp:2≤p):Mon (Mat p D) (PM p D) (idM D):=
 ⟨fun ha _=>zMq (by omega) ha.1,zJw (by omega),fun ha hb _=>zR2 ha.1 hb.1,fun ha=>zUq ha,fun ha=>zR3 ha⟩
section
variable {D:Nat}{x:SPr}{m:yS}{T:Mx} (h:Pres x) (hE:ExB x.zA.length D x m T) (hT:∀i,i<T.length→Row m.Prime D (T.getD i []))
 include h hE hT
theorem zLg{k:Nat}(hk:k<x.zA.length):m.yZ.drop k=m.yZ.getD k []::m.yZ.drop (k+1):=by
 have _:=h;have _:=hT;have hl:=hE.m.len
 grind[Lv]
theorem zUz{k:Nat}(hk:k<x.zA.length){b:Int}{y:Vec}:aM m D k (b::y)=PM m.Prime D (pw (PM m.Prime D) (idM D) (m.yZ.getD k []) b.toNat) (aM m D (k+1) y):=by
 have M:=zRJ hE.m.p.pos.1 (D:=D);unfold aM;rw[zLg h hE hT hk];refine qN M (hE.m.mat k hk) fun c hc=>?_
 obtain⟨i,hi,rfl⟩:=Jah.1 (List.mem_of_mem_drop hc);have:=hE.m.mat i (by rw[←hE.m.len];exact hi)
 grind
theorem pwM{k q:Nat}(hk:k<x.zA.length):Mat m.Prime D (pw (PM m.Prime D) (idM D) (m.yZ.getD k []) q):=by have _:=h;have _:=hT;have _:=hk;have hp:=hE.m.p.pos;exact sA (S:=Mat m.Prime D) (fun _ hB=>zMq (by omega) hB.1) q (zJw (by omega))
theorem zRK:∀(d k:Nat),k+d=x.zA.length→ ∀r y v,Row m.Prime D r→V (suf x k) y→Row m.Prime D v→mul (suf (exx D x m T) k) (zeros d++r) (y++v)=y++adv m.Prime D (zA2 m.Prime D r (aM m D k y)) v
 |0,k,hk,r,y,v,hr,hy,hv=>by
  have hp:=hE.m.p.pos;rw[sT (x:=x) (k:=k) (by omega)]at hy;obtain rfl:y=[]:=hy;rw[zCj h hE hT D k (by omega) (by omega)];have e:aM m D k []=idM D:=by unfold aM;cases m.yZ.drop k<;>rfl
  rw[e,zLe hr];exact zAu (by omega) D r v hr hv
 |d+1,k,hk,r,y,v,hr,hy,hv=>by
  have hl:=qH h hE hT;have hp:=hE.m.p.pos;have hA:=hE.m.mat k (by omega);rw[yY (x:=x) (by omega)]at hy;cases y with
  |nil=>exact hy.elim
  |cons b y=>
   obtain⟨⟨b0,b1⟩,hy⟩:=hy;change b<at0 x.zA k at b1;rw[yY (x:=exx D x m T) (by omega)];show mul _ (0::(zeros d++r)) (b::(y++v))=_;have e:=zHk h hE hT (k:=k) (by omega) b.toNat hr;rw[show x.zA.length-(k+1)=d from by omega]at e;rw[xG,zOf h hE hT (by omega),if_neg (by omega),e,zFp hA (by omega) hr,zRK d (k+1) (by omega) _ y v (zCP (by omega)) hy hv,Jz,zUz h hE hT (by omega),←zOh (pwM h hE hT (by omega)).1];rfl
end
end Go.Pl

namespace Go.Pl
open Go Go.Ab Go.Wk Go.Pc
theorem zPn{p:Int}{d:Nat}(hp:2≤p):∀c∈wH d,Row p d c:=fun c hc=>by obtain⟨k,_,rfl⟩:=Jh.1 hc;exact tW hp
theorem zU0{p:Int}(hp:2≤p){d:Nat}{w:Vec}(hw:Row p d w):sig (tlv p d) ⟨p,zeros d,wH d⟩ w=w:=by
 unfold sig;rw[zDr,zDs (S:=Row p d) (m':=adv p d) (by grind[zAu]) (fun _ _ _ _=>sU (by omega)) (wH d) w _ (zPn hp) (wV (by omega)),zGa (by omega) (wH d) w _ (by rw[hw.1];simp[wH]) (fun i hi=>(hw.2 i (by rw[←hw.1];exact hi)).1) (wV (by omega))]
 conv=>rhs;rw[tM hw.1]
 refine yV fun j hj=>?_
 have cD:(wH d).length=d:=by simp[wH]
 rw[cD,vE,Jz,zBO (k:=j) hj (fun k hk gf=>by rw[zDt hk hj,if_neg (Ne.symm gf),L3]),zDt hj hj,if_pos rfl,Kf,tV (hw.2 j hj)]
structure LCn (x e:SPr) (k:Nat):Prop where
 c1:∀j,k+1≤j→j<x.zA.length→pw (mul (suf e (k+1))) (zeros (suf e (k+1)).length) ((lvl e k).cs.getD (j-(k+1)) []) (at0 e.zA j).toNat=sig (suf e (k+1)) (lvl e k) ((e.yB.getD j []).drop (k+1))
 c2:∀i,k+1≤i→i<x.zA.length→ ∀j,i+1≤j→j<x.zA.length→
  mul (suf e (k+1)) ((lvl e k).cs.getD (j-(k+1)) []) ((lvl e k).cs.getD (i-(k+1)) [])=mul (suf e (k+1)) ((lvl e k).cs.getD (i-(k+1)) []) (sig (suf e (k+1)) (lvl e k) (((e.zD.getD i []).getD (j-(i+1)) []).drop (k+1)))
 c3:sig (suf e (k+1)) (lvl e k) (lvl e k).w=(lvl e k).w
 c4:∀j,k+1≤j→j<x.zA.length→mul (suf e (k+1)) (lvl e k).w (iter (lvl e k).o.toNat (sig (suf e (k+1)) (lvl e k)) (tY (e.zA.length-(k+1)) (j-(k+1))))=mul (suf e (k+1)) (tY (e.zA.length-(k+1)) (j-(k+1))) (lvl e k).w
section
variable {D:Nat}{x:SPr}{m:yS}{T:Mx} (h:Pres x) (hE:ExB x.zA.length D x m T) (hT:∀i,i<T.length→Row m.Prime D (T.getD i []))
 include h hE hT
theorem zRL{k j:Nat}(hk:k<x.zA.length)(hj:x.zA.length≤j)(h2:j<x.zA.length+D):(lvl (exx D x m T) k).cs.getD (j-(k+1)) []=zeros (x.zA.length-(k+1))++(m.yZ.getD k []).getD (j-x.zA.length) []:=by
 rw[zJ4 h hE hT hk,J2,Je (by grind[zGb]),zGb h hE hT,eC2]
 grind
theorem yA2{k j:Nat}(hk:k<x.zA.length)(hj:k+1≤j)(h2:j<x.zA.length):(lvl (exx D x m T) k).cs.getD (j-(k+1)) []=(lvl x k).cs.getD (j-(k+1)) []++T.getD (base x.zA.length k+(j-(k+1))) []:=by
 rw[zJ4 h hE hT hk,J2,K9 (by grind[zGb]),eC1]
 grind
theorem yA3{i j:Nat}(hi:i<j)(hj:j<x.zA.length):Row m.Prime D (T.getD (base x.zA.length i+(j-(i+1))) []):=by have _:=h;have hn:=hE.hn;have hb:=zJy x.zA.length (by omega) i (by omega);exact hT _ (by rw[hE.t];omega)
theorem zYa{i:Nat}(hi:i<x.zA.length):Row m.Prime D (T.getD i []):=by have _:=h;have hn:=hE.hn;have hb:=zCQ x.zA.length (by omega);exact hT _ (by rw[hE.t];omega)
theorem zYb{k j:Nat}(hk:k<x.zA.length)(hj:x.zA.length≤j)(h2:j<x.zA.length+D):((exx D x m T).yB.getD j []).drop (k+1)=zeros (x.zA.length-(k+1))++zeros D:=by
 have _:=h;have _:=hE;have _:=hT;have hP:(exx D x m T).yB.getD j []=exP x.zA.length D x T j:=vO (by omega);rw[hP,exP,if_neg (by omega),L1]
 grind[zeros,K3]
theorem zM6{i:Nat}(hi:i<x.zA.length+D):(exx D x m T).zD.getD i []=exC x.zA.length D x m T i:=by
 have _:=h;have _:=hE;have _:=hT;show(gl (x.zA.length+D) (exC x.zA.length D x m T)).getD i []=_
 grind
theorem zYc{k i j:Nat}(hk:k<x.zA.length)(hi:i<x.zA.length)(hj:x.zA.length≤j)(h2:j<x.zA.length+D):(((exx D x m T).zD.getD i []).getD (j-(i+1)) []).drop (k+1)=zeros (x.zA.length-(k+1))++(m.yZ.getD i []).getD (j-x.zA.length) []:=by rw[zM6 h hE hT (by omega),exC,if_pos (by omega),vO (by omega),exF,if_neg (by omega),L2 (by simp;omega),L1,show j-(i+1)-(x.zA.length-1-i)=j-x.zA.length from by omega];rfl
theorem zYd{k i j:Nat}(hk:k<x.zA.length)(hi:x.zA.length≤i)(hj:i<j)(h2:j<x.zA.length+D):(((exx D x m T).zD.getD i []).getD (j-(i+1)) []).drop (k+1)=zeros (x.zA.length-(k+1))++tY D (j-x.zA.length):=by
 rw[zM6 h hE hT (by omega),exC,if_neg (by omega),unC,vO (by omega),zX,zHh,←zLf (by omega),zBe]
 grind
theorem zU1(hr:zUs x m D){k:Nat}(hk:k<x.zA.length):pw (PM m.Prime D) (idM D) (m.yZ.getD k []) (at0 x.zA k).toNat=aM m D (k+1) (lvl x k).w∧
  ∀i,k<i→i<x.zA.length→PM m.Prime D (m.yZ.getD i []) (m.yZ.getD k [])=PM m.Prime D (m.yZ.getD k []) (aM m D (k+1) ((lvl x k).cs.getD (i-(k+1)) [])):=by
 have R:=zOd h hE.m hr (x.zA.length-k) k (by omega);rw[yY hk,zLg h hE hT hk]at R;obtain⟨r1,r2,_⟩:=R;refine⟨r1,fun i h1 h2=>?_⟩;have gK:=zBN h.w hk;have hl:=hE.m.len;refine r2 (i-(k+1)) _ _ ?_ ?_
 all_goals grind
theorem zv{k:Nat}(hk:k≤x.zA.length):V (suf x k) (zeros (x.zA.length-k)):=by
 have _:=hE;have _:=hT;have:=vT (h.okAt hk)
 grind[wK]
theorem zYe(hr:zUs x m D){k:Nat}(hk:k<x.zA.length)(hc:LCn x (exx D x m T) k):LC (exx D x m T) k:=by
 have hp:=hE.m.p.pos;have hl:=qH h hE hT;have hA:=hE.m.mat k hk;obtain⟨r1,r2⟩:=zU1 h hE hT hr hk;have hz:=zv h hE hT (k:=k+1) (by omega);have hD0:Row m.Prime D (zeros D):=wV (by omega);have hw:=(yAp h hk).2;refine⟨fun j h1 h2=>?_,fun i h1 h2 j h3 h4=>?_,hc.c3,fun j h1 h2=>?_⟩
 ·rw[hl]at h2
  rcases Jf j x.zA.length with g|g
  ·exact hc.c1 j h1 g
  ·have hq:=hA.2 (j-x.zA.length) (by omega)
   rw[zRL h hE hT hk g h2,zYb h hE hT hk g h2,zGc h hE hT hk hD0,zM5,zCi h hE hT g h2,zRH h hE hT (by omega)];have e:=zM4 h hE hT (d:=x.zA.length-(k+1)) (k:=k+1) (by omega) [(m.yZ.getD k []).getD (j-x.zA.length) []] [m.Prime] _ _ (by grind) hz hD0;have e2:iter m.Prime.toNat (fun w=>adv m.Prime D w ((m.yZ.getD k []).getD (j-x.zA.length) [])) (zeros D)=zeros D:=zRI (by omega);unfold pw;refine e.trans ?_;show zeros _++iter m.Prime.toNat (fun w=>adv m.Prime D w ((m.yZ.getD k []).getD (j-x.zA.length) [])) (zeros D)=_;rw[e2]
 ·rw[hl]at h4
  rcases Jf j x.zA.length with g|g
  ·exact hc.c2 i h1 (by omega) j h3 g
  ·have hq:=hA.2 (j-x.zA.length) (by omega)
   rw[zRL h hE hT hk g h4];rcases Jf i x.zA.length with gi|gi
   ·have hAi:=hE.m.mat i gi
    have dp:=hAi.2 (j-x.zA.length) (by omega);have fh:=(zR1 h hk h1 gi).2.2;have ht:=yA3 h hE hT (i:=k) (j:=i) (by omega) gi;rw[yA2 h hE hT hk h1 gi,zYc h hE hT hk gi g h4,zGc h hE hT hk dp,zRK h hE hT _ (k+1) (by omega) _ _ _ hq fh ht,zI4 h hE hT _ (k+1) (by omega) _ _ _ fh ht (zCP (by omega)),zBQ]
    congr 2
    rw[←zCM (by rw[hA.1];omega),←zCM (by rw[hAi.1];omega),r2 i (by omega) gi]
   ·have dp:=hA.2 (i-x.zA.length) (by omega)
    rw[zRL h hE hT hk gi (by omega),zYd h hE hT hk gi (by omega) h4,zGc h hE hT hk (tW (by omega)),zPm (by omega) hA,zI4 h hE hT _ (k+1) (by omega) _ _ _ hz hq dp,zI4 h hE hT _ (k+1) (by omega) _ _ _ hz dp hq,zBQ]
 ·rw[hl]at h2 ⊢
  rcases Jf j x.zA.length with g|g
  ·have:=hc.c4 j h1 g
   grind
  ·have ht:=zYa h hE hT hk
   have hu:Row m.Prime D (tY D (j-x.zA.length)):=tW (by omega);rw[show x.zA.length+D-(k+1)=x.zA.length-(k+1)+D from by omega,show j-(k+1)=x.zA.length-(k+1)+(j-x.zA.length)from by omega,zLf (by omega),zOf h hE hT hk,zHk h hE hT hk _ hu,yAz h hE hT hk,zFp hA (by omega) hu,r1,zRK h hE hT _ (k+1) (by omega) _ _ _ hu hw ht,zI4 h hE hT _ (k+1) (by omega) _ _ _ hw ht (zCP (by omega)),zBQ]
theorem zYf{k:Nat}(hk:x.zA.length≤k)(h2:k<x.zA.length+D):LC (exx D x m T) k:=by
 have hp:=hE.m.p.pos;have hl:=qH h hE hT;have hs:=zCj h hE hT (x.zA.length+D-(k+1)) (k+1) (by omega) (by omega);have hL:=zCj h hE hT (x.zA.length+D-(k+1)+1) k (by omega) (by omega);rw[yY (by omega),hs,tlv]at hL;have bq:lvl (exx D x m T) k=⟨m.Prime,zeros (x.zA.length+D-(k+1)),wH (x.zA.length+D-(k+1))⟩:=(Qm.inj hL).1
 generalize hd:x.zA.length+D-(k+1)=d at*
 have fp:∀w,Row m.Prime d w→sig (tlv m.Prime d) ⟨m.Prime,zeros d,wH d⟩ w=w:=by grind[zU0]
 have bO:Row m.Prime d (zeros d):=wV (by omega);have ui:∀j,(wH d).getD j []=if j<d then tY d j else[]:=fun j=>by
  by_cases g:j<d
  ·rw[if_pos g,zGV g]
  ·rw[if_neg g,J2,H1 (by grind[wH])];rfl
 refine⟨fun j h1 h3=>?_,fun i h1 h3 j h4 h5=>?_,?_,fun j h1 h3=>?_⟩
 ·rw[hl]at h3
  have hP:(exx D x m T).yB.getD j []=exP x.zA.length D x T j:=vO (by omega);rw[hs,bq,zCi h hE hT (by omega) h3,hP,exP,if_neg (by omega),L1,hd];show pw (mul (tlv m.Prime d)) (zeros (tlv m.Prime d).length) ((wH d).getD (j-(k+1)) []) m.Prime.toNat=sig (tlv m.Prime d) ⟨m.Prime,zeros d,wH d⟩ (zeros d);rw[fp _ bO,ui,if_pos (by omega),zDr];have e:=zDs (S:=Row m.Prime d) (m':=adv m.Prime d) (fun a b ha hb=>zAu (by omega) d a b ha hb) (fun _ _ _ _=>sU (by omega)) [tY d (j-(k+1))] [m.Prime] (zeros d) (by grind[tW]) bO;exact e.trans (zRI (by omega))
 ·rw[hl]at h3 h5
  rw[hs,bq,zM6 h hE hT h3,exC,if_neg (by omega),unC,vO (by omega),zX,zHh,hd];have e:(mkv d fun q=>if k+1+q=i+1+(j-(i+1))then(1:Int)else 0)=tY d (j-(k+1)):=by
   rw[zBe]
   grind
  rw[e,fp _ (tW (by omega))];show mul (tlv m.Prime d) ((wH d).getD (j-(k+1)) []) ((wH d).getD (i-(k+1)) [])=mul (tlv m.Prime d) ((wH d).getD (i-(k+1)) []) (tY d (j-(k+1)));rw[ui,ui,if_pos (by omega),if_pos (by omega),zAu (by omega) d _ _ (tW (by omega)) (tW (by omega)),zAu (by omega) d _ _ (tW (by omega)) (tW (by omega)),zBQ]
 ·grind
 ·rw[hl]at h3 ⊢
  have hu:Row m.Prime d (tY d (j-(k+1))):=tW (by omega);rw[hs,bq,hd,zEC (fp _ hu),zAu (by omega) d _ _ bO hu,zAu (by omega) d _ _ hu bO,zBQ]
theorem zLh:∀(d k:Nat),x.zA.length≤k→k+d=x.zA.length+D→uZ (suf (exx D x m T) k)
 |0,k,hk,hd=>by rw[sT (by grind[qH])];simp only[uZ]
 |d+1,k,hk,hd=>(zKP (zFZ h hE hT) (by rw[qH h hE hT];omega)).2 ⟨zLh d (k+1) (by omega) (by omega),by grind[zYf]⟩
theorem zU2(hr:zUs x m D):uZ (suf (exx D x m T) 0)↔ ∀k,k<x.zA.length→LCn x (exx D x m T) k:=by
 have hl:=qH h hE hT;have key:∀(d k:Nat),k+d=x.zA.length→(uZ (suf (exx D x m T) k)↔ ∀i,k≤i→i<x.zA.length→LCn x (exx D x m T) i):=by
  intro d
  induction d with
  |zero=>grind[zLh]
  |succ d ih=>
   intro k hk;rw[zKP (zFZ h hE hT) (by omega),ih (k+1) (by omega)];constructor
   ·rintro⟨g1,g2⟩ i h1 h2
    rcases Jf k i with g|g
    ·grind
    ·obtain rfl:i=k:=by omega
     exact⟨fun j a b=>g2.c1 j a (by omega),fun i a b j c d=>g2.c2 i a (by omega) j c (by omega),g2.c3,fun j a b=>g2.c4 j a (by omega)⟩
   grind[zYe]
 simp_all
end
end Go.Pl

namespace Go.Pl
open Go Go.Ab Go.Wk Go.Pc
end Go.Pl

namespace Go.Pl
open Go Go.Ab Go.Wk Go.Pc
end Go.Pl

namespace Go.Pl
open Go Go.Ab Go.Wk Go.Pc
end Go.Pl

namespace Go.Pl
open Go Go.Ab Go.Wk Go.Pc
end Go.Pl

namespace Go.Pl
open Go Go.Ab Go.Wk Go.Pc
end Go.Pl

namespace Go.Pl
open Go Go.Ab Go.Wk Go.Pc
end Go.Pl

namespace Go.Pl
open Go Go.Ab Go.Wk Go.Pc
end Go.Pl

namespace Go.Pl
open Go Go.Ab Go.Wk Go.Pc
end Go.Pl

namespace Go.Pl
open Go Go.Ab Go.Wk Go.Pc
end Go.Pl

namespace Go.Pl
open Go Go.Ab Go.Wk Go.Pc
end Go.Pl

namespace Go.Pl
open Go Go.Ab Go.Wk Go.Pc
end Go.Pl

namespace Go.Pl
open Go Go.Ab Go.Wk Go.Pc
end Go.Pl

namespace Go.Pl
open Go Go.Ab Go.Wk Go.Pc
end Go.Pl

namespace Go.Pl
open Go Go.Ab Go.Wk Go.Pc
end Go.Pl

namespace Go.Pl
open Go Go.Ab Go.Wk Go.Pc
end Go.Pl

namespace Go.Pl
open Go Go.Ab Go.Wk Go.Pc
end Go.Pl

namespace Go.Pl
open Go Go.Ab Go.Wk Go.Pc
end Go.Pl

namespace Go.Pl
open Go Go.Ab Go.Wk Go.Pc
end Go.Pl

namespace Go.Pl
open Go Go.Ab Go.Wk Go.Pc
end Go.Pl

namespace Go.Pl
open Go Go.Ab Go.Wk Go.Pc
end Go.Pl

namespace Go.Pl
open Go Go.Ab Go.Wk Go.Pc
end Go.Pl

namespace Go.Pl
open Go Go.Ab Go.Wk Go.Pc
end Go.Pl

namespace Go.Pl
open Go Go.Ab Go.Wk Go.Pc
end Go.Pl

namespace Go.Pl
open Go Go.Ab Go.Wk Go.Pc
end Go.Pl

namespace Go.Pl
open Go Go.Ab Go.Wk Go.Pc
end Go.Pl

namespace Go.Pl
open Go Go.Ab Go.Wk Go.Pc
end Go.Pl

namespace Go.Pl
open Go Go.Ab Go.Wk Go.Pc
end Go.Pl

namespace Go.Pl
open Go Go.Ab Go.Wk Go.Pc
end Go.Pl

namespace Go.Pl
open Go Go.Ab Go.Wk Go.Pc
end Go.Pl

namespace Go.Pl
open Go Go.Ab Go.Wk Go.Pc
end Go.Pl

namespace Go.Pl
open Go Go.Ab Go.Wk Go.Pc
end Go.Pl

namespace Go.Pl
open Go Go.Ab Go.Wk Go.Pc
end Go.Pl

namespace Go.Pl
open Go Go.Ab Go.Wk Go.Pc
end Go.Pl

namespace Go.Pl
open Go Go.Ab Go.Wk Go.Pc
end Go.Pl

namespace Go.Pl
open Go Go.Ab Go.Wk Go.Pc
end Go.Pl

namespace Go.Pl
open Go Go.Ab Go.Wk Go.Pc
end Go.Pl

namespace Go.Pl
open Go Go.Ab Go.Wk Go.Pc
end Go.Pl

namespace Go.Pl
open Go Go.Ab Go.Wk Go.Pc
end Go.Pl

namespace Go.Pl
open Go Go.Ab Go.Wk Go.Pc
end Go.Pl

namespace Go.Pl
open Go Go.Ab Go.Wk Go.Pc
end Go.Pl

namespace Go.Pl
open Go Go.Ab Go.Wk Go.Pc
end Go.Pl

namespace Go.Pl
open Go Go.Ab Go.Wk Go.Pc
end Go.Pl

namespace Go.Pl
open Go Go.Ab Go.Wk Go.Pc
end Go.Pl

namespace Go.Pl
open Go Go.Ab Go.Wk Go.Pc
def zCt(q:Int)(D n:Nat):yS:=⟨q,(D:Int),gl n fun _=>idM D⟩
theorem zM7{x:SPr}{q:Int}{D:Nat}(hq:Prime q)(h6:x.zA.length≤6)(hD:D≤8):f_Y x q (D:Int)=jq (zCt q D x.zA.length):=by
 unfold f_Y;rw[qP (body:=zLA x q (D:Int)) x.zA.length (fun _=>idM D) (fun i acc hi ha=>by
  unfold zLA;simp only
  rw[xH hi,zJ,zH9 hq hD,bs,zT (by grind),bs,zH (by omega) (by omega),bs];rfl) (fun acc=>by
  unfold zLA;simp),bs]
 rfl
end Go.Pl

namespace Go.Pl
open Go Go.Ab Go.Wk Go.Pc
theorem zPo{D i:Nat}:(J1 D (0:Int)).set i 1=mkv D fun j=>if j=i then 1 else 0:=by rw[qO,zAs]
theorem zHl{p:Int}{D:Nat}(hD:D≤1000):f_L p (D:Int)=jq (zN.mk p (D:Int) (idM D)):=by
 unfold f_L;rw[qP (body:=zJO (D:Int)) D (fun i=>mkv D fun j=>if j=i then 1 else 0) (fun i acc hi ha=>by
  unfold zJO;simp only
  rw[xH hi,zJ,xJ (by omega),bs,tL,K1,if_pos hi,bs,J9,zPo,zT (by grind),bs,zH (by omega) (by omega),bs];rfl) (fun acc=>by
  unfold zJO;simp),bs]
 rfl
theorem zM8{x:SPr}{q:Int}{D:Nat}(h6:x.zA.length≤6)(hD:D≤1000):f_Y x q (D:Int)=jq (zCt q D x.zA.length):=by
 unfold f_Y;rw[qP (body:=zLA x q (D:Int)) x.zA.length (fun _=>idM D) (fun i acc hi ha=>by
  unfold zLA;simp only
  rw[xH hi,zJ,zHl hD,bs,zT (by grind),bs,zH (by omega) (by omega),bs];rfl) (fun acc=>by
  unfold zLA;simp),bs]
 rfl
end Go.Pl

namespace Go.Pl
open Go Go.Ab Go.Wk Go.Pc
end Go.Pl

namespace Go.Pl
open Go Go.Ab Go.Wk Go.Pc
end Go.Pl

namespace Go.Pl
open Go Go.Ab Go.Wk Go.Pc
end Go.Pl

namespace Go.Pl
open Go Go.Ab Go.Wk Go.Pc
end Go.Pl

namespace Go.Pl
open Go Go.Ab Go.Wk Go.Pc
end Go.Pl

namespace Go.Pl
open Go Go.Ab Go.Wk Go.Pc
end Go.Pl

namespace Go.Pl
open Go Go.Ab Go.Wk Go.Pc
end Go.Pl

namespace Go.Pl
open Go Go.Ab Go.Wk Go.Pc
theorem fv0(v:Vec):fv 0 v=v:=by simp[zeros]
section
variable {x:SPr} (h:Pres x) (hc:uZ (suf x 0))
 include h hc
theorem g0:Grp (V (suf x 0)) (mul (suf x 0)) (zeros (suf x 0).length):=zF9 h (by omega) hc
theorem ok0:Pc.Ok (suf x 0):=by have _:=hc;exact h.okAt (by omega)
theorem zDW{v:Vec}(hv:V (suf x 0) v):v.length=x.zA.length:=by
 have _:=hc;have:=zGX h (k:=0) (by omega) hv
 rwa [fv0]at this
theorem zU3{a b:Vec}(ha:V (suf x 0) a)(hb:V (suf x 0) b):zHx x a b=jq (mul (suf x 0) a b):=by have:=zDA h (k:=0) (by omega) hc ha hb;simpa only[fv0]using this
theorem tv0{a b:Vec}(ha:V (suf x 0) a)(hb:V (suf x 0) b):f_a x a b=jq (mul (suf x 0) a b):=by have:=zGY h (k:=0) (by omega) hc ha hb;simpa only[fv0]using this
theorem zRM{c:Vec}(fh:V (suf x 0) c){e:Int}(e0:0≤e)(e1:e≤1000):f_U x c e=jq (pw (mul (suf x 0)) (zeros (suf x 0).length) c e.toNat):=by have:=zMo h (k:=0) (by omega) hc fh e0 e1;simpa only[fv0]using this
theorem yA4{a b:Vec}(ha:V (suf x 0) a)(hb:V (suf x 0) b):∃w,V (suf x 0) w∧mul (suf x 0) (mul (suf x 0) b a) w=mul (suf x 0) a b∧zVw x a b=jq w:=by
 have ok:=ok0 h hc;have G:=g0 h hc;obtain⟨i,i1,i2,i3⟩:=zBv h (k:=0) (by omega) hc ha;obtain⟨c,c1,c2,c3⟩:=zCK h (k:=0) (by omega) hc ha hb;simp only[fv0]at i3 c3;refine⟨mul (suf x 0) i c,wY ok i1 c1,?_,?_⟩
 ·rw[G.assoc hb ha (wY ok i1 c1),←G.assoc ha i1 c1,i2,G.onel c1,c2]
 ·unfold zVw
  rw[i3,bs,c3,bs,zU3 h hc i1 c1,bs]
theorem zCU{a b:Vec}(ha:V (suf x 0) a)(hb:V (suf x 0) b):f_r x a b=jq (mul (suf x 0) a b):=by have _:=hc;have:=zJu h (k:=0) (by omega) a b ha hb;unfold f_r;rw[show f_b x 0 a b=jq (mul (suf x 0) a b)from by simpa[zeros]using this,bs]
theorem zWI{c:Vec}(fh:V (suf x 0) c){e:Int}(e0:0≤e)(e1:e≤1000):zSv x 0 c e=jq (pw (mul (suf x 0)) (zeros (suf x 0).length) c e.toNat):=by
 have h6:=h.os.1;have ok:=ok0 h hc;have G:=g0 h hc;have hA:∀a b,V (suf x 0) a→V (suf x 0) b→f_b x 0 a b=jq (mul (suf x 0) a b):=fun a b ha hb=>by have:=zJu h (k:=0) (by omega) a b ha hb;simpa[zeros]using this
 have pwV:∀a,V (suf x 0) (pw (mul (suf x 0)) (zeros (suf x 0).length) c a):=fun a=>vW G.toMon fh a
 unfold zSv;rw[xJ (by omega),bs,zRz h (k:=0) (by omega),fv0];obtain⟨r,r1,r2⟩:=uC (body:=zO1 x 0) (Q:=fun r=>r=pw (mul (suf x 0)) (zeros (suf x 0).length) c e.toNat)
  (fun s=> ∃(m a q:Nat),s=((m:Int),pw (mul (suf x 0)) (zeros (suf x 0).length) c a,pw (mul (suf x 0)) (zeros (suf x 0).length) c q)∧a+q*m=e.toNat∧m≤1000) (fun s=>s.1.toNat) (fun s hs=>by
   obtain⟨m,a,q,rfl,he,hm⟩:=hs;unfold zO1;simp only
   by_cases hm0:m=0
   ·right
    subst hm0;rw[show decide (((0:Nat):Int)> 0)=jt from rfl,zK];refine⟨_,rfl,?_⟩;rw[←he,Nat.mul_zero];rfl
   ·left
    have hr:xN (m:Int) 2=jq ((m%2:Nat):Int):=by unfold xN;rw[if_neg (by decide),Gb (by omega)];rfl
    have hq:wF (m:Int) 2=jq ((m/2:Nat):Int):=by unfold wF;rw[if_neg (by decide),Lb (by omega)];rw[zH (by omega) (by omega)];rfl
    have aw:mul (suf x 0) (pw (mul (suf x 0)) (zeros (suf x 0).length) c q) (pw (mul (suf x 0)) (zeros (suf x 0).length) c q)=pw (mul (suf x 0)) (zeros (suf x 0).length) c (q+q):=(zCG G.toMon fh q q).symm;rw[jw (by omega),zJ,hr,bs];rcases Nat.mod_two_eq_zero_or_one m with h2|h2
    ·rw[h2,show((((0:Nat):Int))==1)=jt from rfl,zK,hA _ _ (pwV q) (pwV q),bs,hq,bs,aw]
     refine⟨_,rfl,⟨m/2,a,q+q,rfl,?_,by omega⟩,by simp only;omega⟩;rw[←he];have:m=m/2+m/2:=by omega
     have e3:(q+q)*(m/2)=q*m:=by rw[H6,←Q7,←this]
     omega
    ·rw[h2,show((((1:Nat):Int))==1)=js from rfl,zJ,hA _ _ (pwV a) (pwV q),bs,hA _ _ (pwV q) (pwV q),bs,hq,bs,aw,←zCG G.toMon fh a q]
     refine⟨_,rfl,⟨m/2,a+q,q+q,rfl,?_,by omega⟩,by simp only;omega⟩;rw[←he];have:m=m/2+m/2+1:=by omega
     have e3:(q+q)*(m/2)+q=q*m:=by
      have e4:q*m=q*(m/2+m/2+1):=by rw[←this]
      rw[e4,Q7,Q7,Gw,H6]
     omega) 1000000 (e,(zeros (suf x 0).length),c) (by simp only;omega) ⟨e.toNat,0,1,by rw[zMi G.toMon fh,show((e.toNat:Nat):Int)=e from by omega];rfl,by omega,by omega⟩
 rw[r1,bs,r2]
theorem zOi{c:Vec}(fh:V (suf x 0) c){e:Int}(e0:0≤e)(e1:e≤1000):zFs x c e=jq (pw (mul (suf x 0)) (zeros (suf x 0).length) c e.toNat):=by unfold zFs;rw[ju (by omega),zK,zWI h hc fh e0 e1,bs]
theorem zWJ{c:Vec}(fh:V (suf x 0) c){e:Int}(e0:0<e)(e1:e≤1000):∃u,V (suf x 0) u∧mul (suf x 0) c u=(zeros (suf x 0).length)∧zFs x c (-e)=jq (pw (mul (suf x 0)) (zeros (suf x 0).length) u e.toNat):=by obtain⟨u,u1,u2,u3⟩:=zED h hc fh;refine⟨u,u1,u2,?_⟩;unfold zFs;rw[jw (by omega),zJ,u3,bs,zH (by omega) (by omega),bs,show(0:Int)- -e=e from by omega,zWI h hc u1 (by omega) e1,bs]
theorem zYg{a b:Vec}(ha:V (suf x 0) a)(hb:V (suf x 0) b):∃w,V (suf x 0) w∧mul (suf x 0) (mul (suf x 0) b a) w=mul (suf x 0) a b∧zVt x a b=jq w:=by
 have ok:=ok0 h hc;have G:=g0 h hc;have hba:=wY ok hb ha;have fI:=wY ok ha hb;obtain⟨i,i1,i2,i3⟩:=zED h hc hba;refine⟨mul (suf x 0) i (mul (suf x 0) a b),wY ok i1 fI,?_,?_⟩
 ·rw[←G.assoc hba i1 fI,i2,G.onel fI]
 ·unfold zVt
  rw[zCU h hc hb ha,bs,i3,bs,zCU h hc ha hb,bs,zCU h hc i1 fI,bs]
theorem zHD:Fil (V (suf x 0)) (mul (suf x 0)) (zeros (suf x 0).length) x.zA.length (fun d=>at0 x.zA d) (fun v d=>at0 v d):=by
 have F:=fil (ok0 h hc) hc;have hl:(suf x 0).length=x.zA.length:=by rw[wK];omega
 have ho:∀d,d<x.zA.length→od (suf x 0) d=at0 x.zA d:=fun d hd=>by unfold od suf;rw[Jp,J4 (by simpa using hd)];simp[lvl]
 exact⟨F.g,fun ha hd=>by have:=F.r ha (by rw[hl];exact hd);rwa [ho _ hd]at this,fun hd=>F.e0 (by rw[hl];exact hd),fun ha hb hh=>F.ex ha hb fun d hd=>hh d (by rw[←hl];exact hd),
  fun ha hb hd hz=>by have:=F.ad ha hb (by rw[hl];exact hd) hz;rw[ho _ hd]at this;exact this⟩
end
end Go.Pl

namespace Go.Pl
open Go Go.Ab Go.Wk Go.Pc
def tbl(b:Mx)(k:Nat):Option Vec:=match b.getD k []with
 | []=>jr
 |v::vs=>jq (v::vs)
theorem kA{b:Mx}{k:Nat}{t:Vec}:tbl b k=jq t↔b.getD k []=t∧t≠[]:=by
 unfold tbl;cases b.getD k []with
 |nil=>simp
 |cons v vs=>simp;intro h;rw[←h];simp
theorem tF{b:Mx}{k:Nat}:tbl b k=jr↔b.getD k []=[]:=by unfold tbl;cases b.getD k []<;>simp
theorem zJ5{b:Mx}{d:Nat}{y:Vec}(hd:d<b.length)(hy:y≠[]):tbl (b.set d y)=fun j=>if j=d then jq y else tbl b j:=by
 funext j
 by_cases h:j=d
 ·subst h
  rw[if_pos rfl,kA,J2,Jaa hd];exact⟨rfl,hy⟩
 ·rw[if_neg h]
  unfold tbl;rw[J2,Jaj (fun e=>h e.symm),←J2]
def zBf:Mx→Nat
 | []=>0
 | []::b=>zBf b+1
 |(_::_)::b=>zBf b
theorem zDu:∀b:Mx,zBf b≤b.length
 | []=>J7 _
 | []::b=>by simp only[zBf,Jx];have:=zDu b;omega
 |(_::_)::b=>by simp only[zBf,Jx];have:=zDu b;omega
theorem zHm:∀(b:Mx)(d:Nat)(y:Vec),d<b.length→b.getD d []=[]→y≠[]→zBf (b.set d y)+1=zBf b
 | [],d,y,h,_,_=>by simp at h
 |v::b,0,y,_,h,hy=>by
  simp at h;subst h;cases y with
  |nil=>exact absurd rfl hy
  |cons a y=>simp[zBf]
 |v::b,d+1,y,h,h1,hy=>by have ih:=zHm b d y (by simpa using h) (by simpa using h1) hy;cases v<;>simp only[Kk,zBf]<;>omega
theorem zCk{v:List Int}(hl:v.length≤1000):∃d:Nat,d≤v.length∧zNg v=jq (d:Int)∧(∀j,j<d→at0 v j=0)∧(d<v.length→at0 v d≠0):=by
 obtain⟨r,r1,r2⟩:=tU (body:=zLC v) (Q:=fun r=>match r with
   |.inl ()=> ∀j,j<v.length→at0 v j=0
   |.inr e=> ∃d:Nat,e=(d:Int)∧d<v.length∧(∀j,j<d→at0 v j=0)∧at0 v d≠0)
  (fun i s=>s=(i:Int)∧ ∀j,j<i→at0 v j=0) v.length (fun i s hi hs=>by
   obtain⟨rfl,hz⟩:=hs;unfold zLC;rw[xH hi,zJ,yO 0 hi,bs]
   by_cases h0:at0 v i=0
   ·left
    have ck:v.getD i 0=0:=h0;rw[ck,show((0:Int) != 0)=jt from rfl,zK,zH (by omega) (by omega),bs,cs];refine⟨_,rfl,rfl,fun j hj=>?_⟩
    by_cases e:j=i
    ·rw[e];exact h0
    ·exact hz j (by omega)
   ·right
    have ck:(v.getD i 0 != 0)=js:=by simpa using h0
    rw[ck,zJ];exact⟨_,rfl,i,rfl,hi,hz,h0⟩) (fun s hs=>by
   obtain⟨rfl,hz⟩:=hs;unfold zLC;rw[wW,zK];exact⟨_,rfl,hz⟩) (s:=0) ⟨rfl,fun j hj=>by omega⟩
 unfold zNg;rw[r1,bs];cases r with
 |inl u=>exact⟨v.length,J7 _,rfl,r2,fun h=>absurd h (Jbm _)⟩
 |inr e=>
  obtain⟨d,rfl,h1,h2,h3⟩:=r2;exact⟨d,by omega,rfl,h2,fun _=>h3⟩
section
variable {x:SPr} (h:Pres x) (hc:uZ (suf x 0)) {b:Mx} (hb:b.length=x.zA.length) (hT:Tab (V (suf x 0)) x.zA.length (fun v d=>at0 v d) (tbl b))
 include h hc hb hT
theorem zPp{y:Vec}(hy:V (suf x 0) y):∃(z:Vec)(d:Nat),zVv ⟨x,b⟩ y=jq (z,⟨x,b⟩)∧Sf (V (suf x 0)) (mul (suf x 0)) (zeros (suf x 0).length) x.zA.length (fun v d=>at0 v d) (tbl b) y z∧
  d≤x.zA.length∧(∀j,j<d→at0 z j=0)∧(d<x.zA.length→at0 z d≠0∧tbl b d=jr):=by
 have h6:=h.os.1;have F:=zHD h hc;obtain⟨d0,a1,a2,a3,a4⟩:=zCk (v:=y) (by rw[zDW h hc hy];omega);rw[zDW h hc hy]at a1 a4;obtain⟨r,r1,_,d,rfl,r3,r4,r5,r6⟩:=uC (body:=zO7 ⟨x,b⟩)
  (Q:=fun r=> ∃(z:Vec)(d:Nat),r=z∧Sf (V (suf x 0)) (mul (suf x 0)) (zeros (suf x 0).length) x.zA.length (fun v d=>at0 v d) (tbl b) y z∧d≤x.zA.length∧(∀j,j<d→at0 z j=0)∧(d<x.zA.length→at0 z d≠0∧tbl b d=jr))
  (fun s=> ∃(z:Vec)(d:Nat),s=(z,(d:Int))∧Sf (V (suf x 0)) (mul (suf x 0)) (zeros (suf x 0).length) x.zA.length (fun v d=>at0 v d) (tbl b) y z∧d≤x.zA.length∧(∀j,j<d→at0 z j=0)∧(d<x.zA.length→at0 z d≠0))
  (fun s=>x.zA.length-s.2.toNat) (fun s hs=>by
   obtain⟨z,d,rfl,sf,d1,d2,d3⟩:=hs;have hz:=sf.s;have pA:=zDW h hc hz;unfold zO7;simp only
   by_cases hd:d<x.zA.length
   ·rw[show decide ((d:Int)<(z.length:Int))=js from jw (by omega),zJ,yO [] (by omega),bs]
    cases ht:b.getD d []with
    |nil=>
     right;rw[show(!(([]:List Int)).isEmpty)=jt from rfl,zK];exact⟨_,rfl,z,d,rfl,sf,d1,d2,fun _=>⟨d3 hd,tF.2 ht⟩⟩
    |cons t0 ts=>
     left;have ew:tbl b d=jq (t0::ts):=kA.2 ⟨ht,by simp⟩;obtain⟨_,t2,t3,t4⟩:=hT.h ew;have ff:=h.os.2 d hd;have hp7:=ff.pos;have hr:=F.r hz hd;have k1:=F.killl hd t2 t3 t4 hz d2;obtain⟨q1,q2,_⟩:=F.pw1 hd t2 t3 t4 (at0 x.zA d-at0 z d).toNat;obtain⟨s1,s2⟩:=Sf.left F hT hd hz d2 (d3 hd) ew (fun _ g=>g.pw _) q1 q2 k1;have dI:=s1.s;rw[show(!((t0::ts)).isEmpty)=js from rfl,zJ,bs,yO 0 hd,bs,yO 0 (by omega),bs];rw[zH (by show _≤at0 x.zA d-at0 z d;omega) (by show at0 x.zA d-at0 z d≤_;omega),bs];rw[show x.zA.getD d 0-z.getD d 0=at0 x.zA d-at0 z d from rfl,zRM h hc t2 (by omega) (by omega),bs,zU3 h hc q1 hz,bs,yO 0 (by rw[zDW h hc dI];exact hd),bs];rw[show Uc (mul (suf x 0) (pw (mul (suf x 0)) (zeros (suf x 0).length) (t0::ts) (at0 x.zA d-at0 z d).toNat) z) d 0=0 from k1,show((0:Int) != 0)=jt from rfl,zK];obtain⟨e0,b1,b2,b3,b4⟩:=zCk (v:=mul (suf x 0) (pw (mul (suf x 0)) (zeros (suf x 0).length) (t0::ts) (at0 x.zA d-at0 z d).toNat) z) (by rw[zDW h hc dI];omega);rw[zDW h hc dI]at b1 b4;rw[b2,bs];refine⟨_,rfl,⟨_,e0,rfl,sf.trans s1,b1,b3,b4⟩,?_⟩;have:d<e0:=by apply Classical.byContradiction;intro gf;have:=s2 e0 (by omega);exact b4 (by omega) this
     simp only[J9];omega
   ·right
    rw[show decide ((d:Int)<(z.length:Int))=jt from ju (by omega),zK];exact⟨_,rfl,z,d,rfl,sf,d1,d2,fun hh=>absurd hh hd⟩) 1000 (y,(d0:Int)) (by simp only;omega) ⟨y,d0,rfl,Sf.refl hy,a1,a3,a4⟩
 refine⟨r,d,?_,r3,r4,r5,r6⟩;unfold zVv;rw[a2,bs,r1,bs]
end
end Go.Pl

namespace Go.Pl
open Go Go.Ab Go.Wk Go.Pc
theorem zHn{v:Vec}{d:Nat}(h:at0 v d≠0):v≠[]:=by rintro rfl;simp[at0]at h
section
variable {x:SPr} (h:Pres x) (hc:uZ (suf x 0)) {b:Mx} (hb:b.length=x.zA.length) (hT:Tab (V (suf x 0)) x.zA.length (fun v d=>at0 v d) (tbl b))
 include h hc hb hT
theorem zPq{y:Vec}(hy:V (suf x 0) y){g:List Int×xS}(hg:g.2=⟨x,b⟩){Q:Mx}(hQ:Q.length≤100000):
  ∃W:Mx,zC (zPT g y) (Q,0)=jq (Q++W)∧W.length≤x.zA.length∧(∀w∈W,V (suf x 0) w∧ ∃k u,tbl b k=jq u∧mul (suf x 0) (mul (suf x 0) y u) w=mul (suf x 0) u y)∧
   ∀k u,tbl b k=jq u→ ∃w,w∈W∧mul (suf x 0) (mul (suf x 0) y u) w=mul (suf x 0) u y:=by
 have h6:=h.os.1;obtain⟨r,r1,W,rfl,r2,r3,r4⟩:=tU (body:=zPT g y)
  (Q:=fun r=> ∃W:Mx,r=Q++W∧W.length≤x.zA.length∧(∀w∈W,V (suf x 0) w∧ ∃k u,tbl b k=jq u∧mul (suf x 0) (mul (suf x 0) y u) w=mul (suf x 0) u y)∧
   ∀k u,tbl b k=jq u→ ∃w,w∈W∧mul (suf x 0) (mul (suf x 0) y u) w=mul (suf x 0) u y)
  (fun i s=> ∃W:Mx,s=(Q++W,(i:Int))∧W.length≤i∧(∀w∈W,V (suf x 0) w∧ ∃k u,tbl b k=jq u∧mul (suf x 0) (mul (suf x 0) y u) w=mul (suf x 0) u y)∧
   ∀k u,k<i→tbl b k=jq u→ ∃w,w∈W∧mul (suf x 0) (mul (suf x 0) y u) w=mul (suf x 0) u y) x.zA.length (fun i s hi hs=>by
   obtain⟨W,rfl,w1,w2,w3⟩:=hs;left;unfold zPT;simp only[hg];rw[show decide ((i:Int)<(b.length:Int))=js from jw (by omega),zJ,yO [] (by omega),bs];cases ht:b.getD i []with
   |nil=>
    rw[show(!(([]:List Int)).isEmpty)=jt from rfl,zK,zH (by omega) (by omega),bs,cs];refine⟨_,rfl,W,rfl,by omega,w2,fun k u hk hu=>?_⟩
    by_cases e:k=i
    ·subst e
     rw[tF.2 ht]at hu;cases hu
    ·exact w3 k u (by omega) hu
   |cons t0 ts=>
    have ew:tbl b i=jq (t0::ts):=kA.2 ⟨ht,by simp⟩;obtain⟨_,t2,_,_⟩:=hT.h ew;obtain⟨w,v1,v2,v3⟩:=yA4 h hc t2 hy;rw[show(!((t0::ts)).isEmpty)=js from rfl,zJ,v3,bs,zT (by simp only[J8,Jd];omega),bs,zH (by omega) (by omega),bs,cs];refine⟨_,rfl,W++[w],by rw[Ji],by simp only[J8,Jd];omega,fun a ha=>?_,fun k u hk hu=>?_⟩
    ·rcases K4.1 ha with ha|ha
     ·exact w2 a ha
     ·simp at ha;subst ha
      exact⟨v1,i,_,ew,v2⟩
    ·by_cases e:k=i
     ·subst e
      rw[ew]at hu;cases hu;exact⟨w,by simp,v2⟩
     ·obtain⟨a,a1,a2⟩:=w3 k u (by omega) hu
      exact⟨a,by simp[a1],a2⟩) (fun s hs=>by
   obtain⟨W,rfl,w1,w2,w3⟩:=hs;unfold zPT;simp only[hg];rw[show decide ((x.zA.length:Int)<(b.length:Int))=jt from ju (by omega),zK];exact⟨_,rfl,W,rfl,w1,w2,fun k u hu=>w3 k u (hT.h hu).1 hu⟩) (s:=(Q,0)) ⟨[],by simp,J7 _,by simp,fun k u hk=>by omega⟩
 exact⟨W,r1,r2,r3,r4⟩
end
section
variable {x:SPr} (h:Pres x) (hc:uZ (suf x 0))
 include h hc
abbrev WlB(x:SPr)(L:Vec→Prop)(b:Mx)(Q:Mx):Prop:=Wl (V (suf x 0)) (mul (suf x 0)) (zeros (suf x 0).length) x.zA.length (fun d=>at0 x.zA d) (fun v d=>at0 v d) L (tbl b) Q
theorem zRN{L:Vec→Prop}(hL:∀a,L a→V (suf x 0) a){b:Mx}(hb:b.length=x.zA.length){g:Bool}{q:Vec}{Q:Mx}(hW:WlB x L b (q::Q))(hQ:Q.length≤10000):
  ∃(b':Mx)(g':Bool)(Q':Mx),zPU (x,b,g,q::Q)=jq (.inl (x,b',g',Q'))∧b'.length=x.zA.length∧WlB x L b' Q'∧
   (b'=b∧Q'=Q∧g'=g∨zBf b'+1=zBf b∧Q'.length≤Q.length+x.zA.length+2∧g'=js):=by
 have h6:=h.os.1;have F:=zHD h hc;have G:=g0 h hc;have hq:=hW.q q (by simp);obtain⟨z,d,s1,sf,s3,s4,s5⟩:=zPp h hc hb hW.t hq.1;have hz:=sf.s;have pA:=zDW h hc hz;obtain⟨d',d1,d2,d3,d4⟩:=zCk (v:=z) (by omega);rw[pA]at d1 d4;have jc:d'=d:=by
  rcases H4 d' d with g|g|g
  ·exact absurd (s4 d' g) (d4 (by omega))
  ·exact g
  ·exact absurd (d3 d g) (s5 (by omega)).1
 subst jc;unfold zPU;simp only
 rw[show decide (((q::Q).length:Int)> 0)=js from jw (by simp only[Jx];omega),zJ];rw[show ixO (q::Q) (0:Int)=jq q from rfl,bs,s1,bs];rw[show zQ (q::Q) 1 ((q::Q).length:Int)=jq Q from by unfold zQ;rw[if_pos ⟨by omega,by simp only[Jx];omega,Qc _⟩];simp,bs]
 dsimp only
 rw[d2,bs]
 by_cases hd:d'<x.zA.length
 ·obtain⟨n1,n2⟩:=s5 hd
  have ff:=h.os.2 d' hd;have hp7:=ff.pos;have hr:=F.r hz hd;obtain⟨v,v1,v2,v3,v4⟩:=zCf ff (x:=at0 z d') (by have:=hr.1;omega) (by have:=hr.2;omega);have cw:V (suf x 0) (pw (mul (suf x 0)) (zeros (suf x 0).length) z v.toNat):=vW G.toMon hz _;obtain⟨y,cv⟩:∃y,y=pw (mul (suf x 0)) (zeros (suf x 0).length) z v.toNat:=⟨_,rfl⟩;rw[←cv]at cw;have mD:=F.pwc hd hz s4 v.toNat;rw[←cv]at mD;have fc:at0 y d'=1:=by have:=mD.2;rw[this,show((v.toNat:Nat):Int)=v from by omega,Lp];exact v4
  have tp:V (suf x 0) (pw (mul (suf x 0)) (zeros (suf x 0).length) y (at0 x.zA d').toNat):=vW G.toMon cw _;have fS:y≠[]:=zHn (d:=d') (by rw[fc];decide);rw[show(((d':Nat):Int)==(z.length:Int))=jt from by simp;omega,zK,yO 0 (by omega),bs,yO 0 hd,bs];rw[show z.getD d' 0=at0 z d' from rfl,show x.zA.getD d' 0=at0 x.zA d' from rfl,v1,bs,zT (by simp only[Jd];omega),bs];simp only
  rw[zRM h hc hz v2 (by omega),bs,bs,←cv,zRM h hc cw (by omega) (by omega),bs,zT (by simp only[J8,Jd];omega),bs];obtain⟨W,W1,W2,W3,W4⟩:=zPq h hc hb hW.t cw (g:=(z,⟨x,b⟩)) rfl (Q:=Q++[z]++[pw (mul (suf x 0)) (zeros (suf x 0).length) y (at0 x.zA d').toNat]) (by simp only[J8,Jd];omega);rw[W1,bs,yO [] (by omega),bs,show neO y=jq ()from by cases y with
   |nil=>exact absurd rfl fS
   |cons _ _=>rfl,bs]
  refine⟨_,_,_,rfl,by rw[Kn];exact hb,?_,.inr ⟨zHm b d' y (by omega) (tF.1 n2) fS,by simp only[J8,Jd];omega,rfl⟩⟩;rw[show((d':Nat):Int).toNat=d' from rfl];have gm:=zJ5 (b:=b) (d:=d') (y:=y) (by omega) fS;have tm:Gen (V (suf x 0)) (mul (suf x 0)) (zeros (suf x 0).length) L z:=sf.h L hL hW.th hq.2;have cx:Gen (V (suf x 0)) (mul (suf x 0)) (zeros (suf x 0).length) L y:=by rw[cv];exact tm.pw _
  rw[WlB,gm];refine Wl.add F hW hd n2 cw cx mD.1 fc (x:=q) (fun k hk=>?_) (fun a ha=>?_) (fun a ha=>?_) (by simp) (fun k u hu=>?_)
  ·have jj:∀k t,tbl b k=jq t→(fun j=>if j=d' then jq y else tbl b j) k=jq t:=fun k t hk=>by
    show(if k=d' then jq y else tbl b k)=jq t;rw[if_neg]
    ·exact hk
    ·intro e;rw[e,n2]at hk;cases hk
   have jm:∀a∈Q++[z]++[pw (mul (suf x 0)) (zeros (suf x 0).length) y (at0 x.zA d').toNat]++W,V (suf x 0) a:=fun a ha=>by
    simp only[K4,List.mem_singleton]at ha;rcases ha with((ha|rfl)|rfl)|ha
    ·exact(hW.q a (by simp[ha])).1
    ·exact hz
    ·exact tp
    ·exact(W3 a ha).1
   have:=sf.g k (Q++[z]++[pw (mul (suf x 0)) (zeros (suf x 0).length) y (at0 x.zA d').toNat]++W) jm hk (.x (.inr ⟨by simp,fun j hj fQ=>sf.d k hk j hj fQ⟩));exact this.tr jj fun a ha k hk=>.x (.inr ⟨ha,hk⟩)
  ·simp only[K4,List.mem_singleton]at ha
   rcases ha with((ha|rfl)|rfl)|ha
   ·exact hW.q a (by simp[ha])
   ·exact⟨hz,tm⟩
   ·exact⟨tp,cx.pw _⟩
   ·obtain⟨a1,k,u,a2,a3⟩:=W3 a ha
    have hu:=(hW.t.h a2).2.1;refine⟨a1,Gen.right G hL (.m cx (hW.th a2)) a1 ?_⟩;rw[a3];exact .m (hW.th a2) cx
  ·simp only[Js]at ha
   rcases ha with rfl|ha
   ·exact .inl rfl
   ·exact .inr (by simp[ha])
  ·obtain⟨w,w1,w2⟩:=W4 k u hu
   exact⟨w,by simp[w1],.inr w2⟩
 ·rw[show(((d':Nat):Int)==(z.length:Int))=js from by simp;omega,zJ]
  refine⟨b,g,Q,rfl,hb,?_,.inl ⟨rfl,rfl,rfl⟩⟩;have dD:z=zeros (suf x 0).length:=F.ex hz G.ein fun j hj=>by have e0:=F.e0 hj;rw[e0,s4 j (by omega)]
  refine Wl.drop hW (x:=q) (fun k hk=>?_) (fun a ha=>by simp[ha]) (fun a ha=>by simpa using ha);exact sf.g k Q (fun a ha=>(hW.q a (by simp[ha])).1) hk (by rw[dD];exact .one)
theorem zPr{L:Vec→Prop}(hL:∀a,L a→V (suf x 0) a){b:Mx}(hb:b.length=x.zA.length){M:Mx}(hW:WlB x L b M)(hM:M.length≤1000):
  ∃(g:Bool)(b':Mx),f_N ⟨x,b⟩ M=jq (g,⟨x,b'⟩)∧b'.length=x.zA.length∧WlB x L b' []∧(b'=b∧g=jt∨zBf b'<zBf b∧g=js):=by
 have h6:=h.os.1;obtain⟨r,r1,b',g,rfl,r2,r3,r4⟩:=uC (body:=zPU) (Q:=fun r=> ∃(b':Mx)(g:Bool),r=(x,b',g)∧b'.length=x.zA.length∧WlB x L b' []∧(b'=b∧g=jt∨zBf b'<zBf b∧g=js))
  (fun s=> ∃(b1:Mx)(g:Bool)(Q:Mx),s=(x,b1,g,Q)∧b1.length=x.zA.length∧WlB x L b1 Q∧zBf b1*20+Q.length≤2000∧(b1=b∧g=jt∨zBf b1<zBf b∧g=js)) (fun s=>zBf s.2.1*20+s.2.2.2.length) (fun s hs=>by
   obtain⟨b1,g,Q,rfl,hb,hW,hm,hg⟩:=hs;cases Q with
   |nil=>
    right;unfold zPU;simp only
    rw[show decide ((([]:Mx).length:Int)> 0)=jt from rfl,zK];exact⟨_,rfl,b1,g,rfl,hb,hW,hg⟩
   |cons q Q=>
    left;simp only[Jx]at hm;obtain⟨b',g',Q',e1,e2,e3,e4⟩:=zRN h hc hL hb hW (g:=g) (by omega);refine⟨_,e1,⟨b',g',Q',rfl,e2,e3,?_,?_⟩,?_⟩
    ·rcases e4 with⟨rfl,rfl,_⟩|⟨e4,e5,_⟩<;>omega
    ·rcases e4 with⟨rfl,rfl,rfl⟩|⟨e4,e5,rfl⟩
     ·exact hg
     ·right
      refine⟨?_,rfl⟩;rcases hg with⟨rfl,_⟩|⟨hg,_⟩<;>omega
    ·simp only[Jx]
     rcases e4 with⟨rfl,rfl,_⟩|⟨e4,e5,_⟩<;>omega) 100000 (x,b,jt,M) (by have:=zDu b;simp only;omega) ⟨b,jt,M,rfl,hb,hW,by have:=zDu b;omega,.inl ⟨rfl,rfl⟩⟩
 refine⟨g,b',?_,r2,r3,r4⟩;unfold f_N zSI;rw[zT (by simp only[Li];omega),bs,bs,Jy,r1,bs]
theorem zRO{L:Vec→Prop}(hL:∀a,L a→V (suf x 0) a){b:Mx}(hb:b.length=x.zA.length){M:Mx}(hW:WlB x L b M)(hM:M.length≤1000):
  ∃(g:Bool)(b':Mx),f_N ⟨x,b⟩ M=jq (g,⟨x,b'⟩)∧b'.length=x.zA.length∧WlB x L b' []:=by
 obtain⟨g,b',e1,e2,e3,_⟩:=zPr h hc hL hb hW hM;exact⟨g,b',e1,e2,e3⟩
end
end Go.Pl

namespace Go.Pl
open Go Go.Ab Go.Wk Go.Pc
def tN(C:Nat→Option Vec)(k l:Nat):Mx:=(Ga k l).filterMap C
def zEI(C:Nat→Option Vec)(k l:Nat):List Int:=(Ga k l).filterMap fun j=>(C j).map fun _=>(j:Int)
theorem zEJ{C:Nat→Option Vec}{k l:Nat}(h:C k=jr):tN C k (l+1)=tN C (k+1) l:=by simp only[tN,Hi,Lf,h]
theorem zEK{C:Nat→Option Vec}{k l:Nat}{t:Vec}(h:C k=jq t):tN C k (l+1)=t::tN C (k+1) l:=by simp only[tN,Hi,Lf,h]
theorem zI5{C:Nat→Option Vec}{k l:Nat}(h:C k=jr):zEI C k (l+1)=zEI C (k+1) l:=by simp only[zEI,Hi,Lf,h,Ub]
theorem zI6{C:Nat→Option Vec}{k l:Nat}{t:Vec}(h:C k=jq t):zEI C k (l+1)=(k:Int)::zEI C (k+1) l:=by simp only[zEI,Hi,Lf,h,Ua]
theorem zHo{C D:Nat→Option Vec}:∀(l k:Nat),(∀j,k≤j→C j=D j)→tN C k l=tN D k l
 |0,_,_=>rfl
 |l+1,k,h=>by
  have ih:=zHo l (k+1) fun j hj=>h j (by omega)
  cases hc:C k with
  |none=>rw[zEJ hc,zEJ (by rw[←h k (J7 _)];exact hc),ih]
  |some t=>rw[zEK hc,zEK (by rw[←h k (J7 _)];exact hc),ih]
theorem zM9(C:Nat→Option Vec)(k l:Nat):(tN C k l).length≤l:=by
 have:=List.length_filterMap_le C (Ga k l)
 rwa [List.length_range']at this
theorem zJ6{α:Type}{u:List α}{i:Nat}{a:α}{v:List α}(h:u.drop i=a::v):i<u.length∧ixO u (i:Int)=jq a∧u.drop (i+1)=v:=by
 have hi:i<u.length:=by apply Classical.byContradiction;intro g;rw[H9 (by omega)]at h;cases h
 rw[Lv hi]at h;injection h with h1 h2;exact⟨hi,by rw[tL,J4 hi,h1],h2⟩
theorem zPs{v:List Int}{d:Nat}(hd:d<v.length)(hl:v.length≤1000)(hz:∀j,j<d→at0 v j=0)(h1:at0 v d=1):zPN v=jq (d:Int):=by
 obtain⟨r,r1,rfl⟩:=tU (body:=zFF v) (Q:=fun r=>r=.inr (d:Int)) (fun i s=>s=(i:Int)) d (fun i s hi hs=>by
  subst hs;left;unfold zFF zPM;rw[xH (by omega),zJ,yO 0 (by omega),bs,bs,show v.getD i 0=0 from hz i hi,show((0:Int) != 0)=jt from rfl,zK,zH (by omega) (by omega),bs,cs];exact⟨_,rfl,rfl⟩) (fun s hs=>by
  subst hs;unfold zFF zPM;rw[xH hd,zJ,yO 0 hd,bs,bs,show v.getD d 0=1 from h1,show((1:Int) != 0)=js from rfl,zJ];exact⟨_,rfl,rfl⟩) (s:=0) rfl
 unfold zPN;rw[r1,bs]
section
variable {x:SPr} (h:Pres x) (hc:uZ (suf x 0)) {C:Nat→Option Vec} (hC:∀{j t},C j=jq t→j<x.zA.length∧V (suf x 0) t∧(∀i,i<j→at0 t i=0)∧at0 t j=1)
 include h hc hC
theorem zHp:∀(l k i:Nat)(u:Mx)(acc:List Int),k+l=x.zA.length→u.drop i=tN C k l→u.length≤1000→acc.length≤i→i≤u.length→zC (zHI u) (acc,(i:Int))=jq (acc++zEI C k l)
 |0,k,i,u,acc,hk,hu,hl,ha,hi=>by
  have:i=u.length:=by have:=congrArg Qx hu;rw[Km]at this;simp[tN]at this;omega
  subst this;rw[yP];unfold zHI;simp only
  rw[wW,zK];simp[zEI]
 |l+1,k,i,u,acc,hk,hu,hl,ha,hi=>by
  have h6:=h.os.1;cases ht:C k with
  |none=>
   rw[zEJ ht]at hu;rw[zI5 ht];exact zHp l (k+1) i u acc (by omega) hu hl ha hi
  |some t=>
   rw[zEK ht]at hu;obtain⟨a1,a2,a3⟩:=zJ6 hu;obtain⟨c1,c2,c3,c4⟩:=hC ht;have py:=zDW h hc c2;rw[yP];unfold zHI;simp only
   rw[xH a1,zJ,a2,bs,zPs (by omega) (by omega) c3 c4,bs,zT (by simp only[Jd];omega),bs,zH (by omega) (by omega),bs,cs];have:=zHp l (k+1) (i+1) u (acc++[(k:Int)]) (by omega) a3 hl (by simp only[J8,Jd];omega) (by omega);unfold zHI at this;simp only at this ⊢
   rw[this,zI6 ht,Ji];rfl
theorem zRP(k l:Nat)(hk:k+l=x.zA.length):f_D (tN C k l)=jq (zEI C k l):=by have h6:=h.os.1;have:=zHp h hc hC l k 0 (tN C k l) [] hk rfl (by have:=zM9 C k l;omega) (by simp) (by omega);unfold f_D;rw[show zC (zHI (tN C k l)) ([],0)=jq (zEI C k l)from by simpa using this,bs]
theorem zPt{u:Mx}{s:List Int×Int}{j:Nat}{t y:Vec}(ht:C j=jq t)(hu:ixO u s.2=jq t)(hy:V (suf x 0) y):∃z,(∀{Y:Vec→Prop},Gen (V (suf x 0)) (mul (suf x 0)) (zeros (suf x 0).length) Y t→Gen (V (suf x 0)) (mul (suf x 0)) (zeros (suf x 0).length) Y z)∧
  V (suf x 0) z∧(∀i,i<j→at0 z i=0)∧at0 (mul (suf x 0) y z) j=0∧zC (zPV x u s (j:Int)) y=jq (mul (suf x 0) y z):=by
 have F:=zHD h hc;have G:=g0 h hc;obtain⟨c1,c2,c3,c4⟩:=hC ht;have hr:=F.r hy c1;have ff:=(h.os.2 j c1).pos;obtain⟨n,hn⟩:∃n:Nat,(at0 y j=0∧n=0)∨(at0 y j≠0∧(n:Int)=at0 x.zA j-at0 y j):=by
  by_cases e:at0 y j=0
  ·exact⟨0,.inl ⟨e,rfl⟩⟩
  ·exact⟨(at0 x.zA j-at0 y j).toNat,.inr ⟨e,by omega⟩⟩
 have hp:=fun a=>F.pw1 c1 c2 c3 c4 a
 have je:∀a,at0 (mul (suf x 0) y (pw (mul (suf x 0)) (zeros (suf x 0).length) t a)) j=(at0 y j+a)%at0 x.zA j:=fun a=>by have:=(F.ad hy (hp a).1 c1 (hp a).2.1).2;rw[this,(hp a).2.2,Jar]
 have hV:∀a,V (suf x 0) (mul (suf x 0) y (pw (mul (suf x 0)) (zeros (suf x 0).length) t a)):=fun a=>G.cl hy (hp a).1
 refine⟨pw (mul (suf x 0)) (zeros (suf x 0).length) t n,fun g=>g.pw n,(hp n).1,(hp n).2.1,?_,?_⟩
 ·rw[je]
  rcases hn with⟨e,rfl⟩|⟨e,hn⟩
  ·rw[e];simp
  ·rw[hn,show at0 y j+(at0 x.zA j-at0 y j)=at0 x.zA j from by omega,U4]
 ·have:=zU (body:=zPV x u s (j:Int)) (r:=mul (suf x 0) y (pw (mul (suf x 0)) (zeros (suf x 0).length) t n)) (fun a=>mul (suf x 0) y (pw (mul (suf x 0)) (zeros (suf x 0).length) t a)) n (fun a ha=>by
   have dh:=hV a;unfold zPV;rw[yO 0 (by rw[zDW h hc dh];exact c1),bs];rw[show Uc (mul (suf x 0) y (pw (mul (suf x 0)) (zeros (suf x 0).length) t a)) j 0=(at0 y j+a)%at0 x.zA j from je a];have gf:(at0 y j+a)%at0 x.zA j≠0:=by
    rcases hn with⟨e,rfl⟩|⟨e,hn⟩
    ·omega
    ·rw[Jb (by omega) (by omega)];omega
   rw[show((at0 y j+a)%at0 x.zA j != 0)=js from by simpa using gf,zJ,hu,bs,tv0 h hc dh c2,bs];have e1:mul (suf x 0) (mul (suf x 0) y (pw (mul (suf x 0)) (zeros (suf x 0).length) t a)) t=mul (suf x 0) y (pw (mul (suf x 0)) (zeros (suf x 0).length) t (a+1)):=by
    rw[G.assoc hy (hp a).1 c2]
    congr 1
    rw[pw,pw,vK]
   rw[e1]) (by
   have dh:=hV n;unfold zPV;rw[yO 0 (by rw[zDW h hc dh];exact c1),bs];rw[show Uc (mul (suf x 0) y (pw (mul (suf x 0)) (zeros (suf x 0).length) t n)) j 0=0 from by
    have:=je n;rw[show Uc (mul (suf x 0) y (pw (mul (suf x 0)) (zeros (suf x 0).length) t n)) j 0=(at0 y j+n)%at0 x.zA j from this];rcases hn with⟨e,rfl⟩|⟨e,hn⟩
    ·rw[e];simp
    ·rw[hn,show at0 y j+(at0 x.zA j-at0 y j)=at0 x.zA j from by omega,U4]]
   rw[show((0:Int) != 0)=jt from rfl,zK])
  have e0:mul (suf x 0) y (pw (mul (suf x 0)) (zeros (suf x 0).length) t 0)=y:=G.oner hy;rw[e0]at this;exact this
theorem zMA{L:Vec→Prop}{d:Nat}(hL:∀{j t},C j=jq t→Gen (V (suf x 0)) (mul (suf x 0)) (zeros (suf x 0).length) L t){u:Mx}{P:List Int}:∀(l k i:Nat)(y:Vec),d<k→k+l=x.zA.length→u.drop i=tN C k l→P.drop i=zEI C k l→i≤P.length→i+l≤1000→
  Rd (V (suf x 0)) (mul (suf x 0)) (zeros (suf x 0).length) x.zA.length (fun v j=>at0 v j) L C d k y→
  ∃r,zC (zNh x u P) (y,(i:Int))=jq r∧Rd (V (suf x 0)) (mul (suf x 0)) (zeros (suf x 0).length) x.zA.length (fun v j=>at0 v j) L C d x.zA.length r
 |0,k,i,y,hdk,hk,hu,hP,hi,er,hR=>by
  have:i=P.length:=by have:=congrArg Qx hP;rw[Km]at this;simp[zEI]at this;omega
  subst this;have e:k=x.zA.length:=by omega
  rw[e]at hR;refine⟨y,?_,hR⟩;rw[yP];unfold zNh;simp only
  rw[wW,zK]
 |l+1,k,i,y,hdk,hk,hu,hP,hi,er,hR=>by
  have h6:=h.os.1;have F:=zHD h hc;cases ht:C k with
  |none=>
   rw[zEJ ht]at hu;rw[zI5 ht]at hP;exact zMA hL l (k+1) i y (by omega) (by omega) hu hP hi (by omega) (hR.skip (.inl ht))
  |some t=>
   rw[zEK ht]at hu;rw[zI6 ht]at hP;obtain⟨a1,a2,a3⟩:=zJ6 hu;obtain⟨p1,p2,p3⟩:=zJ6 hP;obtain⟨z,z1,z2,z3,z4,z5⟩:=zPt h hc hC (u:=u) (s:=(y,(i:Int))) ht a2 hR.s;have dB:=hR.step F hdk (by omega) z2 (z1 (hL ht)) z3 z4;obtain⟨r,r1,r2⟩:=zMA hL l (k+1) (i+1) _ (by omega) (by omega) a3 p3 (by omega) (by omega) dB;have fK:zNh x u P (y,(i:Int))=jq (.inl (mul (suf x 0) y z,((i+1:Nat):Int))):=by
    unfold zNh;simp only
    rw[xH p1,zJ,p2,bs,z5,bs,zH (by omega) (by omega),bs,cs]
   exact⟨r,by rw[yP,fK];exact r1,r2⟩
end
end Go.Pl

namespace Go.Pl
open Go Go.Ab Go.Wk Go.Pc
section
variable {x:SPr} (h:Pres x) (hc:uZ (suf x 0))
abbrev zJ7(x:SPr)(L:Vec→Prop):Vec→Prop:=Gen (V (suf x 0)) (mul (suf x 0)) (zeros (suf x 0).length) L
abbrev zMB(x:SPr)(L:Vec→Prop)(C:Nat→Option Vec):Prop:=Pc.Can (e:=zeros (suf x 0).length) (V (suf x 0)) x.zA.length (fun v j=>at0 v j) (zJ7 x L) C
structure CI (x:SPr) (L:Vec→Prop) (b:Mx) (d:Nat) (C:Nat→Option Vec):Prop where
 c:∀{j t},C j=jq t→j<x.zA.length∧V (suf x 0) t∧(∀i,i<j→at0 t i=0)∧at0 t j=1
 lo:∀{j t},C j=jq t→d≤j
 g:∀{j t},C j=jq t→zJ7 x L t
 r:∀{j t},C j=jq t→ ∀i,j<i→i<x.zA.length→(C i).isSome=js→at0 t i=0
 s:∀j,d≤j→(C j).isSome=(tbl b j).isSome
theorem CI.put{L:Vec→Prop}{b:Mx}{d:Nat}{C:Nat→Option Vec}(hI:CI x L b (d+1) C)(hd:d<x.zA.length){t r:Vec}(ht:tbl b d=jq t)(hr:Rd (V (suf x 0)) (mul (suf x 0)) (zeros (suf x 0).length) x.zA.length (fun v j=>at0 v j) L C d x.zA.length r):
  CI x L b d (fun j=>if j=d then jq r else C j)∧tN (fun j=>if j=d then jq r else C j) d (x.zA.length-d)=r::tN C (d+1) (x.zA.length-(d+1)):=by
 have key:∀{j t},(if j=d then jq r else C j)=jq t→(j=d∧t=r)∨(j≠d∧C j=jq t):=fun{j t} hj=>by
  split at hj
  ·rename_i e;cases hj;exact .inl ⟨e,rfl⟩
  ·rename_i e;exact .inr ⟨e,hj⟩
 refine⟨⟨fun hj=>?_,fun hj=>?_,fun hj=>?_,fun hj i hi gR mA=>?_,fun j hj=>?_⟩,?_⟩
 ·rcases key hj with⟨rfl,rfl⟩|⟨_,e⟩
  ·exact⟨hd,hr.s,hr.z,hr.o⟩
  ·exact hI.c e
 ·rcases key hj with⟨rfl,rfl⟩|⟨_,e⟩
  ·exact J7 _
  ·have:=hI.lo e;omega
 ·rcases key hj with⟨rfl,rfl⟩|⟨_,e⟩
  ·exact hr.l
  ·exact hI.g e
 ·replace mA:(if i=d then jq r else C i).isSome=js:=mA
  rcases key hj with⟨rfl,rfl⟩|⟨_,e⟩
  ·rw[if_neg (by omega)]at mA
   exact hr.r i hi gR mA
  ·have:=hI.lo e
   rw[if_neg (by omega)]at mA;exact hI.r e i hi gR mA
 ·show(if j=d then jq r else C j).isSome=_
  by_cases e:j=d
  ·subst e;rw[if_pos rfl,ht];rfl
  ·rw[if_neg e];exact hI.s j (by omega)
 ·rw[show x.zA.length-d=(x.zA.length-(d+1))+1 from by omega,zEK (t:=r) (by simp)]
  congr 1
  exact zHo _ _ fun j hj=>by rw[if_neg (by omega)]
theorem CI.skip{L:Vec→Prop}{b:Mx}{d:Nat}{C:Nat→Option Vec}(hI:CI x L b (d+1) C)(hd:d<x.zA.length)(ht:tbl b d=jr):CI x L b d C∧tN C d (x.zA.length-d)=tN C (d+1) (x.zA.length-(d+1)):=by
 have hn:C d=jr:=by
  cases e:C d with
  |none=>rfl
  |some t=>have:=hI.lo e;omega
 refine⟨⟨hI.c,fun e=>by have:=hI.lo e;omega,hI.g,hI.r,fun j hj=>?_⟩,?_⟩
 ·by_cases e:j=d
  ·subst e;rw[hn,ht]
  ·exact hI.s j (by omega)
 ·rw[show x.zA.length-d=(x.zA.length-(d+1))+1 from by omega,zEJ hn]
theorem CI.start{L:Vec→Prop}{b:Mx}(hb:b.length=x.zA.length):CI x L b x.zA.length (fun _=>jr):=
 ⟨(fun e=>by cases e),(fun e=>by cases e),(fun e=>by cases e),(fun e=>by cases e),fun j hj=>by rw[tF.2 (by rw[J2,H1 (by omega)];rfl)]⟩
 include h hc
theorem CI.can{L:Vec→Prop}{b:Mx}{C:Nat→Option Vec}(hI:CI x L b 0 C)(hW:WlB x L b []):zMB x L C:=
 Wl.can (zHD h hc) hW (fun k=>hI.s k (by omega)) fun{k t} e=>by obtain⟨c1,c2,c3,c4⟩:=hI.c e;exact⟨hI.g e,c2,c3,c4,hI.r e⟩
theorem zRQ{L:Vec→Prop}{b:Mx}{d:Nat}{C:Nat→Option Vec}(hI:CI x L b (d+1) C)(hd:d<x.zA.length){t:Vec}(hT:V (suf x 0) t)(hg:zJ7 x L t)(hz:∀i,i<d→at0 t i=0)(h1:at0 t d=1):
  ∃r,f_O x (tN C (d+1) (x.zA.length-(d+1))) t=jq r∧Rd (V (suf x 0)) (mul (suf x 0)) (zeros (suf x 0).length) x.zA.length (fun v j=>at0 v j) L C d x.zA.length r:=by
 have h6:=h.os.1;have gK:f_H t=jq t:=by
  have:=zGZ h (k:=0) (by omega) hc hT
  rwa [fv0]at this
 obtain⟨r,r1,r2⟩:=zMA h hc (C:=C) (fun e=>hI.c e) (L:=L) (d:=d) (fun e=>hI.g e) (u:=tN C (d+1) (x.zA.length-(d+1))) (P:=zEI C (d+1) (x.zA.length-(d+1))) (x.zA.length-(d+1)) (d+1) 0 t (by omega) (by omega) rfl rfl (by omega) (by omega)
  ⟨hT,hg,hz,h1,fun i hi er=>by omega⟩
 refine⟨r,?_,r2⟩;unfold f_O;rw[gK,bs,zRP h hc (C:=C) (fun e=>hI.c e) (d+1) _ (by omega),bs];have r1':zC (zNh x (tN C (d+1) (x.zA.length-(d+1))) (zEI C (d+1) (x.zA.length-(d+1)))) (t,0)=jq r:=r1;rw[r1',bs]
theorem zMC{L:Vec→Prop}{b:Mx}(hb:b.length=x.zA.length)(hW:WlB x L b []):∃C,zVx ⟨x,b⟩=jq (tN C 0 x.zA.length)∧zMB x L C:=by
 have h6:=h.os.1;obtain⟨r,r1,C,rfl,r2⟩:=uC (body:=zO8 ⟨x,b⟩) (Q:=fun r=> ∃C,r=tN C 0 x.zA.length∧CI x L b 0 C)
  (fun s=> ∃(d:Nat)(C:Nat→Option Vec),s=(tN C d (x.zA.length-d),(d:Int)-1)∧d≤x.zA.length∧CI x L b d C) (fun s=>(s.2+1).toNat) (fun s hs=>by
   obtain⟨d,C,rfl,hd,hI⟩:=hs;unfold zO8;simp only
   cases d with
   |zero=>
    right;rw[show decide (((0:Nat):Int)-1≥0)=jt from rfl,zK];exact⟨_,rfl,C,rfl,hI⟩
   |succ d=>
    left;rw[show(((d+1:Nat):Int)-1)=(d:Int)from by omega,show decide ((d:Int)≥0)=js from jw (by omega),zJ,yO [] (by omega),bs];cases ht:b.getD d []with
    |nil=>
     obtain⟨i1,i2⟩:=hI.skip (by omega) (tF.2 ht);rw[show(!(([]:List Int)).isEmpty)=jt from rfl,zK,zH (by omega) (by omega),bs];exact⟨_,rfl,⟨d,C,by rw[i2],by omega,i1⟩,by simp only;omega⟩
    |cons t0 ts=>
     have ew:tbl b d=jq (t0::ts):=kA.2 ⟨ht,by simp⟩;obtain⟨t1,t2,t3,t4⟩:=hW.t.h ew;obtain⟨r,e1,e2⟩:=zRQ h hc hI (by omega) t2 (hW.th ew) t3 t4;obtain⟨i1,i2⟩:=hI.put (by omega) ew e2;rw[show(!((t0::ts)).isEmpty)=js from rfl,zJ,bs,e1,bs,zT (by have:=zM9 C (d+1) (x.zA.length-(d+1));simp only[Jd];omega),bs,zH (by omega) (by omega),bs];exact⟨_,rfl,⟨d,_,by rw[i2];rfl,by omega,i1⟩,by simp only;omega⟩) 1000 ([],(x.zA.length:Int)-1) (by simp only;omega) ⟨x.zA.length,fun _=>jr,by simp[tN],J7 _,CI.start hb⟩
 refine⟨C,?_,r2.can h hc hW⟩;unfold zVx;simp only
 rw[hb,zH (by omega) (by omega),bs,r1,bs]
theorem zI7{M:Mx}(hM:∀a∈M,V (suf x 0) a):WlB x (· ∈M) (J1 x.zA.length []) M:=by
 have e:tbl (J1 x.zA.length [])=fun _=>jr:=by
  funext k
  rw[tF,J2,K1];split<;>rfl
 have _:=h;have _:=hc;rw[WlB,e];exact Wl.start M hM
theorem zHq{M:Mx}(hM:∀a∈M,V (suf x 0) a)(hl:M.length≤1000):∃C,zNi x M=jq (tN C 0 x.zA.length)∧zMB x (· ∈M) C:=by have h6:=h.os.1;obtain⟨g,b,e1,e2,e3⟩:=zRO h hc (L:=(· ∈M)) (fun a ha=>hM a ha) (b:=J1 x.zA.length []) (by simp) (zI7 h hc hM) hl;obtain⟨C,c1,c2⟩:=zMC h hc e2 e3;refine⟨C,?_,c2⟩;unfold zNi zY5;rw[xJ (by omega),bs,bs,e1,bs,c1,bs]
end
end Go.Pl

namespace Go.Pl
open Go Go.Ab Go.Wk Go.Pc
theorem zU4{C:Nat→Option Vec}(k l:Nat):tN C k (l+1)=tN C k l++(match C (k+l)with
  |none=>[]
  |some t=>[t]):=by
 unfold tN;rw[List.range'_1_concat,List.filterMap_append]
 congr 1
 cases h:C (k+l)<;>simp[h]
section
variable {x:SPr} (h:Pres x) (hc:uZ (suf x 0))
 include h hc
theorem zI8{b:Mx}{d:Nat}{t y:Vec}(hd:d<x.zA.length)(ht:V (suf x 0) t)(zt:∀j,j<d→at0 t j=0)(h1:at0 t d=1)(hy:V (suf x 0) y)(hn:at0 y d≠0)(hb:b.getD d []=t):
  ∃z,zFs x t (0-at0 y d)=jq z∧V (suf x 0) z∧(∀{Y:Vec→Prop},(∀a,Y a→V (suf x 0) a)→zJ7 x Y t→zJ7 x Y z)∧(∀j,j<d→at0 z j=0)∧at0 (mul (suf x 0) y z) d=0:=by
 have F:=zHD h hc;have hr:=F.r hy hd;have ff:=(h.os.2 d hd).pos;have _:=hb;obtain⟨u,u1,u2,u3⟩:=zWJ h hc ht (e:=at0 y d) (by have:=hr.1;omega) (by have:=hr.2;omega);obtain⟨k1,k2,k3⟩:=F.killr hd ht u1 u2 zt h1 hy;exact⟨_,by rw[show(0:Int)-at0 y d= -at0 y d from by omega];exact u3,k1,fun _ g=>(Gen.i g u1 u2).pw _,k2,k3⟩
theorem zMD{b:Mx}(hb:b.length=x.zA.length)(hT:Tab (V (suf x 0)) x.zA.length (fun v d=>at0 v d) (tbl b)){y:Vec}(hy:V (suf x 0) y):∃(z:Vec)(d:Nat),zVs x b y=jq ((d:Int),z)∧
  Sf (V (suf x 0)) (mul (suf x 0)) (zeros (suf x 0).length) x.zA.length (fun v d=>at0 v d) (tbl b) y z∧d≤x.zA.length∧(∀j,j<d→at0 z j=0)∧(d<x.zA.length→at0 z d≠0∧tbl b d=jr):=by
 have h6:=h.os.1;have F:=zHD h hc;obtain⟨r,r1,r2⟩:=tU (body:=zLB x b) (Q:=fun r=>match r with
   |.inl z=>Sf (V (suf x 0)) (mul (suf x 0)) (zeros (suf x 0).length) x.zA.length (fun v d=>at0 v d) (tbl b) y z∧ ∀j,j<x.zA.length→at0 z j=0
   |.inr p=> ∃(z:Vec)(d:Nat),p=((d:Int),z)∧Sf (V (suf x 0)) (mul (suf x 0)) (zeros (suf x 0).length) x.zA.length (fun v d=>at0 v d) (tbl b) y z∧d<x.zA.length∧(∀j,j<d→at0 z j=0)∧at0 z d≠0∧tbl b d=jr)
  (fun d s=> ∃z:Vec,s=(z,(d:Int))∧Sf (V (suf x 0)) (mul (suf x 0)) (zeros (suf x 0).length) x.zA.length (fun v d=>at0 v d) (tbl b) y z∧ ∀j,j<d→at0 z j=0) x.zA.length (fun d s hd hs=>by
   obtain⟨z,rfl,sf,z0⟩:=hs;have hz:=sf.s;have pA:=zDW h hc hz;unfold zLB;simp only
   rw[show decide ((d:Int)<(b.length:Int))=js from jw (by omega),zJ,yO 0 (by omega),bs]
   by_cases h0:at0 z d=0
   ·left
    rw[show z.getD d 0=0 from h0,show((0:Int)==0)=js from rfl,zJ,zH (by omega) (by omega),bs,cs];refine⟨_,rfl,z,rfl,sf,fun j hj=>?_⟩
    by_cases e:j=d
    ·rw[e];exact h0
    ·exact z0 j (by omega)
   ·rw[show(z.getD d 0==0)=jt from by simpa using h0,zK,yO [] (by omega),bs]
    cases ht:b.getD d []with
    |nil=>
     right;rw[show(((([]:List Int)).length:Int)==0)=js from rfl,zJ];exact⟨_,rfl,z,d,rfl,sf,hd,z0,h0,tF.2 ht⟩
    |cons t0 ts=>
     left;have ew:tbl b d=jq (t0::ts):=kA.2 ⟨ht,by simp⟩;obtain⟨_,t2,t3,t4⟩:=hT.h ew;obtain⟨w,w1,w2,w3,w4,w5⟩:=zI8 h hc hd t2 t3 t4 hz h0 ht;obtain⟨s1,s2⟩:=Sf.right F hT hd hz z0 h0 ew w3 w2 w4 w5;have hr:=F.r hz hd;have ff:=(h.os.2 d hd).pos;rw[show((((t0::ts):List Int).length:Int)==0)=jt from by simp;omega,zK,bs,bs];rw[show z.getD d 0=at0 z d from rfl,zH (by have:=hr.2;omega) (by have:=hr.1;omega),bs,w1,bs,zCU h hc hz w2,bs,zH (by omega) (by omega),bs,cs];exact⟨_,rfl,_,rfl,sf.trans s1,s2⟩) (fun s hs=>by
   obtain⟨z,rfl,sf,z0⟩:=hs;unfold zLB;simp only
   rw[show decide ((x.zA.length:Int)<(b.length:Int))=jt from ju (by omega),zK];exact⟨_,rfl,sf,z0⟩) (s:=(y,0)) ⟨y,rfl,Sf.refl hy,fun j hj=>by omega⟩
 unfold zVs;rw[uS (by rw[zDW h hc hy];omega),bs,r1,bs];cases r with
 |inl z=>exact⟨z,x.zA.length,by simp only[hb],r2.1,J7 _,r2.2,fun hh=>absurd hh (Jbm _)⟩
 |inr p=>
  obtain⟨z,d,rfl,p1,p2,p3,p4,p5⟩:=r2;exact⟨z,d,rfl,p1,by omega,p3,fun _=>⟨p4,p5⟩⟩
theorem zME{b:Mx}(hb:b.length=x.zA.length)(hT:Tab (V (suf x 0)) x.zA.length (fun v d=>at0 v d) (tbl b)){y:Vec}(hy:V (suf x 0) y){d:Nat}(hd:d<x.zA.length)(hn:tbl b d=jr){s:Mx×Mx}(hs:s.1=b){g:Int×List Int}(hg:g.1=(d:Int)){Q:Mx}(hQ:Q.length≤100000):
  ∃W:Mx,zC (zPR x s g y) (Q,0)=jq (Q++W)∧W.length≤x.zA.length∧(∀w∈W,V (suf x 0) w∧ ∃k u,tbl b k=jq u∧mul (suf x 0) (mul (suf x 0) u y) w=mul (suf x 0) y u)∧
   ∀k u,tbl b k=jq u→ ∃w,w∈W∧mul (suf x 0) (mul (suf x 0) u y) w=mul (suf x 0) y u:=by
 have h6:=h.os.1;obtain⟨r,r1,W,rfl,r2,r3,r4⟩:=tU (body:=zPR x s g y)
  (Q:=fun r=> ∃W:Mx,r=Q++W∧W.length≤x.zA.length∧(∀w∈W,V (suf x 0) w∧ ∃k u,tbl b k=jq u∧mul (suf x 0) (mul (suf x 0) u y) w=mul (suf x 0) y u)∧
   ∀k u,tbl b k=jq u→ ∃w,w∈W∧mul (suf x 0) (mul (suf x 0) u y) w=mul (suf x 0) y u)
  (fun i s=> ∃W:Mx,s=(Q++W,(i:Int))∧W.length≤i∧(∀w∈W,V (suf x 0) w∧ ∃k u,tbl b k=jq u∧mul (suf x 0) (mul (suf x 0) u y) w=mul (suf x 0) y u)∧
   ∀k u,k<i→tbl b k=jq u→ ∃w,w∈W∧mul (suf x 0) (mul (suf x 0) u y) w=mul (suf x 0) y u) x.zA.length (fun i s' hi gG=>by
   obtain⟨W,rfl,w1,w2,w3⟩:=gG;left;unfold zPR;simp only[hs,hg];rw[xH hi,zJ]
   by_cases e:i=d
   ·subst e
    rw[show(((i:Nat):Int) != (i:Int))=jt from by simp,zK,zH (by omega) (by omega),bs,cs];refine⟨_,rfl,W,rfl,by omega,w2,fun k u hk hu=>?_⟩
    by_cases e:k=i
    ·subst e;rw[hn]at hu;cases hu
    ·exact w3 k u (by omega) hu
   ·rw[show(((i:Nat):Int) != (d:Int))=js from by simp;omega,zJ,show((d:Nat):Int).toNat=d from rfl,yO [] (by rw[Kn];omega),bs]
    rw[show(b.set d y).getD i []=b.getD i []from by rw[J2,Jaj (fun g=>e g.symm),←J2]];cases ht:b.getD i []with
    |nil=>
     rw[show decide (((([]:List Int)).length:Int)> 0)=jt from rfl,zK,zH (by omega) (by omega),bs,cs];refine⟨_,rfl,W,rfl,by omega,w2,fun k u hk hu=>?_⟩
     by_cases e:k=i
     ·subst e
      rw[tF.2 ht]at hu;cases hu
     ·exact w3 k u (by omega) hu
    |cons t0 ts=>
     have ew:tbl b i=jq (t0::ts):=kA.2 ⟨ht,by simp⟩;obtain⟨_,t2,_,_⟩:=hT.h ew;obtain⟨w,v1,v2,v3⟩:=zYg h hc hy t2;rw[show decide ((((t0::ts):List Int).length:Int)> 0)=js from jw (by simp only[Jx];omega),zJ,v3,bs,zT (by simp only[J8,Jd];omega),bs,zH (by omega) (by omega),bs,cs];refine⟨_,rfl,W++[w],by rw[Ji],by simp only[J8,Jd];omega,fun a ha=>?_,fun k u hk hu=>?_⟩
     ·rcases K4.1 ha with ha|ha
      ·exact w2 a ha
      ·simp at ha;subst ha
       exact⟨v1,i,_,ew,v2⟩
     ·by_cases e:k=i
      ·subst e
       rw[ew]at hu;cases hu;exact⟨w,by simp,v2⟩
      ·obtain⟨a,a1,a2⟩:=w3 k u (by omega) hu
       exact⟨a,by simp[a1],a2⟩) (fun s' gG=>by
   obtain⟨W,rfl,w1,w2,w3⟩:=gG;unfold zPR;simp only
   rw[wW,zK];exact⟨_,rfl,W,rfl,w1,w2,fun k u hu=>w3 k u (hT.h hu).1 hu⟩) (s:=(Q,0)) ⟨[],by simp,J7 _,by simp,fun k u hk=>by omega⟩
 exact⟨W,r1,r2,r3,r4⟩
theorem zMF{L:Vec→Prop}(hL:∀a,L a→V (suf x 0) a){b:Mx}(hb:b.length=x.zA.length){q:Vec}{Q:Mx}(hW:WlB x L b (Q++[q]))(hQ:Q.length≤10000):
  ∃(b':Mx)(Q':Mx),zPS x (b,Q++[q])=jq (.inl (b',Q'))∧b'.length=x.zA.length∧WlB x L b' Q'∧
   (b'=b∧Q'=Q∨zBf b'+1=zBf b∧Q'.length≤Q.length+x.zA.length+2):=by
 have h6:=h.os.1;have F:=zHD h hc;have G:=g0 h hc;have hq:=hW.q q (by simp);obtain⟨z,d,s1,sf,s3,s4,s5⟩:=zMD h hc hb hW.t hq.1;have hz:=sf.s;have pA:=zDW h hc hz;unfold zPS;simp only
 have gv:((Q++[q]).length:Int)=(Q.length:Int)+1:=by simp
 rw[show decide (((Q++[q]).length:Int)> 0)=js from jw (by omega),zJ,gv,show(Q.length:Int)+1-1=(Q.length:Int)from by omega,zH (by omega) (by omega),bs];rw[show ixO (Q++[q]) (Q.length:Int)=jq q from by rw[tL,Je (J7 _),L8];rfl,bs];rw[show zQ (Q++[q]) 0 (Q.length:Int)=jq Q from by unfold zQ;rw[if_pos ⟨by omega,by omega,by omega⟩];simp,bs,s1,bs]
 dsimp only
 by_cases hd:d<x.zA.length
 ·obtain⟨n1,n2⟩:=s5 hd
  have ff:=h.os.2 d hd;have hp7:=ff.pos;have hr:=F.r hz hd;obtain⟨v,v1,v2,v3,v4⟩:=zKX ff (x:=at0 z d) (by have:=hr.1;omega) (by have:=hr.2;omega);have cw:V (suf x 0) (pw (mul (suf x 0)) (zeros (suf x 0).length) z v.toNat):=vW G.toMon hz _;obtain⟨y,cv⟩:∃y,y=pw (mul (suf x 0)) (zeros (suf x 0).length) z v.toNat:=⟨_,rfl⟩;rw[←cv]at cw;have mD:=F.pwc hd hz s4 v.toNat;rw[←cv]at mD;have fc:at0 y d=1:=by have:=mD.2;rw[this,show((v.toNat:Nat):Int)=v from by omega,Lp];exact v4
  have tp:V (suf x 0) (pw (mul (suf x 0)) (zeros (suf x 0).length) y (at0 x.zA d).toNat):=vW G.toMon cw _;have fS:y≠[]:=zHn (d:=d) (by rw[fc];decide);rw[show(((d:Nat):Int)==(x.zA.length:Int))=jt from by simp;omega,zK,yO 0 (by omega),bs,yO 0 hd,bs];rw[show z.getD d 0=at0 z d from rfl,show x.zA.getD d 0=at0 x.zA d from rfl,v1,bs,zOi h hc hz v2 (by omega),bs,←cv,yO [] (by omega),bs,zT (by simp only[Jd];omega),bs];rw[zOi h hc cw (by omega) (by omega),bs,zT (by simp only[J8,Jd];omega),bs];obtain⟨W,W1,W2,W3,W4⟩:=zME h hc hb hW.t cw hd n2 (s:=(b,Q++[q])) rfl (g:=((d:Int),z)) rfl (Q:=Q++[z]++[pw (mul (suf x 0)) (zeros (suf x 0).length) y (at0 x.zA d).toNat]) (by simp only[J8,Jd];omega);rw[W1,bs];refine⟨_,_,rfl,by rw[Kn];exact hb,?_,.inr ⟨zHm b d y (by omega) (tF.1 n2) fS,by simp only[J8,Jd];omega⟩⟩;rw[show((d:Nat):Int).toNat=d from rfl];have gm:=zJ5 (b:=b) (d:=d) (y:=y) (by omega) fS;have tm:zJ7 x L z:=sf.h L hL hW.th hq.2;have cx:zJ7 x L y:=by rw[cv];exact tm.pw _
  rw[WlB,gm];refine Wl.add F hW hd n2 cw cx mD.1 fc (x:=q) (fun k hk=>?_) (fun a ha=>?_) (fun a ha=>?_) (by simp) (fun k u hu=>?_)
  ·have jj:∀k t,tbl b k=jq t→(fun j=>if j=d then jq y else tbl b j) k=jq t:=fun k t hk=>by
    show(if k=d then jq y else tbl b k)=jq t;rw[if_neg]
    ·exact hk
    ·intro e;rw[e,n2]at hk;cases hk
   have jm:∀a∈Q++[z]++[pw (mul (suf x 0)) (zeros (suf x 0).length) y (at0 x.zA d).toNat]++W,V (suf x 0) a:=fun a ha=>by
    simp only[K4,List.mem_singleton]at ha;rcases ha with((ha|rfl)|rfl)|ha
    ·exact(hW.q a (by simp[ha])).1
    ·exact hz
    ·exact tp
    ·exact(W3 a ha).1
   have:=sf.g k (Q++[z]++[pw (mul (suf x 0)) (zeros (suf x 0).length) y (at0 x.zA d).toNat]++W) jm hk (.x (.inr ⟨by simp,fun j hj fQ=>sf.d k hk j hj fQ⟩));exact this.tr jj fun a ha k hk=>.x (.inr ⟨ha,hk⟩)
  ·simp only[K4,List.mem_singleton]at ha
   rcases ha with((ha|rfl)|rfl)|ha
   ·exact hW.q a (by simp[ha])
   ·exact⟨hz,tm⟩
   ·exact⟨tp,cx.pw _⟩
   ·obtain⟨a1,k,u,a2,a3⟩:=W3 a ha
    refine⟨a1,Gen.right G hL (.m (hW.th a2) cx) a1 ?_⟩;rw[a3];exact .m cx (hW.th a2)
  ·simp only[K4,List.mem_singleton]at ha
   rcases ha with ha|rfl
   ·exact .inr (by simp[ha])
   ·exact .inl rfl
  ·obtain⟨w,w1,w2⟩:=W4 k u hu
   exact⟨w,by simp[w1],.inl w2⟩
 ·rw[show(((d:Nat):Int)==(x.zA.length:Int))=js from by simp;omega,zJ]
  refine⟨b,Q,rfl,hb,?_,.inl ⟨rfl,rfl⟩⟩;have dD:z=zeros (suf x 0).length:=F.ex hz G.ein fun j hj=>by have e0:=F.e0 hj;rw[e0,s4 j (by omega)]
  refine Wl.drop hW (x:=q) (fun k hk=>?_) (fun a ha=>by simp[ha]) (fun a ha=>by simp at ha;rcases ha with ha|ha;exact .inr ha;exact .inl ha);exact sf.g k Q (fun a ha=>(hW.q a (by simp[ha])).1) hk (by rw[dD];exact .one)
end
end Go.Pl

namespace Go.Pl
open Go Go.Ab Go.Wk Go.Pc
section
variable {x:SPr} (h:Pres x) (hc:uZ (suf x 0))
 include h hc
theorem zMG{L:Vec→Prop}{b D:Mx}{d:Nat}(hb:b.length=x.zA.length)(hD:D.length=x.zA.length)(hI:CI x L b (d+1) (tbl D))(hd:d<x.zA.length){s:Mx×Int}(hs:s.1=D){t:Vec}(hT:V (suf x 0) t)(hg:zJ7 x L t)(hz:∀i,i<d→at0 t i=0)(h1:at0 t d=1)(hL:∀a,L a→V (suf x 0) a):
  ∃r,zC (zSH x b s) (t,((d+1:Nat):Int))=jq r∧Rd (V (suf x 0)) (mul (suf x 0)) (zeros (suf x 0).length) x.zA.length (fun v j=>at0 v j) L (tbl D) d x.zA.length r:=by
 have h6:=h.os.1;have F:=zHD h hc;have _:=hL;obtain⟨r,r1,r2⟩:=uC (body:=zSH x b s) (Q:=fun r=>Rd (V (suf x 0)) (mul (suf x 0)) (zeros (suf x 0).length) x.zA.length (fun v j=>at0 v j) L (tbl D) d x.zA.length r)
  (fun st=> ∃(k:Nat)(y:Vec),st=(y,(k:Int))∧d<k∧k≤x.zA.length∧Rd (V (suf x 0)) (mul (suf x 0)) (zeros (suf x 0).length) x.zA.length (fun v j=>at0 v j) L (tbl D) d k y) (fun st=>x.zA.length-st.2.toNat) (fun st gH=>by
   obtain⟨k,y,rfl,k1,k2,hR⟩:=gH;have hy:=hR.s;unfold zSH;simp only[hs]
   by_cases hk:k<x.zA.length
   ·left
    rw[show decide ((k:Int)<(b.length:Int))=js from jw (by omega),zJ,yO [] (by omega),bs];cases ht:D.getD k []with
    |nil=>
     rw[show decide (((([]:List Int)).length:Int)> 0)=jt from rfl,zK,zH (by omega) (by omega),bs,cs];exact⟨_,rfl,⟨k+1,y,rfl,by omega,by omega,hR.skip (.inl (tF.2 ht))⟩,by simp only[J9];omega⟩
    |cons t0 ts=>
     have ew:tbl D k=jq (t0::ts):=kA.2 ⟨ht,by simp⟩;obtain⟨_,t2,t3,t4⟩:=hI.c ew;rw[show decide ((((t0::ts):List Int).length:Int)> 0)=js from jw (by simp only[Jx];omega),zJ,yO 0 (by rw[zDW h hc hy];exact hk),bs]
     by_cases h0:at0 y k=0
     ·rw[show(y.getD k 0 != 0)=jt from by simpa using h0,zK,zH (by omega) (by omega),bs,cs]
      exact⟨_,rfl,⟨k+1,y,rfl,by omega,by omega,hR.skip (.inr h0)⟩,by simp only[J9];omega⟩
     ·obtain⟨w,w1,w2,w3,w4,w5⟩:=zI8 h hc hk t2 t3 t4 hy h0 ht
      have hr:=F.r hy hk;have ff:=(h.os.2 k hk).pos;have hw:zJ7 x L w:=w3 hL (hI.g ew);rw[show(y.getD k 0 != 0)=js from by simpa using h0,zJ,bs,bs,show y.getD k 0=at0 y k from rfl,zH (by have:=hr.2;omega) (by have:=hr.1;omega),bs,w1,bs,zCU h hc hy w2,bs,zH (by omega) (by omega),bs,cs];exact⟨_,rfl,⟨k+1,_,rfl,by omega,by omega,hR.step F k1 hk w2 hw w4 w5⟩,by simp only[J9];omega⟩
   ·right
    have e:k=x.zA.length:=by omega
    subst e;rw[show decide ((x.zA.length:Int)<(b.length:Int))=jt from ju (by omega),zK];exact⟨_,rfl,hR⟩) 1000 (t,((d+1:Nat):Int)) (by simp only;omega) ⟨d+1,t,rfl,by omega,by omega,hT,hg,hz,h1,fun i hi er=>by omega⟩
 exact⟨r,r1,r2⟩
theorem zRR{D:Mx}(hD:D.length=x.zA.length):zC (zPQ D) ([],0)=jq (tN (tbl D) 0 x.zA.length):=by
 have h6:=h.os.1;have _:=hc;have:=zU (body:=zPQ D) (r:=tN (tbl D) 0 x.zA.length) (fun i=>(tN (tbl D) 0 i,(i:Int))) x.zA.length (fun i hi=>by
  have hl:=zM9 (tbl D) 0 i;unfold zPQ;simp only
  rw[show decide ((i:Int)<(D.length:Int))=js from jw (by omega),zJ,yO [] (by omega),bs,zU4,Jc];cases ht:D.getD i []with
  |nil=>
   rw[show decide (((([]:List Int)).length:Int)> 0)=jt from rfl,zK,zH (by omega) (by omega),bs,cs,tF.2 ht];simp
  |cons t0 ts=>
   rw[show decide ((((t0::ts):List Int).length:Int)> 0)=js from jw (by simp only[Jx];omega),zJ,bs,zT (by simp only[Jd];omega),bs,zH (by omega) (by omega),bs,cs,(kA (t:=t0::ts)).2 ⟨ht,by simp⟩]) (by
  unfold zPQ;simp only
  rw[show decide ((x.zA.length:Int)<(D.length:Int))=jt from ju (by omega),zK])
 exact this
theorem zPu{L:Vec→Prop}(hL:∀a,L a→V (suf x 0) a){b:Mx}(hb:b.length=x.zA.length)(hW:WlB x L b []):∃C,f_E x b=jq (tN C 0 x.zA.length)∧zMB x L C:=by
 have h6:=h.os.1;have e0:tbl (J1 x.zA.length [])=fun _=>jr:=by
  funext k
  rw[tF,J2,K1];split<;>rfl
 obtain⟨D,r1,r2,r3⟩:=uC (body:=zVu x b) (Q:=fun D=>D.length=x.zA.length∧CI x L b 0 (tbl D))
  (fun s=> ∃(d:Nat)(D:Mx),s=(D,(d:Int)-1)∧d≤x.zA.length∧D.length=x.zA.length∧CI x L b d (tbl D)) (fun s=>(s.2+1).toNat) (fun s hs=>by
   obtain⟨d,D,rfl,hd,hD,hI⟩:=hs;unfold zVu;simp only
   cases d with
   |zero=>
    right;rw[show decide (((0:Nat):Int)-1≥0)=jt from rfl,zK];exact⟨_,rfl,hD,hI⟩
   |succ d=>
    left;rw[show(((d+1:Nat):Int)-1)=(d:Int)from by omega,show decide ((d:Int)≥0)=js from jw (by omega),zJ,yO [] (by omega),bs];cases ht:b.getD d []with
    |nil=>
     obtain⟨i1,_⟩:=hI.skip (by omega) (tF.2 ht);rw[show(((([]:List Int)).length:Int)==0)=js from rfl,zJ,zH (by omega) (by omega),bs];exact⟨_,rfl,⟨d,D,rfl,by omega,hD,i1⟩,by simp only;omega⟩
    |cons t0 ts=>
     have ew:tbl b d=jq (t0::ts):=kA.2 ⟨ht,by simp⟩;obtain⟨t1,t2,t3,t4⟩:=hW.t.h ew;obtain⟨r,e1,e2⟩:=zMG h hc hb hD hI (by omega) (s:=(D,(d:Int))) rfl t2 (hW.th ew) t3 t4 hL;obtain⟨i1,_⟩:=hI.put (by omega) ew e2;have uu:r≠[]:=zHn (d:=d) (by have:=e2.o;rw[this];decide);rw[show((((t0::ts):List Int).length:Int)==0)=jt from by simp;omega,zK,bs,zH (by omega) (by omega),bs,cs,e1,bs,yO [] (by omega),bs,zH (by omega) (by omega),bs,show((d:Nat):Int).toNat=d from rfl];refine⟨_,rfl,⟨d,_,rfl,by omega,by rw[Kn];exact hD,?_⟩,by simp only;omega⟩;rw[zJ5 (by omega) uu];exact i1) 1000 (J1 x.zA.length [],(x.zA.length:Int)-1) (by simp only;omega) ⟨x.zA.length,_,rfl,J7 _,by simp,by rw[e0];exact CI.start hb⟩
 refine⟨tbl D,?_,r3.can h hc hW⟩;unfold f_E;rw[hb,xJ (by omega),bs,zH (by omega) (by omega),bs,r1,bs,zRR h hc r2,bs]
theorem zMH{M:Mx}(hM:∀a∈M,V (suf x 0) a)(hl:M.length≤1000):∃C,f_I x M=jq (tN C 0 x.zA.length)∧zMB x (· ∈M) C:=by
 have h6:=h.os.1;obtain⟨b,r1,r2,r3⟩:=uC (body:=zPS x) (Q:=fun b=>b.length=x.zA.length∧WlB x (· ∈M) b [])
  (fun s=> ∃(b Q:Mx),s=(b,Q)∧b.length=x.zA.length∧WlB x (· ∈M) b Q∧zBf b*20+Q.length≤2000) (fun s=>zBf s.1*20+s.2.length) (fun s hs=>by
   obtain⟨b,Q,rfl,hb,hW,hm⟩:=hs;rcases List.eq_nil_or_concat Q with rfl|⟨Q,q,rfl⟩
   ·right
    unfold zPS;simp only
    rw[show decide ((([]:Mx).length:Int)> 0)=jt from rfl,zK];exact⟨_,rfl,hb,hW⟩
   ·left
    rw[List.concat_eq_append]at hW hm ⊢
    simp only[J8,Jd]at hm;obtain⟨b',Q',e1,e2,e3,e4⟩:=zMF h hc (L:=(· ∈M)) (fun a ha=>hM a ha) hb hW (by omega);refine⟨_,e1,⟨b',Q',rfl,e2,e3,?_⟩,?_⟩
    ·rcases e4 with⟨rfl,rfl⟩|⟨e4,e5⟩<;>omega
    ·simp only[J8,Jd]
     rcases e4 with⟨rfl,rfl⟩|⟨e4,e5⟩<;>omega) 100000 (J1 x.zA.length [],M) (by have:=zDu (J1 x.zA.length []);simp only[Jl]at this ⊢;omega) ⟨_,M,rfl,by simp,zI7 h hc hM,by have:=zDu (J1 x.zA.length []);simp only[Jl]at this;omega⟩
 obtain⟨C,c1,c2⟩:=zPu h hc (L:=(· ∈M)) (fun a ha=>hM a ha) r2 r3;refine⟨C,?_,c2⟩;unfold f_I;rw[xJ (by omega),bs,zPi (by omega) (fun i hi=>by have:=hM (M.getD i []) (by rw[J2,J4 hi];exact Jt hi);rw[zDW h hc this];omega),bs,r1,bs,c1,bs]
theorem zHr{M:Mx}(hM:∀a∈M,V (suf x 0) a)(hl:M.length≤1000):∃C,f_I x M=jq (tN C 0 x.zA.length)∧zNi x M=jq (tN C 0 x.zA.length)∧zMB x (· ∈M) C:=by obtain⟨C,c1,c2⟩:=zMH h hc hM hl;obtain⟨D,d1,d2⟩:=zHq h hc hM hl;have e:=Pc.Can.uniq (zHD h hc) (fun ha hb=>Gen.m ha hb) (fun ha hb fI=>Gen.i ha hb fI) c2 d2;exact⟨C,c1,by rw[d1,zHo _ _ fun j _=>(e j).symm],c2⟩
end
end Go.Pl

namespace Go.Pl
open Go Go.Ab Go.Wk Go.Pc
end Go.Pl

namespace Go.Pl
open Go Go.Ab Go.Wk Go.Pc
end Go.Pl

namespace Go.Pl
open Go Go.Ab Go.Wk Go.Pc
end Go.Pl

namespace Go.Pl
open Go Go.Ab Go.Wk Go.Pc
section
variable {x:SPr} (h:Pres x) (hc:uZ (suf x 0))
 include h hc
theorem yA5{a b:Vec}(ha:V (suf x 0) a)(hb:V (suf x 0) b):∃c,V (suf x 0) c∧mul (suf x 0) b c=mul (suf x 0) a b∧zMU x a b=jq c∧zSJ x a b=jq c:=by have ok:=ok0 h hc;have G:=g0 h hc;obtain⟨c,c1,c2,c3⟩:=zCK h (k:=0) (by omega) hc ha hb;simp only[fv0]at c3;obtain⟨w,w1,w2,w3⟩:=zED h hc hb;have fI:=wY ok ha hb;refine⟨c,c1,c2,c3,?_⟩;have e:mul (suf x 0) w (mul (suf x 0) a b)=c:=G.cancel_l hb (wY ok w1 fI) c1 (by rw[←G.assoc hb w1 fI,w2,G.onel fI,c2]);unfold zSJ;rw[w3,bs,zCU h hc ha hb,bs,zCU h hc w1 fI,bs,e]
end
end Go.Pl

namespace Go.Pl
open Go Go.Ab Go.Wk Go.Pc
end Go.Pl

namespace Go.Pl
open Go Go.Ab Go.Wk Go.Pc
end Go.Pl

namespace Go.Pl
open Go Go.Ab Go.Wk Go.Pc
end Go.Pl

namespace Go.Pl
open Go Go.Ab Go.Wk Go.Pc
end Go.Pl

namespace Go.Pl
open Go Go.Ab Go.Wk Go.Pc
end Go.Pl

namespace Go.Pl
open Go Go.Ab Go.Wk Go.Pc
end Go.Pl

namespace Go.Pl
open Go Go.Ab Go.Wk Go.Pc
end Go.Pl

namespace Go.Pl
open Go Go.Ab Go.Wk Go.Pc
end Go.Pl

namespace Go.Pl
open Go Go.Ab Go.Wk Go.Pc
end Go.Pl

namespace Go.Pl
open Go Go.Ab Go.Wk Go.Pc
variable {x:SPr}{w:Pres x∧uZ (suf x 0)}
end Go.Pl

namespace Go.Pl
open Go Go.Ab Go.Wk Go.Pc
variable {x:SPr}{w:Pres x∧uZ (suf x 0)}
end Go.Pl

namespace Go.Pl
open Go Go.Ab Go.Wk Go.Pc
end Go.Pl

namespace Go.Pl
open Go Go.Ab Go.Wk Go.Pc
end Go.Pl

namespace Go.Pl
open Go Go.Ab Go.Wk Go.Pc
end Go.Pl

namespace Go.Pl
open Go Go.Ab Go.Wk Go.Pc
end Go.Pl

namespace Go.Pl
open Go Go.Ab Go.Wk Go.Pc
end Go.Pl

namespace Go.Pl
open Go Go.Ab Go.Wk Go.Pc
end Go.Pl

namespace Go.Pl
open Go Go.Ab Go.Wk Go.Pc
end Go.Pl

namespace Go.Pl
open Go Go.Ab Go.Wk Go.Pc
end Go.Pl

namespace Go.Pl
open Go Go.Ab
def Le{α:Type}(a b:Option α):Prop:=∀r,a=jq r→b=jq r
class LeC {α:Type} (a b:Option α):Prop where
 h:Le a b
theorem Le.rf{α:Type}{a:Option α}:Le a a:=fun _ h=>h
theorem Le.bd{α β:Type}{a b:Option α}{f g:α→Option β}(h:Le a b)(k:∀x,Le (f x) (g x)):Le (a.bind f) (b.bind g):=by
 intro r hr;cases ha:a with
 |none=>rw[ha]at hr;cases hr
 |some x=>rw[ha]at hr;rw[h x ha];exact k x r hr
theorem Le.cd{α:Type}{c:Bool}{a b a' b':Option α}(h:Le a b)(k:Le a' b'):Le (cond c a a') (cond c b b'):=by
 cases c
 ·exact k
 ·exact h
theorem Le.lp{σ ρ:Type}{e f:σ→Option (σ⊕ρ)}{n:Nat}{s:σ}(h:∀s,Le (e s) (f s)):Le (xP e n s) (zC f s):=by
 intro r hr;rw[zBW];refine⟨n,?_⟩
 induction n generalizing s with
 |zero=>cases hr
 |succ n ih=>
  simp only[xP]at hr ⊢
  cases he:e s with
  |none=>rw[he]at hr;cases hr
  |some x=>
   rw[he]at hr;rw[h s x he];cases x with
   |inl s'=>exact ih hr
   |inr r'=>exact hr
theorem leS{α:Type}{a b:Option α}(h:Le a b:=by
 repeat' first
  |with_reducible exact Le.rf
  |exact LeC.h
  |with_reducible refine Le.bd ?_ fun _=>?_
  |with_reducible refine Le.cd ?_ ?_
  |with_reducible refine Le.lp fun _=>?_
  |(rename_i x;cases x using Sum.casesOn<;>dsimp only)
  |fail):Le a b:=h
theorem Le.fu{α:Type}{g:Nat→Option α}{n:Nat}(h:∀n,Le (g n) (g (n+1))):Le (g n) (zD7 g):=fun r hr=>
 zCA n fun m hm=>by
  induction m with
  |zero=>rw[show 0=n from by omega];exact hr
  |succ m ih=>
   rcases Lr hm with e|e
   ·rw[←e];exact hr
   ·exact h m r (ih (by omega))
end Go.Pl

namespace Go.Wk
open Go Go.Ab Go.Pl
noncomputable def tO (x0:List Int):Option Int:=
 (xP (zP9 x0) 400 (1,0)).bind fun r5=>
 jq r5
noncomputable def uT (x0:List Int) (x1:List Int) (x2:Int):Option Bool:=
 cond ((x1.length:Int) != (x0.length:Int)) (
  jq jt) (
  (xP (zLw x0 x1 x2) 400 0).bind fun r6=>
  match r6 with
  |(.inl _)=>
   jq js
  |(.inr r6)=>
   jq r6)
noncomputable def tG (x0:SPr) (s7:Int) (s8:Int):Option (Int⊕(Unit⊕Bool)):=
 (ixO x0.zD s7).bind fun v11=>
 cond (decide (s8<(v11.length:Int))) (
  (ixO x0.zD s7).bind fun v12=>
  (ixO v12 s8).bind fun v13=>
  (uT x0.zA v13 s7).bind fun r14=>
  cond (!r14) (
   jq (.inr (.inr jt))) (
   (rng (s8+1)).bind fun v15=>
   jq (.inl v15))) (
  jq (.inr (.inl ())))
noncomputable def tH (x0:SPr) (s7:Int):Option (Int⊕(Unit⊕Bool)):=
 cond (decide (s7<(x0.zA.length:Int))) (
  (ixO x0.yB s7).bind fun v6=>
  (uT x0.zA v6 s7).bind fun r7=>
  cond (!r7) (
   jq (.inr (.inr jt))) (
   (ixO x0.zD s7).bind fun v8=>
   (rng ((x0.zA.length:Int)-1)).bind fun v9=>
   (rng (v9-s7)).bind fun v10=>
   cond ((v8.length:Int) != v10) (
    jq (.inr (.inr jt))) (
    (xP (tG x0 s7) 400 0).bind fun r16=>
    match r16 with
    |(.inl _)=>
     (rng (s7+1)).bind fun v17=>
     jq (.inl v17)
    |(.inr r16)=>
     jq (.inr (.inr r16))))) (
  jq (.inr (.inl ())))
noncomputable def tP (x0:SPr):Option Bool:=
 cond (decide ((x0.zA.length:Int)> 6)) (
  jq jt) (
  cond ((x0.yB.length:Int) != (x0.zA.length:Int)) (
   jq jt) (
   cond ((x0.zD.length:Int) != (x0.zA.length:Int)) (
    jq jt) (
    (xP (zPA x0) 400 0).bind fun r4=>
    match r4 with
    |(.inl _)=>
     (tO x0.zA).bind fun r5=>
     cond (decide (r5> 729)) (
      jq jt) (
      (xP (tH x0) 400 0).bind fun r18=>
      match r18 with
      |(.inl _)=>
       jq js
      |(.inr r18)=>
       jq r18)
    |(.inr r4)=>
     jq r4)))
noncomputable def zAA (x0:List Int) (x1:List Int):Option Bool:=
 cond ((x0.length:Int) != (x1.length:Int)) (
  jq jt) (
  (xP (zSw x0 x1) 400 0).bind fun r4=>
  match r4 with
  |(.inl _)=>
   jq js
  |(.inr r4)=>
   jq r4)
noncomputable def kD (x0:Int) (x1:List Int) (x2:List (List Int)) (s5:(List Int)×Int):Option (((List Int)×Int)⊕(List Int)):=
 cond (decide (s5.2<(x1.length:Int))) (
  cond (decide (s5.2<(x2.length:Int))) (
   (xP (zSx x0 x1 x2 s5) 400 (s5.1,0)).bind fun r12=>
   (rng (s5.2+1)).bind fun v13=>
   jq (.inl (r12,v13))) (
   jq (.inr s5.1))) (
  jq (.inr s5.1))
noncomputable def kX (x0:Int) (x1:List Int) (x2:List (List Int)) (x3:Int):Option (List Int):=
 (yH x3).bind fun m1=>
 (xP (kD x0 x1 x2) 400 (J1 m1 (0:Int),0)).bind fun r14=>
 jq r14
noncomputable def qI (x0:Int) (x1:List (List Int)) (x2:List (List Int)) (x3:Int) (s1:(List (List Int))×Int):Option (((List (List Int))×Int)⊕(List (List Int))):=
 cond (decide (s1.2<(x1.length:Int))) (
  (ixO x1 s1.2).bind fun v1=>
  (kX x0 v1 x2 x3).bind fun r2=>
  (yC s1.1 [r2]).bind fun v3=>
  (rng (s1.2+1)).bind fun v4=>
  jq (.inl (v3,v4))) (
  jq (.inr s1.1))
noncomputable def qZ (x0:Int) (x1:List (List Int)) (x2:List (List Int)) (x3:Int):Option (List (List Int)):=
 (xP (qI x0 x1 x2 x3) 400 ([],0)).bind fun r5=>
 jq r5
noncomputable def zAB (x0:List Int):Option Bool:=
 (xP (zSG x0) 400 0).bind fun r3=>
 match r3 with
 |(.inl _)=>
  jq js
 |(.inr r3)=>
  jq r3
noncomputable def tR (x0:List (List Int)):Option (List (List Int)):=
 (xP (zPL x0) 400 ([],0)).bind fun r5=>
 jq r5
noncomputable def qJ (x0:List Int) (s5:(List (List Int))×(List (List (List Int)))×Int):Option (((List (List Int))×(List (List (List Int)))×Int)⊕((List (List Int))×(List (List (List Int))))):=
 cond (decide (s5.2.2<(x0.length:Int))) (
  (yH (x0.length:Int)).bind fun m2=>
  (yC s5.1 [J1 m2 (0:Int)]).bind fun v3=>
  (rng (s5.2.2+1)).bind fun v4=>
  (xP (zPW x0) 400 ([],v4)).bind fun r8=>
  (yC s5.2.1 [r8]).bind fun v9=>
  (rng (s5.2.2+1)).bind fun v10=>
  jq (.inl (v3,v9,v10))) (
  jq (.inr (s5.1,s5.2.1)))
noncomputable def wZ (x0:List Int):Option SPr:=
 (f_v x0).bind fun r1=>
 (xP (qJ x0) 400 ([],[],0)).bind fun r11=>
 jq (SPr.mk r1 r11.1 r11.2)
noncomputable def qK (s5:Int×(List Int)×Int):Option ((Int×(List Int)×Int)⊕(Int×(List Int))):=
 cond (decide (s5.2.2≤7)) (
  (xP (zY6 s5) 400 (s5.1,s5.2.1)).bind fun r5=>
  (rng (s5.2.2+1)).bind fun v6=>
  jq (.inl (r5.1,r5.2,v6))) (
  jq (.inr (s5.1,s5.2.1)))
noncomputable def vL (x0:Int):Option ((List Int)×Bool):=
 (xP qK 400 (x0,[],2)).bind fun r7=>
 jq (r7.2,(r7.1==1))
noncomputable def vD (x0:Int):Option (SPr×Int):=
 (zHw x0 1 729).bind fun r1=>
 cond (!r1) (
  jq ((SPr.mk [] [] []),2)) (
  (vL x0).bind fun r2=>
  cond (!r2.2) (
   jq ((SPr.mk [] [] []),2)) (
   cond (decide ((r2.1.length:Int)> 6)) (
    jq ((SPr.mk [] [] []),3)) (
    (wZ r2.1).bind fun r3=>
    (xP (zO9 r2) 400 (r3.yB,0)).bind fun r9=>
    jq ((SPr.mk r3.zA r9 r3.zD),0))))
noncomputable def uU (x0:List Int) (x1:Int) (x2:Int):Option (List Int):=
 (yH (x0.length:Int)).bind fun m1=>
 (xP (zSL x0) 400 (x2,J1 m1 (0:Int),x1)).bind fun r8=>
 jq r8
noncomputable def sV (x0:Int) (x1:Int) (x2:Int):Option Int:=
 (xN 1 x2).bind fun v1=>
 (xP (zSM x2) 400 (x0,x1,v1)).bind fun r11=>
 jq r11
noncomputable def kY (v4:List Int) (s7:(List (List (List Int)))×Int×Int) (s8:(List (List (List Int)))×Int):Option (((List (List (List Int)))×Int)⊕(List (List (List Int)))):=
 cond (decide (s8.2<(v4.length:Int))) (
  (ixO s8.1 s7.2.2).bind fun v18=>
  (rng (s8.2-s7.2.2)).bind fun v19=>
  (rng (v19-1)).bind fun v20=>
  (uU v4 s8.2 s7.2.1).bind fun r21=>
  (ixO v18 v20).bind fun _=>
  (rng (s8.2+1)).bind fun v23=>
  jq (.inl (s8.1.set s7.2.2.toNat (v18.set v20.toNat r21),v23))) (
  jq (.inr s8.1))
noncomputable def kZ (x1:Int) (r1:(List Int)×Bool) (v4:List Int) (s7:(List (List (List Int)))×Int×Int):Option (((List (List (List Int)))×Int×Int)⊕(List (List (List Int)))):=
 cond (decide (s7.2.2<(r1.1.length:Int))) (
  (xP (kY v4 s7) 400 (s7.1,(r1.1.length:Int))).bind fun r24=>
  (ixO r1.1 s7.2.2).bind fun v25=>
  (sV s7.2.1 v25 x1).bind fun r26=>
  (rng (s7.2.2+1)).bind fun v27=>
  jq (.inl (r24,r26,v27))) (
  jq (.inr s7.1))
noncomputable def zAa (v4:List Int) (s15:(List (List (List Int)))×Int×Int) (s16:(List (List (List Int)))×Int):Option (((List (List (List Int)))×Int)⊕(List (List (List Int)))):=
 cond (decide (s16.2<(v4.length:Int))) (
  (ixO s16.1 s15.2.2).bind fun v30=>
  (rng (s16.2-s15.2.2)).bind fun v31=>
  (rng (v31-1)).bind fun v32=>
  (uU v4 s16.2 s15.2.1).bind fun r33=>
  (ixO v30 v32).bind fun _=>
  (rng (s16.2+1)).bind fun v35=>
  jq (.inl (s16.1.set s15.2.2.toNat (v30.set v32.toNat r33),v35))) (
  jq (.inr s16.1))
noncomputable def zAb (x1:Int) (r1:(List Int)×Bool) (v4:List Int) (s15:(List (List (List Int)))×Int×Int):Option (((List (List (List Int)))×Int×Int)⊕(List (List (List Int)))):=
 cond (decide (s15.2.2<(r1.1.length:Int))) (
  (xP (zAa v4 s15) 400 (s15.1,(r1.1.length:Int))).bind fun r36=>
  (ixO r1.1 s15.2.2).bind fun v37=>
  (sV s15.2.1 v37 x1).bind fun r38=>
  (rng (s15.2.2+1)).bind fun v39=>
  jq (.inl (r36,r38,v39))) (
  jq (.inr s15.1))
noncomputable def wO (x0:Int) (x1:Int) (x2:Int) (x3:Int):Option SPr:=
 (vL x0).bind fun r1=>
 (vL x1).bind fun r2=>
 (f_v r1.1).bind fun r3=>
 (yC r3 r2.1).bind fun v4=>
 (wZ v4).bind fun r5=>
 (xP (zV2 r1 v4) 400 (r5.yB,0)).bind fun r13=>
 cond (decide ((r1.1.length:Int)> 0)) (
  (rng ((r1.1.length:Int)-1)).bind fun v14=>
  (uU v4 (r1.1.length:Int) x3).bind fun r15=>
  (ixO r13 v14).bind fun _=>
  (xN x2 x1).bind fun v17=>
  (xP (kZ x1 r1 v4) 400 (r5.zD,v17,0)).bind fun r28=>
  jq (SPr.mk r5.zA (r13.set v14.toNat r15) r28)) (
  (xN x2 x1).bind fun v29=>
  (xP (zAb x1 r1 v4) 400 (r5.zD,v29,0)).bind fun r40=>
  jq (SPr.mk r5.zA r13 r40))
noncomputable def jN (x0:Int) (x1:List (List Int)) (r1:(List Int)×Bool) (s13:(List (List (List Int)))×(List (List Int))×Int) (s16:(List (List Int))×Int):Option (((List (List Int))×Int)⊕(List (List Int))):=
 (ixO r1.1 s13.2.2).bind fun v23=>
 cond (decide (s16.2<v23)) (
  (qZ x0 s16.1 s13.2.1 (x1.length:Int)).bind fun r24=>
  (rng (s16.2+1)).bind fun v25=>
  jq (.inl (r24,v25))) (
  jq (.inr s16.1))
noncomputable def jO (x0:Int) (x1:List (List Int)) (r1:(List Int)×Bool) (s13:(List (List (List Int)))×(List (List Int))×Int):Option (((List (List (List Int)))×(List (List Int))×Int)⊕(List (List (List Int)))):=
 cond (decide (s13.2.2<(r1.1.length:Int))) (
  (xP (zV5 x1 r1 s13) 400 (s13.1,0)).bind fun r22=>
  (xP (jN x0 x1 r1 s13) 400 (s13.2.1,1)).bind fun r26=>
  (rng (s13.2.2+1)).bind fun v27=>
  jq (.inl (r22,r26,v27))) (
  jq (.inr s13.1))
noncomputable def wR (x0:Int) (x1:List (List Int)) (x2:Int):Option SPr:=
 (vL x2).bind fun r1=>
 (f_v r1.1).bind fun r2=>
 (xP (zY7 x0 x1) 400 (r2,0)).bind fun r5=>
 (wZ r5).bind fun r6=>
 (xP (zV4 r1 r5) 400 (r6.yB,0)).bind fun r12=>
 (tR x1).bind fun r13=>
 (xP (jO x0 x1 r1) 400 (r6.zD,r13,0)).bind fun r28=>
 jq (SPr.mk r6.zA r12 r28)
noncomputable def tI (x0:ByteArray) (x1:Int):Option (List ByteArray):=
 (xP (zST x0 x1) 400 ([],0,0)).bind fun r7=>
 (zFL x0 r7.2 (x0.size:Int)).bind fun v8=>
 (yC r7.1 [v8]).bind fun v9=>
 jq v9
noncomputable def zAc (x0:ByteArray):Option Int:=
 cond ((x0.size:Int)==0) (
  jq (-1)) (
  cond (decide ((x0.size:Int)> 6)) (
   jq (-1)) (
   cond (decide ((x0.size:Int)> 1)) (
    (zBm x0 0).bind fun v1=>
    cond (v1==48) (
     jq (-1)) (
     (xP (zSU x0) 400 (0,0)).bind fun r8=>
     match r8 with
     |(.inl r8)=>
      jq r8
     |(.inr r8)=>
      jq r8)) (
    (xP (zSV x0) 400 (0,0)).bind fun r15=>
    match r15 with
    |(.inl r15)=>
     jq r15
    |(.inr r15)=>
     jq r15)))
noncomputable def jP (r1:(List ByteArray)) (s1:(List Int)×Int):Option (((List Int)×Int)⊕((List Int)⊕((List Int)×Bool))):=
 cond (decide (s1.2<(r1.length:Int))) (
  (ixO r1 s1.2).bind fun v2=>
  (zAc v2).bind fun r3=>
  (zLv r3).bind fun r4=>
  cond (!r4) (
   jq (.inr (.inr ([],jt)))) (
   cond (decide (s1.2≥6)) (
    jq (.inr (.inr ([],jt)))) (
    (yC s1.1 [r3]).bind fun v5=>
    (rng (s1.2+1)).bind fun v6=>
    jq (.inl (v5,v6))))) (
  jq (.inr (.inl s1.1)))
noncomputable def kE (x0:ByteArray):Option ((List Int)×Bool):=
 cond (zD0 x0 (ByteArray.mk #[49])) (
  jq ([],js)) (
  (tI x0 32).bind fun r1=>
  (xP (jP r1) 400 ([],0)).bind fun r7=>
  match r7 with
  |(.inl r7)=>
   (tO r7).bind fun r8=>
   jq (r7,decide (r8≤729))
  |(.inr r7)=>
   jq r7)
noncomputable def zAd (x0:Int) (x1:ByteArray):Option ((List Int)×Bool):=
 cond (zD0 x1 (ByteArray.mk #[49])) (
  jq ([],js)) (
  (xP (zSW x0 x1) 400 ([],0)).bind fun r14=>
  match r14 with
  |(.inl r14)=>
   jq (r14,decide ((r14.length:Int)> 0))
  |(.inr r14)=>
   jq r14)
noncomputable def kF (x0:Int) (x1:List Int):Option ((List Int)×Bool):=
 (yH x0).bind fun m1=>
 (xP (zSX x1) 400 (J1 m1 (0:Int),0)).bind fun r11=>
 match r11 with
 |(.inl r11)=>
  jq (r11,js)
 |(.inr r11)=>
  jq r11
noncomputable def zAC (x0:SPr) (s1:(List (List (List Int)))×Int):Option (((List (List (List Int)))×Int)⊕(List (List (List Int)))):=
 cond (decide (s1.2<(x0.zD.length:Int))) (
  (ixO x0.zD s1.2).bind fun v3=>
  (tR v3).bind fun r4=>
  (yC s1.1 [r4]).bind fun v5=>
  (rng (s1.2+1)).bind fun v6=>
  jq (.inl (v5,v6))) (
  jq (.inr s1.1))
noncomputable def zBg (x0:SPr):Option SPr:=
 (f_v x0.zA).bind fun r1=>
 (tR x0.yB).bind fun r2=>
 (xP (zAC x0) 400 ([],0)).bind fun r7=>
 jq (SPr.mk r1 r2 r7)
noncomputable def sO (x0:Int):Option ByteArray:=zJQ 40 x0
noncomputable def qL (x0:SPr) (x1:ByteArray):Option (SPr×Bool):=
 (tI x1 61).bind fun r1=>
 cond ((r1.length:Int) != 2) (
  jq (x0,jt)) (
  (ixO r1 0).bind fun v2=>
  cond ((v2.size:Int) != 4) (
   jq (x0,jt)) (
   (ixO r1 0).bind fun v3=>
   (zBm v3 0).bind fun v4=>
   cond (v4 != 32) (
    jq (x0,jt)) (
    (ixO r1 0).bind fun v5=>
    (zBm v5 2).bind fun v6=>
    cond (v6 != 94) (
     jq (x0,jt)) (
     (ixO r1 1).bind fun v7=>
     (zAd (x0.zA.length:Int) v7).bind fun r8=>
     cond (!r8.2) (
      jq (x0,jt)) (
      (kF (x0.zA.length:Int) r8.1).bind fun r9=>
      (ixO r1 0).bind fun v10=>
      (zBm v10 1).bind fun v11=>
      (rng ((IntKind.wrap .i64 v11)-97)).bind fun v12=>
      (ixO r1 0).bind fun v13=>
      (zBm v13 3).bind fun v14=>
      (rng ((IntKind.wrap .i64 v14)-97)).bind fun v15=>
      cond (!r9.2) (
       jq (x0,jt)) (
       cond (decide (v12<0)) (
        jq (x0,jt)) (
        cond (decide (v12≥(x0.zA.length:Int))) (
         jq (x0,jt)) (
         (zBg x0).bind fun r16=>
         (ixO r1 0).bind fun v17=>
         (zFL v17 3 (v17.size:Int)).bind fun v18=>
         (ixO x0.zA v12).bind fun v19=>
         (sO v19).bind fun r20=>
         cond (zD0 v18 r20) (
          (ixO r16.yB v12).bind fun _=>
          jq ((SPr.mk r16.zA (r16.yB.set v12.toNat r9.1) r16.zD),js)) (
          cond (decide (v15<0)) (
           jq (x0,jt)) (
           cond (decide (v15≥v12)) (
            jq (x0,jt)) (
            (ixO r16.zD v15).bind fun v22=>
            (rng (v12-v15)).bind fun v23=>
            (rng (v23-1)).bind fun v24=>
            (ixO v22 v24).bind fun _=>
            jq ((SPr.mk r16.zA r16.yB (r16.zD.set v15.toNat (v22.set v24.toNat r9.1))),js))))))))))))
noncomputable def tS (x0:List Int):Option ByteArray:=
 cond ((x0.length:Int)==0) (
  jq (ByteArray.mk #[49])) (
  (xP (zSY x0) 400 ([],0)).bind fun r12=>
  jq (b2s r12))
noncomputable def uV (x0:Int):Option ByteArray:=
 (rng (x0+1)).bind fun v1=>
 (tS [v1]).bind fun r2=>
 jq r2
noncomputable def zAe (x0:List Int) (s5:(List Int)×Int):Option (((List Int)×Int)⊕(List Int)):=
 cond (decide (s5.2<(x0.length:Int))) (
  (xP (zVD x0 s5) 400 (s5.1,0)).bind fun r5=>
  (rng (s5.2+1)).bind fun v6=>
  jq (.inl (r5,v6))) (
  jq (.inr s5.1))
noncomputable def qT (x0:List Int):Option (List Int):=
 (xP (zAe x0) 400 ([],0)).bind fun r7=>
 jq r7
noncomputable def zAf (x0:SPr) (s1:ByteArray×Int):Option ((ByteArray×Int)⊕ByteArray):=
 cond (decide (s1.2<(x0.zA.length:Int))) (
  cond (decide (s1.2> 0)) (
   (vS s1.1 (ByteArray.mk #[32])).bind fun v1=>
   (ixO x0.zA s1.2).bind fun v2=>
   (sO v2).bind fun r3=>
   (vS v1 r3).bind fun v4=>
   (rng (s1.2+1)).bind fun v5=>
   jq (.inl (v4,v5))) (
   (ixO x0.zA s1.2).bind fun v6=>
   (sO v6).bind fun r7=>
   (vS s1.1 r7).bind fun v8=>
   (rng (s1.2+1)).bind fun v9=>
   jq (.inl (v8,v9)))) (
  jq (.inr s1.1))
noncomputable def zAg (x0:SPr) (s3:ByteArray×Int):Option ((ByteArray×Int)⊕ByteArray):=
 cond (decide (s3.2<(x0.zA.length:Int))) (
  (ixO x0.yB s3.2).bind fun v11=>
  (zAB v11).bind fun r12=>
  cond (!r12) (
   (vS s3.1 (ByteArray.mk #[59,32])).bind fun v13=>
   (uV s3.2).bind fun r14=>
   (vS v13 r14).bind fun v15=>
   (vS v15 (ByteArray.mk #[94])).bind fun v16=>
   (ixO x0.zA s3.2).bind fun v17=>
   (sO v17).bind fun r18=>
   (vS v16 r18).bind fun v19=>
   (vS v19 (ByteArray.mk #[61])).bind fun v20=>
   (ixO x0.yB s3.2).bind fun v21=>
   (qT v21).bind fun r22=>
   (tS r22).bind fun r23=>
   (vS v20 r23).bind fun v24=>
   (rng (s3.2+1)).bind fun v25=>
   jq (.inl (v24,v25))) (
   (rng (s3.2+1)).bind fun v26=>
   jq (.inl (s3.1,v26)))) (
  jq (.inr s3.1))
noncomputable def zAh (x0:SPr) (s9:ByteArray×Int) (s10:ByteArray×Int):Option ((ByteArray×Int)⊕ByteArray):=
 cond (decide (s10.2<(x0.zA.length:Int))) (
  (ixO x0.zD s9.2).bind fun v29=>
  (rng (s10.2-s9.2)).bind fun v30=>
  (rng (v30-1)).bind fun v31=>
  (ixO v29 v31).bind fun v32=>
  (zLx (x0.zA.length:Int) s10.2).bind fun r33=>
  (zAA v32 r33).bind fun r34=>
  cond (!r34) (
   (vS s10.1 (ByteArray.mk #[59,32])).bind fun v35=>
   (uV s10.2).bind fun r36=>
   (vS v35 r36).bind fun v37=>
   (vS v37 (ByteArray.mk #[94])).bind fun v38=>
   (uV s9.2).bind fun r39=>
   (vS v38 r39).bind fun v40=>
   (vS v40 (ByteArray.mk #[61])).bind fun v41=>
   (ixO x0.zD s9.2).bind fun v42=>
   (rng (s10.2-s9.2)).bind fun v43=>
   (rng (v43-1)).bind fun v44=>
   (ixO v42 v44).bind fun v45=>
   (qT v45).bind fun r46=>
   (tS r46).bind fun r47=>
   (vS v41 r47).bind fun v48=>
   (rng (s10.2+1)).bind fun v49=>
   jq (.inl (v48,v49))) (
   (rng (s10.2+1)).bind fun v50=>
   jq (.inl (s10.1,v50)))) (
  jq (.inr s10.1))
noncomputable def zAi (x0:SPr) (s9:ByteArray×Int):Option ((ByteArray×Int)⊕ByteArray):=
 cond (decide (s9.2<(x0.zA.length:Int))) (
  (rng (s9.2+1)).bind fun v28=>
  (xP (zAh x0 s9) 400 (s9.1,v28)).bind fun r51=>
  (rng (s9.2+1)).bind fun v52=>
  jq (.inl (r51,v52))) (
  jq (.inr s9.1))
noncomputable def zAD (x0:SPr):Option ByteArray:=
 cond ((x0.zA.length:Int)==0) (
  jq (ByteArray.mk #[49])) (
  (xP (zAf x0) 400 ((ByteArray.mk #[]),0)).bind fun r10=>
  (xP (zAg x0) 400 (r10,0)).bind fun r27=>
  (xP (zAi x0) 400 (r27,0)).bind fun r53=>
  jq r53)
noncomputable def uE (r1:(List ByteArray)) (s1:(List Int)×(List (List Int))×(List (List (List Int)))×Int):Option (((List Int)×(List (List Int))×(List (List (List Int)))×Int)⊕(((List Int)×(List (List Int))×(List (List (List Int))))⊕(SPr×Int))):=
 cond (decide (s1.2.2.2<(r1.length:Int))) (
  (ixO r1 s1.2.2.2).bind fun v5=>
  (qL (SPr.mk s1.1 s1.2.1 s1.2.2.1) v5).bind fun r6=>
  cond (!r6.2) (
   jq (.inr (.inr ((SPr.mk [] [] []),6)))) (
   (rng (s1.2.2.2+1)).bind fun v7=>
   jq (.inl (r6.1.zA,r6.1.yB,r6.1.zD,v7)))) (
  jq (.inr (.inl (s1.1,s1.2.1,s1.2.2.1))))
noncomputable def uK (x0:ByteArray):Option (SPr×Int):=
 (tI x0 59).bind fun r1=>
 (ixO r1 0).bind fun v2=>
 (kE v2).bind fun r3=>
 cond (!r3.2) (
  jq ((SPr.mk [] [] []),6)) (
  (wZ r3.1).bind fun r4=>
  (xP (uE r1) 400 (r4.zA,r4.yB,r4.zD,1)).bind fun r8=>
  match r8 with
  |(.inl r8)=>
   (tP (SPr.mk r8.1 r8.2.1 r8.2.2)).bind fun r9=>
   cond (!r9) (
    jq ((SPr.mk [] [] []),6)) (
    (zAD (SPr.mk r8.1 r8.2.1 r8.2.2)).bind fun r10=>
    cond (!zD0 r10 x0) (
     jq ((SPr.mk [] [] []),6)) (
     jq ((SPr.mk r8.1 r8.2.1 r8.2.2),0)))
  |(.inr r8)=>
   jq r8)
noncomputable def zAj (x0:Int):Option SPr:=
 (xN x0 10).bind fun v1=>
 (ixO [(ByteArray.mk #[49]),(ByteArray.mk #[50]),(ByteArray.mk #[50,32,50,59,32,97,94,50,61,98]),(ByteArray.mk #[50,32,51,59,32,98,94,97,61,98,98]),(ByteArray.mk #[51,32,50,32,50,59,32,98,94,97,61,99,59,32,99,94,97,61,98,99]),(ByteArray.mk #[50,32,51,32,50,32,50,59,32,98,94,97,61,98,98,59,32,99,94,97,61,100,59,32,100,94,97,61,99,59,32,99,94,98,61,100,59,32,100,94,98,61,99,100]),(ByteArray.mk #[51,32,50,32,50,32,50,59,32,98,94,50,61,100,59,32,99,94,50,61,100,59,32,98,94,97,61,99,59,32,99,94,97,61,98,99,59,32,99,94,98,61,99,100]),(ByteArray.mk #[50,32,50,32,50,59,32,97,94,50,61,99,59,32,98,94,50,61,99,59,32,98,94,97,61,98,99]),(ByteArray.mk #[50,32,50,32,50,59,32,98,94,97,61,98,99]),(ByteArray.mk #[50,32,50,32,50,32,50,59,32,99,94,97,61,99,100,59,32,99,94,98,61,99,100])] v1).bind fun v2=>
 (uK v2).bind fun r3=>
 cond (r3.2 != 0) (
  (wZ [2]).bind fun r4=>
  jq r4) (
  jq r3.1)
instance m_f_spec_l07Product(x0:List Int):LeC (tO x0) (f_T x0):=⟨by unfold tO f_T;exact leS⟩
instance m_f_spec_l07Exponents(x0:List Int)(x1:List Int)(x2:Int):LeC (uT x0 x1 x2) (zMR x0 x1 x2):=⟨by unfold uT zMR;exact leS⟩
instance m_l2_spec_IsPresentation(x0:SPr)(s7:Int)(s8:Int):LeC (tG x0 s7 s8) (zMS x0 s7 s8):=⟨by unfold tG zMS;exact leS⟩
instance m_l3_spec_IsPresentation(x0:SPr)(s7:Int):LeC (tH x0 s7) (zJN x0 s7):=⟨by unfold tH zJN;exact leS⟩
instance m_f_spec_IsPresentation(x0:SPr):LeC (tP x0) (f_n x0):=⟨by unfold tP f_n;exact leS⟩
instance m_f_spec_l01Same(x0:List Int)(x1:List Int):LeC (zAA x0 x1) (zPC x0 x1):=⟨by unfold zAA zPC;exact leS⟩
instance m_l2_spec_l02Times(x0:Int)(x1:List Int)(x2:List (List Int))(s5:(List Int)×Int):LeC (kD x0 x1 x2 s5) (zO3 x0 x1 x2 s5):=⟨by unfold kD zO3;exact leS⟩
instance m_f_spec_l02Times(x0:Int)(x1:List Int)(x2:List (List Int))(x3:Int):LeC (kX x0 x1 x2 x3) (zUW x0 x1 x2 x3):=⟨by unfold kX zUW;exact leS⟩
instance m_l1_spec_l02Product(x0:Int)(x1:List (List Int))(x2:List (List Int))(x3:Int)(s1:(List (List Int))×Int):LeC (qI x0 x1 x2 x3 s1) (zO4 x0 x1 x2 x3 s1):=⟨by unfold qI zO4;exact leS⟩
instance m_f_spec_l02Product(x0:Int)(x1:List (List Int))(x2:List (List Int))(x3:Int):LeC (qZ x0 x1 x2 x3) (zUX x0 x1 x2 x3):=⟨by unfold qZ zUX;exact leS⟩
instance m_f_spec_l01Zero(x0:List Int):LeC (zAB x0) (zVg x0):=⟨by unfold zAB zVg;exact leS⟩
instance m_f_spec_l01Own2(x0:List (List Int)):LeC (tR x0) (f_X x0):=⟨by unfold tR f_X;exact leS⟩
instance m_l2_spec_l07Trivial(x0:List Int)(s5:(List (List Int))×(List (List (List Int)))×Int):LeC (qJ x0 s5) (zJP x0 s5):=⟨by unfold qJ zJP;exact leS⟩
instance m_f_spec_l07Trivial(x0:List Int):LeC (wZ x0) (f_p x0):=⟨by unfold wZ f_p;exact leS⟩
instance m_l2_spec_l07Factors(s5:Int×(List Int)×Int):LeC (qK s5) (zV0 s5):=⟨by unfold qK zV0;exact leS⟩
instance m_f_spec_l07Factors(x0:Int):LeC (vL x0) (f_Z x0):=⟨by unfold vL f_Z;exact leS⟩
instance m_f_spec_CyclicPresentation(x0:Int):LeC (vD x0) (zV1 x0):=⟨by unfold vD zV1;exact leS⟩
instance m_f_spec_l07Digits(x0:List Int)(x1:Int)(x2:Int):LeC (uU x0 x1 x2) (zPX x0 x1 x2):=⟨by unfold uU zPX;exact leS⟩
instance m_f_spec_l01Power(x0:Int)(x1:Int)(x2:Int):LeC (sV x0 x1 x2) (zSN x0 x1 x2):=⟨by unfold sV zSN;exact leS⟩
instance m_l2_spec_l07Meta(v4:List Int)(s7:(List (List (List Int)))×Int×Int)(s8:(List (List (List Int)))×Int):LeC (kY v4 s7 s8) (zSO v4 s7 s8):=⟨by unfold kY zSO;exact leS⟩
instance m_l3_spec_l07Meta(x1:Int)(r1:(List Int)×Bool)(v4:List Int)(s7:(List (List (List Int)))×Int×Int):LeC (kZ x1 r1 v4 s7) (zSP x1 r1 v4 s7):=⟨by unfold kZ zSP;exact leS⟩
instance m_l4_spec_l07Meta(v4:List Int)(s15:(List (List (List Int)))×Int×Int)(s16:(List (List (List Int)))×Int):LeC (zAa v4 s15 s16) (zSQ v4 s15 s16):=⟨by unfold zAa zSQ;exact leS⟩
instance m_l5_spec_l07Meta(x1:Int)(r1:(List Int)×Bool)(v4:List Int)(s15:(List (List (List Int)))×Int×Int):LeC (zAb x1 r1 v4 s15) (zSR x1 r1 v4 s15):=⟨by unfold zAb zSR;exact leS⟩
instance m_f_spec_l07Meta(x0:Int)(x1:Int)(x2:Int)(x3:Int):LeC (wO x0 x1 x2 x3) (f_j x0 x1 x2 x3):=⟨by unfold wO f_j;exact leS⟩
instance m_l4_spec_l07Affine(x0:Int)(x1:List (List Int))(r1:(List Int)×Bool)(s13:(List (List (List Int)))×(List (List Int))×Int)(s16:(List (List Int))×Int):LeC (jN x0 x1 r1 s13 s16) (zV6 x0 x1 r1 s13 s16):=⟨by unfold jN zV6;exact leS⟩
instance m_l5_spec_l07Affine(x0:Int)(x1:List (List Int))(r1:(List Int)×Bool)(s13:(List (List (List Int)))×(List (List Int))×Int):LeC (jO x0 x1 r1 s13) (zSS x0 x1 r1 s13):=⟨by unfold jO zSS;exact leS⟩
instance m_f_spec_l07Affine(x0:Int)(x1:List (List Int))(x2:Int):LeC (wR x0 x1 x2) (f_o x0 x1 x2):=⟨by unfold wR f_o;exact leS⟩
instance m_f_spec_l01Split(x0:ByteArray)(x1:Int):LeC (tI x0 x1) (zPY x0 x1):=⟨by unfold tI zPY;exact leS⟩
instance m_f_spec_l01Value(x0:ByteArray):LeC (zAc x0) (zV7 x0):=⟨by unfold zAc zV7;exact leS⟩
instance m_l1_spec_l07Orders(r1:(List ByteArray))(s1:(List Int)×Int):LeC (jP r1 s1) (zOA r1 s1):=⟨by unfold jP zOA;exact leS⟩
instance m_f_spec_l07Orders(x0:ByteArray):LeC (kE x0) (zV8 x0):=⟨by unfold kE zV8;exact leS⟩
instance m_f_spec_l06Parse(x0:Int)(x1:ByteArray):LeC (zAd x0 x1) (zV9 x0 x1):=⟨by unfold zAd zV9;exact leS⟩
instance m_f_spec_l07Vector(x0:Int)(x1:List Int):LeC (kF x0 x1) (zVA x0 x1):=⟨by unfold kF zVA;exact leS⟩
instance m_l1_spec_l07Own(x0:SPr)(s1:(List (List (List Int)))×Int):LeC (zAC x0 s1) (zLD x0 s1):=⟨by unfold zAC zLD;exact leS⟩
instance m_f_spec_l07Own(x0:SPr):LeC (zBg x0) (zVB x0):=⟨by unfold zBg zVB;exact leS⟩
instance m_f_spec_l01Dec(x0:Int):LeC (sO x0) (f_h x0):=⟨Le.fu (n:=40) (g:=fun n=>zJQ n x0) fun n=>by
 induction n generalizing x0 with
 |zero=>intro r h;cases h
 |succ n ih=>
  have:=fun x0=>LeC.mk (ih x0)
  show Le (b_h (zJQ n) x0) (b_h (zJQ (n+1)) x0);unfold b_h;exact leS⟩
instance m_f_spec_l07Relation(x0:SPr)(x1:ByteArray):LeC (qL x0 x1) (zVC x0 x1):=⟨by unfold qL zVC;exact leS⟩
instance m_f_spec_l06Text(x0:List Int):LeC (tS x0) (zPZ x0):=⟨by unfold tS zPZ;exact leS⟩
instance m_f_spec_l07Letter(x0:Int):LeC (uV x0) (zQa x0):=⟨by unfold uV zQa;exact leS⟩
instance m_l2_spec_l07Word(x0:List Int)(s5:(List Int)×Int):LeC (zAe x0 s5) (zSZ x0 s5):=⟨by unfold zAe zSZ;exact leS⟩
instance m_f_spec_l07Word(x0:List Int):LeC (qT x0) (f_J x0):=⟨by unfold qT f_J;exact leS⟩
instance m_l1_spec_l07Text(x0:SPr)(s1:ByteArray×Int):LeC (zAf x0 s1) (zVE x0 s1):=⟨by unfold zAf zVE;exact leS⟩
instance m_l2_spec_l07Text(x0:SPr)(s3:ByteArray×Int):LeC (zAg x0 s3) (zVF x0 s3):=⟨by unfold zAg zVF;exact leS⟩
instance m_l3_spec_l07Text(x0:SPr)(s9:ByteArray×Int)(s10:ByteArray×Int):LeC (zAh x0 s9 s10) (zVG x0 s9 s10):=⟨by unfold zAh zVG;exact leS⟩
instance m_l4_spec_l07Text(x0:SPr)(s9:ByteArray×Int):LeC (zAi x0 s9) (zVH x0 s9):=⟨by unfold zAi zVH;exact leS⟩
instance m_f_spec_l07Text(x0:SPr):LeC (zAD x0) (f_x x0):=⟨by unfold zAD f_x;exact leS⟩
instance m_l1_spec_ParsePresentation(r1:(List ByteArray))(s1:(List Int)×(List (List Int))×(List (List (List Int)))×Int):LeC (uE r1 s1) (zOB r1 s1):=⟨by unfold uE zOB;exact leS⟩
instance m_f_spec_ParsePresentation(x0:ByteArray):LeC (uK x0) (zVI x0):=⟨by unfold uK zVI;exact leS⟩
instance m_f_spec_l07Table(x0:Int):LeC (zAj x0) (zVJ x0):=⟨by unfold zAj zVJ;exact leS⟩
end Go.Wk
namespace Go.Pl
open Go Go.Ab Go.Wk
def shB(p:SPr):Bool:=decide (p.zA.length≤6)&&(p.yB.length==p.zA.length)&&p.yB.all (fun v=>v.length==p.zA.length)&&(p.zD.length==p.zA.length)&&(Ju p.zA.length).all fun i=>decide ((p.zD.getD i []).length≤p.zA.length-1-i)&&(p.zD.getD i []).all fun v=>v.length==p.zA.length
def okP(o:Option SPr):Bool:=match o with|some p=>shB p|none=>jt
theorem okP.of{a b:Option SPr}[h:LeC a b](k:okP a=js):∃p,b=jq p∧shB p=js:=by
 cases a with
 |none=>cases k
 |some p=>exact⟨p,h.h p rfl,k⟩
theorem yA6{m:Int}(h:m∈[3,4,5,6,7,8,9,12]):okP (wO 2 m (m-1) 0)=js:=by revert m;decide+kernel
theorem yA7{m:Int}(h:m∈[4,6,8,12]):okP (wO 2 m (m-1) (m.tdiv 2))=js:=by revert m;decide+kernel
theorem yA8:(okP (wO 3 7 2 0)&&okP (wO 4 5 2 0)&&okP (wO 2 8 3 0)&&okP (wO 2 8 5 0)&&okP (wO 4 4 3 0)&&okP (wO 3 9 4 0))=js:=by decide+kernel
theorem aff:(okP (wR 3 [[2,0],[0,2]] 2)&&okP (wR 3 [[0,1],[2,0]] 4)&&okP (wR 2 [[0,1,0],[0,0,1],[1,1,0]] 7)&&okP (wR 2 [[1,1,0],[0,1,1],[0,0,1]] 4)&&okP (wR 2 [[0,1,0,0],[1,0,0,0],[0,0,0,1],[0,0,1,0]] 2)&&okP (wR 5 [[0,1],[4,4]] 3))=js:=by decide+kernel
theorem cyc{n:Int}(h:n∈[1,4,6,8,9,12,5,7,27,25,36]):okP ((vD n).map (·.1))=js:=by revert n;decide+kernel
theorem zRS:(Ju 10).all (fun k=>okP (zAj k))=js:=by decide+kernel
end Go.Pl

namespace Go.Pl
open Go Go.Ab Go.Wk Go.Pc
def Ans{α:Type}(o:Option α)(P:α→Prop):Prop:=∃r,o=jq r∧P r
theorem Ans.rt{α:Type}{P:α→Prop}{r:α}(h:P r):Ans (jq r) P:=⟨r,rfl,h⟩
theorem Ans.bd{α β:Type}{P:α→Prop}{Q:β→Prop}{o:Option α}{f:α→Option β}(h:Ans o P)(k:∀r,P r→Ans (f r) Q):Ans (o.bind f) Q:=by obtain⟨r,h1,h2⟩:=h;rw[h1,bs];exact k r h2
theorem Ans.cd{α:Type}{Q:α→Prop}{c:Bool}{a b:Option α}(h:c=js→Ans a Q)(k:c=jt→Ans b Q):Ans (cond c a b) Q:=by
 cases c
 ·exact k rfl
 ·exact h rfl
theorem Ans.rg{β:Type}{Q:β→Prop}{n:Int}{f:Int→Option β}(h:-9223372036854775808≤n∧n≤9223372036854775807)(k:Ans (f n) Q):Ans ((rng n).bind f) Q:=by rw[zH h.1 h.2,bs];exact k
abbrev Ei{α β:Type}(P:α→Prop)(Q:β→Prop)(x:α⊕β):Prop:=match x with|.inl a=>P a|.inr b=>Q b
theorem Ans.lp{σ ρ:Type}{body:σ→Option (σ⊕ρ)}{Q:ρ→Prop}{s:σ}(I:Nat→σ→Prop)(n:Nat)(h0:I 0 s)
  (h:∀i s,i≤n→I i s→Ans (body s) (Ei (fun s'=>i<n∧I (i+1) s') Q)):Ans (zC body s) Q:=by
 refine tU I n (fun i s hi hs=>?_) (fun s hs=>?_) h0
 ·obtain⟨x,h1,h2⟩:=h i s (by omega) hs
  rcases x with s'|r
  ·exact .inl ⟨s',h1,h2.2⟩
  ·exact .inr ⟨r,h1,h2⟩
 ·obtain⟨x,h1,h2⟩:=h n s (by omega) hs
  rcases x with s'|r
  ·omega
  ·exact⟨r,h1,h2⟩
structure Src (s:zM):Prop where
 b:∀i(h:i<s.code.length),0≤s.code[i]∧s.code[i]≤255
 l:s.code.length≤68719476736
 a:0≤s.at_∧s.at_≤s.code.length
 s:0≤s.seed∧s.seed<2147483647
theorem wr{n:Int}(h:0≤n∧n≤255):IntKind.wrap .i64 n=n:=zBH (by simp[inR];omega)
theorem zGd{m n:Int}(hn:0<n)(hm:0≤m):Ans (xN m n) fun r=>0≤r∧r<n:=by unfold xN;rw[if_neg (by omega)];exact .rt ⟨Int.tmod_nonneg _ hm,Jbo _ hn⟩
theorem wI{s:zM}(hs:Src s){n:Int}(hn:n≤68719476736):Ans (f_e s n) fun r=>Src r.2∧0≤r.1∧(r.1<n∨n≤1∧r.1=0):=by
 have h1:=hs.s;have h2:=hs.a;have hl:=hs.l;unfold f_e;refine .cd (fun h=>.rt ⟨hs,by omega,.inr ⟨by simpa using h,rfl⟩⟩) fun h=>?_
 have hn:1<n:=by simpa using h
 refine .rg (by omega) (.rg (by omega) (.bd (zGd (by omega) (by omega)) fun v hv=>?_));have:wF v 47=jq (v.tdiv 47):=by
  have h3:=Jab hv.1 (show(0:Int)≤47 by omega);have h4:v.tdiv 47≤v:=by rw[Lb hv.1];omega
  unfold wF;rw[if_neg (by omega),zH (by omega) (by omega)]
 rw[this,bs];have h3:=Jab hv.1 (show(0:Int)≤47 by omega);have h4:v.tdiv 47≤v:=by rw[Lb hv.1];omega
 have key:∀{x:Int}{s':zM},0≤x→Src s'→Ans ((xN x n).bind fun v=>jq (v,s')) fun r=>Src r.2∧0≤r.1∧(r.1<n∨n≤1∧r.1=0):=fun hx gG=>
  .bd (zGd (by omega) hx) fun v hv=>.rt ⟨gG,hv.1,.inl hv.2⟩
 refine .cd (fun h=>?_) fun h=>?_
 ·have h:s.at_<s.code.length:=by simpa using h
  obtain⟨i,hi⟩:∃i:Nat,s.at_=i:=⟨s.at_.toNat,by omega⟩;have hb:=hs.b i (by omega);rw[hi,uR (by omega),bs,wr hb];refine .rg (by omega) (.rg (by omega) ?_);have hS:Src (zM.mk s.code (i+1) v):=⟨hs.b,hs.l,by simp only;omega,hv⟩;refine .cd (fun h=>.bd (zGd (by omega) (by omega)) fun w hw=>.cd (fun h=>.rg (by omega) ?_) fun h=>key (by omega) hS) fun h=>key (by omega) hS
  rw[show((i:Int)+1-1)=i from by omega,uR (by omega),bs,wr hb];exact key hb.1 hS
 ·exact key h3 ⟨hs.b,hs.l,hs.a,hv⟩
theorem zAv{s:zM}(hs:Src s){l:List Int}(h0:0<l.length)(hl:l.length≤1000):Ans (f_R s l) fun r=>Src r.2∧r.1∈l:=by
 unfold f_R;refine .bd (wI hs (by omega)) fun r hr=>?_
 obtain⟨i,hi⟩:∃i:Nat,r.1=i:=⟨r.1.toNat,by omega⟩;rw[hi,uR (by omega),bs];exact .rt ⟨hr.1,Jt _⟩
theorem zU5{c:List Int}(hb:∀i(h:i<c.length),0≤c[i]∧c[i]≤255)(hl:c.length≤68719476736):Ans (zVz c) Src:=by
 unfold zVz;refine .bd (P:=fun r=>0≤r∧r<2147483647) (.lp (fun i s=>s.2=i∧0≤s.1∧s.1<2147483647) 64 ⟨rfl,by simp,by simp⟩ fun i s hi hs=>?_) fun r hr=>.rt ⟨hb,hl,⟨Qc _,by simp only;omega⟩,hr⟩
 unfold zSK;refine .cd (fun h=>.cd (fun h'=>.rg (by omega) ?_) fun _=>.rt hs.2) fun _=>.rt hs.2
 simp only[decide_eq_true_eq]at h h';have:=hb i (by omega);rw[hs.1,uR (by omega),bs,wr this];refine .rg (by omega) (.bd (zGd (by omega) (by omega)) fun v hv=>.rg (by omega) (.rt ⟨by omega,by simp only;omega,hv⟩))
end Go.Pl

namespace Go.Pl
open Go Go.Ab Go.Wk Go.Pc
theorem yA9{D k:Nat}(hk:k<D)(hD:D≤1000000):zLx (D:Int) (k:Int)=jq (zX D k):=zA9 hk hD
def trv(os:List Int):SPr:=⟨os,gl os.length fun _=>J1 os.length 0,gl os.length fun i=>gl (os.length-1-i) fun j=>zX os.length (i+1+j)⟩
theorem zAk{os:List Int}(h:os.length≤1000000):f_p os=jq (trv os):=by
 unfold f_p;rw[uS h,bs];have gR:∀i:Nat,i<os.length→zC (zPW os) ([],((i+1:Nat):Int))=jq (gl (os.length-1-i) fun j=>zX os.length (i+1+j)):=fun i hi=>by
  refine zU (fun j=>(gl j fun j=>zX os.length (i+1+j),((i+1+j:Nat):Int))) (os.length-1-i) (fun j hj=>?_) ?_
  ·unfold zPW
   simp only
   rw[xH (by omega),zJ,yA9 (by omega) h,bs,zT (by rw[yK];simp;omega),bs,zH (by omega) (by omega),bs,cs,vN];rfl
  ·unfold zPW
   simp only
   rw[show decide (((i+1+(os.length-1-i):Nat):Int)<os.length)=jt from by simp;omega,zK]
 have:=zU (body:=zJP os) (r:=((trv os).yB,(trv os).zD)) (fun i=>(gl i fun _=>J1 os.length 0,(gl i fun i=>gl (os.length-1-i) fun j=>zX os.length (i+1+j)),(i:Int))) os.length (fun i hi=>by
  unfold zJP;simp only
  rw[xH hi,zJ,xJ (by omega),bs,zT (by rw[yK];simp;omega),bs,zH (by omega) (by omega),bs,cs,gR i hi,bs,zT (by rw[yK];simp;omega),bs,bs,vN,vN (F:=fun i=>gl (os.length-1-i) fun j=>zX os.length (i+1+j))]) (by
  unfold zJP;simp only
  rw[wW,zK];rfl)
 rw[show zC (zJP os) ([],[],0)=jq ((trv os).yB,(trv os).zD)from this,bs];rfl
structure ShF (p:SPr):Prop where
 n:p.zA.length≤6
 pl:p.yB.length=p.zA.length
 pr:∀v∈p.yB,v.length=p.zA.length
 cl:p.zD.length=p.zA.length
 c:∀i,i<p.zA.length→(p.zD.getD i []).length≤p.zA.length-1-i
 cr:∀i,i<p.zA.length→ ∀v∈p.zD.getD i [],v.length=p.zA.length
theorem shB.iff{p:SPr}(h:shB p=js):ShF p:=by simp only[shB,J3,decide_eq_true_eq,beq_iff_eq,Jr,K5]at h;exact⟨h.1.1.1.1,h.1.1.1.2,h.1.1.2,h.1.2,fun i hi=>(h.2 i hi).1,fun i hi=>(h.2 i hi).2⟩
theorem okP.sh{a b:Option SPr}[h:LeC a b](k:okP a=js):Ans b ShF:=by obtain⟨p,h1,h2⟩:=okP.of (b:=b) k;exact⟨p,h1,shB.iff h2⟩
theorem zYh{os:List Int}(h:os.length≤6):ShF (trv os):=by
 refine⟨h,yK,fun v hv=>?_,yK,fun i hi=>?_,fun i hi v hv=>?_⟩
 ·simp[trv,gl]at hv;rw[←hv.2];simp[trv]
 ·have hi:i<os.length:=hi
  simp[trv,gl,hi]
 ·have hi:i<os.length:=hi
  simp[trv,gl,hi]at hv;obtain⟨_,_,rfl⟩:=hv;exact yG _ _
structure ShC (N:Nat) (c:List (List (List Int))):Prop where
 l:c.length=N
 r:∀i,i<N→(c.getD i []).length=N-1-i
theorem ShC.set{N:Nat}{c:List (List (List Int))}(h:ShC N c){i j:Nat}(hi:i<N){v:List Int}:ShC N (c.set i ((c.getD i []).set j v)):=by
 refine⟨by rw[Kn,h.l],fun k hk=>?_⟩;have:=h.l
 by_cases e:k=i
 ·subst e;have:=h.r k hk;grind
 ·have:=h.r k hk;grind
theorem zU6{os:List Int}:ShC os.length (trv os).zD:=⟨yK,fun i hi=>by simp[trv,gl,hi]⟩
theorem zCV{a b:Nat}{v:List Int}(ha:a≤1000)(hb:b≤1000)(hv:v.length≤1000):zHz a v b=jq (J1 a 0++v++J1 b 0):=by unfold zHz;rw[xJ (by omega),bs,zT (by simp;omega),bs];unfold xR;rw[if_pos (by simp;omega),bs];simp
theorem zJ8{α:Type}{v:List α}{d:α}{i:Nat}(h:i<v.length):v.getD i d∈v:=by grind
theorem zU7{a b:SPr}(ha:ShF a)(hb:ShF b):Ans (f_y a b) fun p=>p.zA.length≤12:=by
 have h1:=ha.n;have h2:=hb.n;unfold f_y;rw[uS (by omega),bs,zT (by omega),bs,zAk (by rw[J8];omega),bs]
 generalize hN:(a.zA++b.zA).length=N
 have hN':N=a.zA.length+b.zA.length:=by rw[←hN,J8]
 have hC:ShC N (trv (a.zA++b.zA)).zD:=hN▸zU6;have hP:(trv (a.zA++b.zA)).yB.length=N:=hN▸yK;refine .bd (P:=fun r=>r.1.length=N∧ShC N r.2) (.lp (fun i s=>s.2.2=i∧i≤a.zA.length∧s.1.length=N∧ShC N s.2.1) a.zA.length ⟨rfl,by omega,hP,hC⟩ fun i s hi hs=>?_) fun r hr=>?_
 ·obtain⟨e,_,mc,mb⟩:=hs
  unfold zVL;rw[e];refine .cd (fun h=>?_) fun h=>.rt ⟨mc,mb⟩
  simp only[decide_eq_true_eq]at h;have hv:=ha.pr (a.yB.getD i []) (zJ8 (by have:=ha.pl;omega));rw[yO [] (by have:=ha.pl;omega),bs,show(0:Int)=((0:Nat):Int)from rfl,zCV (by omega) (by omega) (by omega),bs,yO [] (by omega),bs];have mA:=ha.c i (by omega);refine .bd (P:=ShC N) (.lp (fun j t=>t.2=j∧ShC N t.1) (a.zD.getD i []).length ⟨rfl,mb⟩ fun j t hj ht=>?_) fun c hc=>.rg (by omega) (.rt ⟨by omega,by simp only;omega,by omega,by simp only[Kn];omega,hc⟩)
  unfold zVK;rw[e,ht.1,yO [] (by have:=ha.cl;omega),bs];refine .cd (fun h=>?_) fun h=>.rt ht.2
  simp only[decide_eq_true_eq]at h;have hv:=ha.cr i (by omega) ((a.zD.getD i []).getD j []) (zJ8 (by omega));have hr:=ht.2.r i (by omega);rw[yO [] (by have:=ht.2.l;omega),bs,bs,yO [] (by omega),bs,show(0:Int)=((0:Nat):Int)from rfl,zCV (by omega) (by omega) (by omega),bs,yO [] (by omega),bs];exact .rg (by omega) (.rt ⟨by omega,by simp only;omega,ht.2.set (by omega)⟩)
 refine .bd (P:=fun r=>True) (.lp (fun i s=>s.2.2=i∧i≤b.zA.length∧s.1.length=N∧ShC N s.2.1) b.zA.length ⟨rfl,by omega,hr⟩ fun i s hi hs=>?_) fun r hr=>.rt (show(trv _).zA.length≤12 by simp only[trv];omega)
 obtain⟨e,_,mc,mb⟩:=hs;unfold zVN;rw[e];refine .cd (fun h=>.rg (by omega) ?_) fun h=>.rt trivial
 simp only[decide_eq_true_eq]at h;have hv:=hb.pr (b.yB.getD i []) (zJ8 (by have:=hb.pl;omega));rw[yO [] (by have:=hb.pl;omega),bs,show(0:Int)=((0:Nat):Int)from rfl,zCV (by omega) (by omega) (by omega),bs,show(a.zA.length:Int)+(i:Int)=((a.zA.length+i:Nat):Int)from by omega,yO [] (by omega),bs];have mA:=hb.c i (by omega);refine .bd (P:=ShC N) (.lp (fun j t=>t.2=j∧ShC N t.1) (b.zD.getD i []).length ⟨rfl,mb⟩ fun j t hj ht=>?_) fun c hc=>.rg (by omega) (.rt ⟨by omega,by simp only;omega,by omega,by simp only[Kn];omega,hc⟩)
 unfold zVM;rw[e,ht.1,yO [] (by have:=hb.cl;omega),bs];refine .cd (fun h=>.rg (by omega) ?_) fun h=>.rt ht.2
 simp only[decide_eq_true_eq]at h;have hv:=hb.cr i (by omega) ((b.zD.getD i []).getD j []) (zJ8 (by omega));have hr:=ht.2.r (a.zA.length+i) (by omega);rw[show(a.zA.length:Int)+(i:Int)=((a.zA.length+i:Nat):Int)from by omega,yO [] (by have:=ht.2.l;omega),bs,bs,yO [] (by omega),bs,show(0:Int)=((0:Nat):Int)from rfl,zCV (by omega) (by omega) (by omega),bs,yO [] (by omega),bs];exact .rg (by omega) (.rt ⟨by omega,by simp only;omega,ht.2.set (by omega)⟩)
theorem zU8{s:zM}(hs:Src s){p:Int}(hp:p≤1000):Ans (zV3 s p) fun r=>ShF r.1∧Src r.2:=by
 unfold zV3;rw[zAk (by simp),bs];have e:trv [p,p,p]=⟨[p,p,p],[[0,0,0],[0,0,0],[0,0,0]],[[[0,1,0],[0,0,1]],[[0,0,1]],[]]⟩:=rfl;rw[e];have key:∀{x y:List Int}{t:zM},x.length=3→y.length=3→Src t→Ans (jq ((SPr.mk [p,p,p] [x,y,[0,0,0]] [[[0,1,1],[0,0,1]],[[0,0,1]],[]]),t)) fun r=>ShF r.1∧Src r.2:=fun hx hy ht=>.rt ⟨shB.iff (by simp[shB,hx,hy,L9]),ht⟩
 rw[show ixO (SPr.mk [p,p,p] [[0,0,0],[0,0,0],[0,0,0]] [[[0,1,0],[0,0,1]],[[0,0,1]],[]]).zD 0=jq [[0,1,0],[0,0,1]]from rfl,bs,show ixO [[(0:Int),1,0],[0,0,1]] 0=jq [0,1,0]from rfl,bs];refine .bd (wI hs (by omega)) fun r hr=>.cd (fun _=>.bd (wI hr.1 (by omega)) fun r1 eC=>?_) fun _=>key rfl rfl hr.1
 rw[show ixO (SPr.mk [p,p,p] [[0,0,0],[0,0,0],[0,0,0]] [[[0,1,0],[0,0,1]],[[0,0,1]],[]]).yB 0=jq [0,0,0]from rfl,bs];refine .bd (wI eC.1 (by omega)) fun r2 gI=>?_
 rw[show ixO ((SPr.mk [p,p,p] [[0,0,0],[0,0,0],[0,0,0]] [[[0,1,0],[0,0,1]],[[0,0,1]],[]]).yB.set (0:Int).toNat [0,0,r1.1]) 1=jq [0,0,0]from rfl,bs];exact key rfl rfl gI.1
theorem zI9{s:zM}(hs:Src s):Ans (zTb s) fun r=>ShF r.1∧Src r.2:=by
 have pair:∀{o:Option SPr}{t:zM},Ans o ShF→Src t→Ans (o.bind fun p=>jq (p,t)) fun r=>ShF r.1∧Src r.2:=fun h ht=>.bd h fun p hp=>.rt ⟨hp,ht⟩
 unfold zTb;refine .bd (wI hs (by omega)) fun r hr=>.cd (fun _=>.bd (wI hr.1 (by omega)) fun r2 gI=>?_) fun _=>.cd (fun _=>.bd (zAv hr.1 (by simp) (by simp)) fun r2 gI=>?_) fun _=>.cd (fun _=>.bd (zAv hr.1 (by simp) (by simp)) fun r2 gI=>?_) fun _=>
  .cd (fun _=>.bd (zAv hr.1 (by simp) (by simp)) fun r2 gI=>?_) fun _=>.cd (fun _=>.bd (wI hr.1 (by omega)) fun r2 gI=>?_) fun _=>.cd (fun _=>.bd (zAv hr.1 (by simp) (by simp)) fun r2 gI=>?_) fun _=>.cd (fun _=>.bd (wI hr.1 (by omega)) fun r2 gI=>?_) fun _=>.bd (wI hr.1 (by omega)) fun r2 gI=>?_
 ·refine .bd (P:=fun t=>Src ⟨t.1,t.2.1,t.2.2.1⟩∧t.2.2.2.length≤5) (.lp (fun i t=>t.2.2.2.2=r2.1-i∧Src ⟨t.1,t.2.1,t.2.2.1⟩∧t.2.2.2.1.length=i) r2.1.toNat ⟨by simp,gI.1,rfl⟩ fun i t hi ht=>?_) fun t ht=>pair ⟨_,zAk (by omega),zYh (by omega)⟩ ht.1
  unfold zTa;refine .cd (fun h=>.bd (zAv ht.2.1 (by simp) (by simp)) fun r3 fe=>?_) fun h=>.rt ⟨ht.2.1,by simp only;omega⟩
  simp only[decide_eq_true_eq]at h;rw[zT (by simp;omega),bs];exact .rg (by omega) (.rt ⟨by omega,by simp only;omega,fe.1,by simp[ht.2.2]⟩)
 ·refine .bd (P:=fun t=>ShF t.1) ?_ fun t ht=>.rt ⟨ht,gI.1⟩
  have h:=cyc gI.2;cases e:vD r2.1 with
  |none=>rw[e]at h;cases h
  |some x=>exact⟨x,(m_f_spec_CyclicPresentation _).h x e,shB.iff (by rw[e]at h;exact h)⟩
 ·have:r2.1≤12∧3≤r2.1:=by have:=gI.2;simp at this;omega
  exact .rg (by omega) (pair (okP.sh (yA6 gI.2)) gI.1)
 ·have:r2.1≤12∧3≤r2.1:=by have:=gI.2;simp at this;omega
  have e:wF r2.1 2=jq (r2.1.tdiv 2):=by have:=Lb (show 0≤r2.1 by omega) (b:=2);unfold wF;rw[if_neg (by omega),zH (by omega) (by omega)]
  refine .rg (by omega) ?_;rw[e,bs];exact pair (okP.sh (yA7 gI.2)) gI.1
 ·have h:=yA8
  simp only[J3]at h;obtain⟨⟨⟨⟨⟨h1,h2⟩,h3⟩,h4⟩,h5⟩,h6⟩:=h;exact .cd (fun _=>pair (okP.sh h1) gI.1) fun _=>.cd (fun _=>pair (okP.sh h2) gI.1) fun _=>.cd (fun _=>pair (okP.sh h3) gI.1) fun _=>.cd (fun _=>pair (okP.sh h4) gI.1) fun _=>.cd (fun _=>pair (okP.sh h5) gI.1) fun _=>pair (okP.sh h6) gI.1
 ·have:r2.1≤5:=by have:=gI.2;simp at this;omega
  exact .bd (zU8 gI.1 (by omega)) fun r hr=>.rt hr
 ·have h:=aff
  simp only[J3]at h;obtain⟨⟨⟨⟨⟨h1,h2⟩,h3⟩,h4⟩,h5⟩,h6⟩:=h;exact .cd (fun _=>pair (okP.sh h1) gI.1) fun _=>.cd (fun _=>pair (okP.sh h2) gI.1) fun _=>.cd (fun _=>pair (okP.sh h3) gI.1) fun _=>.cd (fun _=>pair (okP.sh h4) gI.1) fun _=>.cd (fun _=>pair (okP.sh h5) gI.1) fun _=>pair (okP.sh h6) gI.1
 ·have h:=zRS
  rw[Jr]at h;have:=h r2.1.toNat (K5.2 (by omega));rw[show((r2.1.toNat:Nat):Int)=r2.1 from by omega]at this;exact pair (okP.sh this) gI.1
theorem zRT{s:zM}(hs:Src s){n:Int}:Ans (zVO s n) fun r=>zIr r.1∧Src r.2:=by
 unfold zVO;refine .bd (P:=Ei (fun t=>Src ⟨t.1,t.2.1,t.2.2⟩) fun r=>zIr r.1∧Src r.2) (.lp (fun i t=>t.2.2.2=i∧Src ⟨t.1,t.2.1,t.2.2.1⟩) 12 ⟨rfl,hs⟩ fun i t hi ht=>?_) fun x hx=>?_
 ·unfold zTc
  refine .cd (fun h=>?_) fun h=>.rt ht.2
  simp only[decide_eq_true_eq]at h;have key:∀{p:SPr}{t':zM},p.zA.length≤12→Src t'→Ans ((f_n p).bind fun r5=>
   cond r5 (
    (f_T p.zA).bind fun r6=>
    cond (decide (r6≤n)) (
     jq (.inr (.inr (p,t')))) (
     (rng (t.2.2.2+1)).bind fun v7=>
     jq (.inl (t'.code,t'.at_,t'.seed,v7)))) (
    (rng (t.2.2.2+1)).bind fun v8=>
    jq (.inl (t'.code,t'.at_,t'.seed,v8)))) (Ei (fun s':(List Int)×Int×Int×Int=>i<12∧s'.2.2.2=((i+1:Nat):Int)∧Src ⟨s'.1,s'.2.1,s'.2.2.1⟩) (Ei (fun t:(List Int)×Int×Int=>Src ⟨t.1,t.2.1,t.2.2⟩) fun r:SPr×zM=>zIr r.1∧Src r.2)):=fun{p t'} hp pH=>by
   rcases qG (x:=p) (by omega)with⟨h1,h2⟩|⟨h1,h2⟩
   ·rw[h1,bs,zJ,zE1 h2.os,bs]
    refine .cd (fun _=>.rt ⟨h2,pH⟩) fun _=>.rg (by omega) (.rt ⟨by omega,by simp only;omega,pH⟩)
   ·rw[h1,bs,zK]
    exact .rg (by omega) (.rt ⟨by omega,by simp only;omega,pH⟩)
  refine .bd (zI9 ht.2) fun r1 eC=>.bd (wI eC.2 (by omega)) fun r2 gI=>.cd (fun _=>.bd (zI9 gI.1) fun r3 fe=>.bd (zU7 eC.1 fe.1) fun r4 mX=>key mX fe.2) fun _=>key (p:=r1.1) (by have:=eC.1.n;omega) gI.1
 ·rcases x with t|r
  ·dsimp only
   rw[zAk (by simp),bs];refine .rt ⟨?_,hx⟩;rcases qG (x:=trv [2]) (by simp[trv])with⟨h1,h2⟩|⟨h1,h2⟩
   ·exact h2
   ·have:=(m_f_spec_IsPresentation (trv [2])).h js (by decide+kernel)
    rw[this]at h1;cases h1
  ·exact .rt hx
end Go.Pl

namespace Go.Pl
open Go Go.Ab Go.Wk Go.Pc
theorem zEL{α:Type}{v:List α}{a b:Nat}(h:a≤b)(k:b≤v.length):zQ v (a:Int) (b:Int)=jq ((v.drop a).take (b-a)):=by unfold zQ;exact if_pos (by omega)
section
variable {x:SPr} (h:Pres x)
 include h
theorem zYi{i:Nat}(hi:i<x.zA.length):(x.zD.getD i []).length+i+1=x.zA.length:=(h.tl i hi).2.1
end
end Go.Pl

namespace Go.Pl
open Go Go.Ab Go.Wk Go.Pc
end Go.Pl

namespace Go.Pl
open Go Go.Ab Go.Wk Go.Pc
end Go.Pl

namespace Go.Pl
open Go Go.Ab Go.Wk Go.Pc
abbrev VU(n:Int):Prop:=(Lit.int .u8 n).wf=js
theorem vu{c:List Int}(h:VL VU c)(i:Nat)(hi:i<c.length):0≤c[i]∧c[i]≤255:=by have:=h.2 c[i] (Jt hi);simp only[VU,Lit.wf,J3,IntKind.min,IntKind.max,IntKind.signed,IntKind.bits]at this;simpa using this
theorem zRU{c:List Int}:zVy c=jq (decide ((c.length:Int)> 4096)):=rfl
end Go.Pl

namespace Go.Pl
open Go Go.Ab Go.Wk Go.Pc
theorem zLi{a b:List Int}(h:a.length≤1000000):zY8 a b=jq (a==b):=zFl h
end Go.Pl

namespace Go.Pl
open Go Go.Ab Go.Wk Go.Pc
end Go.Pl

namespace Go.Pl
open Go Go.Ab Go.Wk Go.Pc
end Go.Pl

namespace Go.Pl
open Go Go.Ab Go.Wk Go.Pc
end Go.Pl

namespace Go.Pl
open Go Go.Ab Go.Wk Go.Pc
end Go.Pl

namespace Go.Pl
open Go Go.Ab Go.Wk Go.Pc
end Go.Pl

namespace Go.Pl
open Go Go.Ab Go.Wk Go.Pc
theorem zRV{N k:Nat}:(J1 N (0:Int)).set k 1=zX N k:=by rw[qO,zAs];rfl
end Go.Pl

namespace Go.Pl
open Go Go.Ab Go.Wk Go.Pc
end Go.Pl

namespace Go.Pl
open Go Go.Ab Go.Wk Go.Pc
theorem zDv{α:Type}{v:List α}{a:Nat}(k:a≤v.length):zQ v (a:Int) (v.length:Int)=jq (v.drop a):=by rw[zEL k (J7 _),Jg (by rw[Km];omega)]
end Go.Pl

namespace Go.Pl
open Go Go.Ab Go.Wk Go.Pc
theorem zYj{p:Int}(hp:Prime p){n:Nat}(hn:n≤100000){R:Mx}{pv:Nat→Nat}(h:Red p n R pv){v:List Int}(hv:Row p n v):Sp p n R (mkv n fun j=>at0 (cl p n R pv v R.length) j-at0 v j):=by
 obtain⟨cf,fE⟩:=zOb hp hn h hv R.length (J7 _);refine⟨cf,fun j hj=>?_⟩;rw[yD hj,Gz,fE j hj,←Gz]
 congr 1
 omega
end Go.Pl

namespace Go.Pl
open Go Go.Ab Go.Wk Go.Pc
end Go.Pl

namespace Go.Pl
open Go Go.Ab Go.Wk Go.Pc
end Go.Pl

namespace Go.Pl
open Go Go.Ab Go.Wk Go.Pc
end Go.Pl

namespace Go.Pl
open Go Go.Ab Go.Wk Go.Pc
end Go.Pl

namespace Go.Pl
open Go Go.Ab Go.Wk Go.Pc
end Go.Pl

namespace Go.Pl
open Go Go.Ab Go.Wk Go.Pc
end Go.Pl

namespace Go.Pl
open Go Go.Ab Go.Wk Go.Pc
end Go.Pl

namespace Go.Pl
open Go Go.Ab Go.Wk Go.Pc
end Go.Pl

namespace Go.Pl
open Go Go.Ab Go.Wk Go.Pc
theorem zPv{p:Int}{D:Nat}{U:Mx}{pv:Nat→Nat}(hU:Red p D U pv):(xI D U.length pv).length+U.length=D:=by
 have key:∀c,c≤D→ ∃t,t≤U.length∧(∀i,i<t→pv i<c)∧(∀i,t≤i→i<U.length→c≤pv i)∧(xI c U.length pv).length+t=c:=by
  intro c
  induction c with
  |zero=>intro _;exact⟨0,by omega,fun i hi=>by omega,fun i _ _=>by omega,rfl⟩
  |succ c ih=>
   intro hc;obtain⟨t,t1,t2,t3,t4⟩:=ih (by omega);have e:xI (c+1) U.length pv=xI c U.length pv++if(Ju U.length).all (fun i=>pv i != c)then[c]else[]:=by
    simp only[xI,L9,List.filter_append]
    congr 1
    by_cases g:(Ju U.length).all (fun i=>pv i != c)
    ·simp[g]
    ·simp[g]
   by_cases g:t<U.length∧pv t=c
   ·have g2:(Ju U.length).all (fun i=>pv i != c)=jt:=by
     rw[Qq];exact⟨t,K5.2 g.1,by simp[g.2]⟩
    refine⟨t+1,by omega,fun i hi=>?_,fun i hi er=>?_,?_⟩
    ·by_cases e:i=t
     ·subst e;omega
     ·have:=t2 i (by omega);omega
    ·have:=hU.mono t i (by omega) er;omega
    ·rw[e,g2];simp;omega
   ·have g2:(Ju U.length).all (fun i=>pv i != c)=js:=by
     rw[Jr];intro i hi;have hi:=K5.1 hi;simp only[bne_iff_ne];intro e2;rcases Jf i t with q|q
     ·have:=t2 i q;omega
     ·by_cases e3:i=t
      ·subst e3;exact g ⟨hi,e2⟩
      ·have a:=hU.mono t i (by omega) hi
       have b:=t3 t (J7 _) (by omega);omega
    refine⟨t,t1,fun i hi=>by have:=t2 i hi;omega,fun i hi er=>?_,?_⟩
    ·have a:=t3 i hi er
     have b:pv i≠c:=by have:=(Jr.1 g2) i (K5.2 er);simpa using this
     omega
    ·rw[e,g2];simp;omega
 obtain⟨t,t1,t2,t3,t4⟩:=key D (J7 _);have:t=U.length:=by
  rcases Jf t U.length with g|g
  ·have a:=t3 t (J7 _) g
   have b:=hU.lt t g;omega
  ·omega
 omega
theorem zU9{D N a i:Nat}{pv:Nat→Nat}(ha:a<(xI D N pv).length)(hi:i<N):pv i≠(xI D N pv).getD a 0:=by
 have hm:(xI D N pv).getD a 0∈xI D N pv:=by rw[J2,J4 ha];exact Jt ha
 have:=(Jap.1 hm).2;have:=(Jr.1 this) i (K5.2 hi);simpa using this
theorem zUA{D N a b:Nat}{pv:Nat→Nat}(ha:a<(xI D N pv).length)(hb:b<(xI D N pv).length)(e:(xI D N pv).getD a 0=(xI D N pv).getD b 0):a=b:=by
 have hn:(xI D N pv).Nodup:=List.Nodup.sublist List.filter_sublist Qw;rw[J2,J4 ha,J2,J4 hb]at e;have e:(xI D N pv)[a]=(xI D N pv)[b]:=e;have hw:=List.pairwise_iff_getElem.1 hn;rcases H4 a b with g|g|g
 ·exact absurd e (hw a b ha hb g)
 ·exact g
 ·exact absurd e.symm (hw b a hb ha g)
section
variable {p:Int} (hp:Prime p) {D:Nat} (hD:D≤100000) {U:Mx}{pv:Nat→Nat} (hU:Red p D U pv)
 include hp hD hU
theorem zUB{v:List Int}(hv:Row p D v)(hz:∀i,i<U.length→at0 v (pv i)=0):cl p D U pv v U.length=v:=by
 have ha:=zDU hp hD hU hv U.length;have za:=zRA hp hD hU hv U.length (J7 _);have hx:=hU.expand (zYj hp hD hU hv);rw[tM ha.1]
 conv=>rhs;rw[tM hv.1]
 refine yV fun j hj=>?_
 have e:=hx j hj;rw[vU (g:=fun _=>0) (fun i hi=>by rw[yD (hU.lt i hi),za i hi,hz i hi];simp),zA8,yD hj,G9]at e;have e2:=Int.emod_eq_emod_iff_emod_sub_eq_zero.2 e;rw[tV (ha.2 j hj),tV (hv.2 j hj)]at e2;exact e2
end
section
variable {x:SPr}{m:yS}{D:Nat}{U:Mx}{pv:Nat→Nat} (hU:Red m.Prime D U pv)
def pim(p:Int)(D:Nat)(U:Mx)(pv:Nat→Nat)(v:List Int):List Int:=mkv (xI D U.length pv).length fun b=>at0 (cl p D U pv v U.length) ((xI D U.length pv).getD b 0)
 include hU
end
end Go.Pl

namespace Go.Pl
open Go Go.Ab Go.Wk Go.Pc
end Go.Pl

namespace Go.Pl
open Go Go.Ab Go.Wk Go.Pc
end Go.Pl

namespace Go.Pl
open Go Go.Ab Go.Wk Go.Pc
theorem zRW{p:Int}(hp:2≤p){N:Nat}:Red p N (gl N (ur N)) (fun i=>i):=by
 have cD:(gl N (ur N)).length=N:=yK;have pj:∀i j,i<N→j<N→ent (gl N (ur N)) i j=if j=i then 1 else 0:=fun i j hi hj=>by rw[ent,vO hi,ur,yD hj]
 refine⟨fun i hi=>?_,fun i hi=>by omega,fun i hi=>?_,fun i hi j hj=>?_,by grind,fun i j ea hj=>ea⟩
 ·rw[cD]at hi
  rw[vO hi];refine⟨yG _ _,fun j hj=>?_⟩
  grind
 all_goals grind
end Go.Pl

namespace Go.Pl
open Go Go.Ab Go.Wk Go.Pc
end Go.Pl

namespace Go.Pl
open Go Go.Ab Go.Wk Go.Pc
end Go.Pl

namespace Go.Pl
open Go Go.Ab Go.Wk Go.Pc
end Go.Pl

namespace Go.Pl
open Go Go.Ab Go.Wk Go.Pc
end Go.Pl

namespace Go.Pl
open Go Go.Ab Go.Wk Go.Pc
end Go.Pl

namespace Go.Pl
open Go Go.Ab Go.Wk Go.Pc
end Go.Pl

namespace Go.Pl
open Go Go.Ab Go.Wk Go.Pc
end Go.Pl

namespace Go.Pl
open Go Go.Ab Go.Wk Go.Pc
end Go.Pl

namespace Go.Pl
open Go Go.Ab Go.Wk Go.Pc
end Go.Pl

namespace Go.Pl
open Go Go.Ab Go.Wk Go.Pc
end Go.Pl

namespace Go.Pl
open Go Go.Ab Go.Wk Go.Pc
end Go.Pl

namespace Go.Pl
open Go Go.Ab Go.Wk Go.Pc
end Go.Pl

namespace Go.Pl
open Go Go.Ab Go.Wk Go.Pc
end Go.Pl

namespace Go.Pl
open Go Go.Ab Go.Wk Go.Pc
def E0:SPr:=⟨[],[],[]⟩
theorem zGe:Pres E0:=⟨⟨by simp[E0],fun i hi=>by simp[E0]at hi⟩,rfl,rfl,fun i hi=>by simp[E0]at hi⟩
def elx(p:Int)(D:Nat):SPr:=exx D E0 (zCt p D 0) []
theorem sW{p:Int}{D:Nat}{u v:List Int}(hu:Row p D u)(hv:Row p D v)(h:∀i,i<D→at0 u i=at0 v i):u=v:=by apply Qz (hu.1.trans hv.1.symm);intro i h1 h2;have:=h i (hu.1▸h1);simpa[at0,J2,h1,h2]using this
theorem zOj{α:Type}{C:Nat→Option α}{F:Nat→α}:∀(l:List Nat),(∀k∈l,C k=jq (F k))→l.filterMap C=l.map F
 | [],_=>rfl
 |k::l,h=>by rw[Lf,h k (by simp),Jm,zOj l fun j hj=>h j (by simp[hj])]
section
variable {p:Int}{D:Nat} (hp:Prime p) (hD:D≤14)
 include hp hD
theorem zOl:ExB E0.zA.length D E0 (zCt p D 0) []:=
 ⟨by simp[E0],rfl,rfl,rfl,fun i hi=>by simp[E0]at hi,rfl,⟨hp,by omega,rfl,fun i hi=>by simp[E0]at hi⟩⟩
theorem zAl:(elx p D).zA.length=D:=by have:=qH zGe (zOl hp hD) (fun i hi=>by simp at hi);simpa[E0,elx]using this
theorem tB:Pres (elx p D):=(zFZ zGe (zOl hp hD) (fun i hi=>by simp at hi)).p (by rw[show(exx D E0 (zCt p D 0) [])=elx p D from rfl,zAl hp hD];omega)
theorem zJ9:suf (elx p D) 0=tlv p D:=zCj zGe (zOl hp hD) (fun i hi=>by simp at hi) D 0 (by simp[E0]) (by simp[E0])
theorem tC:uZ (suf (elx p D) 0):=(zU2 zGe (zOl hp hD) (fun i hi=>by simp at hi) (fun i hi=>by simp[E0]at hi)).2 fun i hi=>by simp[E0]at hi
theorem sX{v:Vec}:V (suf (elx p D) 0) v↔Row p D v:=by rw[zJ9 hp hD];exact zHi D v
theorem jQ{u v:Vec}(hu:Row p D u)(hv:Row p D v):mul (suf (elx p D) 0) u v=adv p D u v:=by rw[zJ9 hp hD];exact zAu hp.pos.1 D u v hu hv
theorem zFq:elx p D=trv (J1 D p):=by
 have _:=hp;have _:=hD;unfold elx exx ext trv;simp only[E0,Jy,Li,Jc,Jl,zCt]
 congr 1
 ·exact vX fun i hi=>by simp[exP]
 ·exact vX fun i hi=>by simp[exC,unC]
theorem zPw{L:Vec→Prop}{C:Nat→Option Vec}(hC:zMB (elx p D) L C)(hu:∀j,j<D→L (zX D j)):tN C 0 D=gl D (zX D):=by
 have h2:=hp.pos.1;have hl:=zAl hp hD;have hz:zeros (suf (elx p D) 0).length=zeros D:=by rw[zJ9 hp hD,zDr]
 have hs:∀k,k<D→(C k).isSome=js:=fun k hk=>by
  obtain⟨j,j1,j2,j3,j4⟩:=hC.d (x:=zX D k) (.x (hu k hk)) (by rw[hz];intro e;have:=congrArg (fun v=>at0 v k) e;simp only[zX,yD hk,if_pos,vE]at this;omega)
  rw[hl]at j1;simp only[zX,yD j1]at j4
  by_cases e:j=k
  ·rw[←e];exact j2
  ·rw[if_neg e]at j4;exact absurd rfl j4
 have hc:∀k,k<D→C k=jq (zX D k):=fun k hk=>by
  obtain⟨t,ht⟩:=Ui.1 (hs k hk);obtain⟨a1,a2,a3,a4,a5,a6⟩:=hC.i ht;rw[hl]at a6;have hr:=(sX hp hD).1 a3;rw[ht]
  congr 1
  refine sW hr (xW h2) fun i hi=>?_
  simp only[zX,yD hi];split
  ·rename_i e;rw[e];exact a5
  ·rename_i e
   rcases Jf i k with h|h
   ·exact a4 i h
   ·exact a6 i (by omega) hi (hs i hi)
 unfold tN;rw[←List.range_eq_range',zOj _ fun k hk=>hc k (K5.1 hk)]
end
end Go.Pl

namespace Go.Pl
open Go Go.Ab Go.Wk Go.Pc
section
variable {p:Int}{D:Nat} (hp:Prime p) (hD:D≤14)
 include hp hD
theorem zRX:zeros (suf (elx p D) 0).length=zeros D:=by rw[zJ9 hp hD,zDr]
theorem zOm{c:Vec}(hc:Row p D c):∀(k:Nat)(acc:Vec),Row p D acc→iter k (fun v=>mul (suf (elx p D) 0) v c) acc=iter k (fun v=>adv p D v c) acc
 |0,_,_=>rfl
 |k+1,acc,ha=>by have h2:=hp.pos.1;simp only[iter];rw[jQ hp hD ha hc,zOm hc k _ (sU (by omega))]
theorem zLj{c:Vec}(hc:Row p D c)(n:Nat):pw (mul (suf (elx p D) 0)) (zeros (suf (elx p D) 0).length) c n=mkv D fun j=>((n:Int)*at0 c j)%p:=by have h2:=hp.pos.1;unfold pw;rw[zRX hp hD,zOm hp hD hc n _ (wV (by omega)),zEH (by omega) n _ (wV (by omega))];exact yV fun j hj=>by rw[vE,Jz]
theorem zOn{s r w:Vec}{i:Nat}(_hi:i<D)(hs:Row p D s)(hr:∀j,j<D→at0 r j=if j=i then at0 s i else 0)(hw:Row p D w)(h:mul (suf (elx p D) 0) r w=zeros (suf (elx p D) 0).length)(hR:Row p D r):
  mul (suf (elx p D) 0) w s=mkv D fun j=>if j=i then 0 else at0 s j:=by
 have h2:=hp.pos.1;rw[jQ hp hD hw hs];rw[jQ hp hD hR hw,zRX hp hD]at h;refine yV fun j hj=>?_
 have e:=congrArg (fun v=>at0 v j) h;simp only[adv,yD hj,vE,hr j hj]at e;have b1:=hw.2 j hj;have b2:=hs.2 j hj;split at e<;>rename_i aO
 ·subst aO
  rw[if_pos rfl,Jas];exact e
 ·rw[if_neg aO]
  rw[Jz,Jb b1.1 (by omega)]at e;rw[e,Jz,Jb b2.1 (by omega)]
theorem sY(i:Nat):Row p D (zX D i):=by have _:=hD;exact xW hp.pos.1
theorem qQ{i j:Nat}(hj:j<D):at0 (zX D i) j=if j=i then 1 else 0:=by have _:=hp;have _:=hD;rw[zX,yD hj]
theorem zUC{s:Vec}(hs:Row p D s){i:Nat}(hi:i<D):∃u,Row p D u∧zFs (elx p D) (zX D i) (0-at0 s i)=jq u∧mul (suf (elx p D) 0) u s=mkv D fun j=>if j=i then 0 else at0 s j:=by
 have h2:=hp.pos;have hP:=tB hp hD;have hC:=tC hp hD;have hU:=sY hp hD i;have b:=hs.2 i hi;rcases Int.lt_or_le 0 (at0 s i)with h0|h0
 ·obtain⟨u,u1,u2,u3⟩:=zWJ hP hC ((sX hp hD).2 hU) h0 (by omega)
  have u1':=(sX hp hD).1 u1;rw[zLj hp hD u1']at u3;rw[jQ hp hD hU u1',zRX hp hD]at u2;have hR:Row p D (mkv D fun j=>(((at0 s i).toNat:Nat):Int)*at0 u j%p):=⟨yG _ _,fun j hj=>by rw[yD hj];have:=Kq ((((at0 s i).toNat:Nat):Int)*at0 u j) (b:=p) (by omega);have:=Kh ((((at0 s i).toNat:Nat):Int)*at0 u j) (b:=p) (by omega);omega⟩
  refine⟨_,hR,by rw[show(0:Int)-at0 s i= -at0 s i from by omega];exact u3,?_⟩;refine zOn hp hD (r:=mkv D fun j=>if j=i then at0 s i else 0) hi hs (fun j hj=>yD hj) hR ?_ ⟨yG _ _,fun j hj=>by rw[yD hj];split<;>omega⟩;rw[jQ hp hD ⟨yG _ _,fun j hj=>by rw[yD hj];split<;>omega⟩ hR,zRX hp hD];refine sW (sU (by omega)) (wV (by omega)) fun j hj=>?_
  have e:=congrArg (fun v=>at0 v j) u2;simp only[adv,yD hj,vE,qQ hp hD hj]at e ⊢
  rw[show(((at0 s i).toNat:Nat):Int)=at0 s i from by omega,Jv,Ld _ (G6 p),←Jv];split at e<;>rename_i aO
  ·rw[if_pos aO,show at0 s i+at0 s i*at0 u j=at0 s i*(1+at0 u j)from by rw[Int.mul_add,Kf],Jq,e,L3,G9]
  ·rw[if_neg aO]
   rw[Jz]at e ⊢
   rw[Jq,e,L3,G9]
 ·have hz:at0 s i=0:=by omega
  refine⟨_,?_,by rw[hz];exact zOi hP hC ((sX hp hD).2 hU) (by omega) (by omega),?_⟩
  ·rw[zLj hp hD hU]
   exact⟨yG _ _,fun j hj=>by rw[yD hj];simp;omega⟩
  ·have e0:pw (mul (suf (elx p D) 0)) (zeros (suf (elx p D) 0).length) (zX D i) ((0:Int)-0).toNat=zeros D:=by
    rw[zLj hp hD hU];refine sW ⟨yG _ _,fun j hj=>by rw[yD hj];simp;omega⟩ (wV (p:=p) (by omega)) fun j hj=>?_
    rw[yD hj,vE];simp
   rw[e0,jQ hp hD (wV (by omega)) hs,zHj hs];refine sW hs ⟨yG _ _,fun j hj=>by rw[yD hj];have:=hs.2 j hj;split<;>omega⟩ fun j hj=>?_
   rw[yD hj];split
   ·rename_i e;rw[e,hz]
   ·rfl
def zD1(D:Nat)(v:List Int)(i:Nat):List Int:=mkv D fun j=>if j<i then 0 else at0 v j
theorem zCW{v:List Int}(hv:Row p D v)(i:Nat):Row p D (zD1 D v i):=by have _:=hD;have h2:=hp.pos;exact⟨yG _ _,fun j hj=>by unfold zD1;rw[yD hj];have:=hv.2 j hj;split<;>omega⟩
theorem zIA{v:List Int}(hv:Row p D v):zD1 D v 0=v:=by
 refine sW (zCW hp hD hv 0) hv fun j hj=>?_
 unfold zD1;rw[yD hj,if_neg (by omega)]
theorem zIB{v:List Int}{i:Nat}(hi:i<D):(mkv D fun j=>if j=i then 0 else at0 (zD1 D v i) j)=zD1 D v (i+1):=by
 have _:=hp;have _:=hD;have _:=hi;refine yV fun j hj=>?_
 unfold zD1;rw[yD hj]
 by_cases e:j=i
 ·rw[if_pos e,if_pos (by omega)]
 ·rw[if_neg e]
  by_cases l:j<i
  ·rw[if_pos l,if_pos (by omega)]
  ·rw[if_neg l,if_neg (by omega)]
theorem zGf{v:List Int}{i:Nat}(hi:i<D):at0 (zD1 D v i) i=at0 v i:=by have _:=hp;have _:=hD;unfold zD1;rw[yD hi,if_neg (by omega)]
theorem zGg{v:List Int}{i:Nat}(hv:Row p D v)(hi:i<D):v.take i++[at0 v i]=v.take (i+1):=by have _:=hp;have _:=hD;rw[Kw,at0,J2,J4 (by rw[hv.1];exact hi)];rfl
theorem zJA{v:List Int}(hv:Row p D v):zQh (elx p D) (gl D (zX D)) v=jq v:=by
 have h2:=hp.pos;unfold zQh;have:=zU (body:=zLK (elx p D) (gl D (zX D))) (r:=v) (fun i=>(zD1 D v i,v.take i,(i:Int))) D (fun i hi=>by
  have hc:=zCW hp hD hv i;obtain⟨u,u1,u2,u3⟩:=zUC hp hD hc hi;rw[zGf hp hD hi]at u2;rw[zIB hp hD hi]at u3;have b:=hv.2 i hi;unfold zLK zT3;simp only
  rw[yK,xH hi,zJ,uD hi,bs,zDo (v:=zX D i) (n:=D) (k:=i) (sY hp hD i).1 (by omega) hi (fun j hj=>by rw[qQ hp hD (by omega),if_neg (by omega)]) (by rw[qQ hp hD hi,if_pos rfl];omega),bs,bs,xV (by rw[hc.1];exact hi),bs,zGf hp hD hi,
   zT (by have:=hv.1;simp;omega),bs,bs,zH (by omega) (by omega),bs,u2,bs,zCU (tB hp hD) (tC hp hD) ((sX hp hD).2 u1) ((sX hp hD).2 hc),bs,zH (by omega) (by omega),bs,u3,zGg hp hD hv hi]
  rfl) (by
  unfold zLK;simp only
  rw[yK,wW,zK,Jg (by rw[hv.1];omega)])
 rw[zIA hp hD hv]at this;rw[show((0:Nat):Int)=0 from rfl,Kv]at this;rw[this,bs]
theorem zRY:(elx p D).zA=J1 D p:=by rw[zFq hp hD];rfl
theorem zBR{i:Nat}(hi:i<D):ixO (elx p D).zA (i:Int)=jq p:=by rw[zRY hp hD,uR (by simpa using hi)];simp
theorem zPx:zWa (elx p D) (gl D (zX D))=jq (J1 D p):=by
 have h2:=hp.pos;unfold zWa;have key:zC (zLL (elx p D) (gl D (zX D))) ([],0)=jq (J1 D p):=zU (fun i=>(J1 i p,(i:Int))) D (fun i hi=>by
  unfold zLL zT3;simp only
  rw[yK,xH hi,zJ,uD hi,bs,zDo (v:=zX D i) (n:=D) (k:=i) (sY hp hD i).1 (by omega) hi (fun j hj=>by rw[qQ hp hD (by omega),if_neg (by omega)]) (by rw[qQ hp hD hi,if_pos rfl];omega),bs,bs,zBR hp hD hi,bs,
   zT (by simp;omega),bs,zH (by omega) (by omega),bs,←Hb]
  rfl) (by
  unfold zLL;simp only
  rw[yK,wW,zK])
 rw[key,bs]
theorem zOo(i:Nat):pw (mul (suf (elx p D) 0)) (zeros (suf (elx p D) 0).length) (zX D i) p.toNat=zeros D:=by
 have h2:=hp.pos;rw[zLj hp hD (sY hp hD i)];refine sW (p:=p) ⟨yG _ _,fun j hj=>by rw[yD hj,show((p.toNat:Nat):Int)=p from by omega,Gm];omega⟩ (wV (by omega)) fun j hj=>?_
 rw[yD hj,show((p.toNat:Nat):Int)=p from by omega,Gm,vE]
theorem zOp{a b:Vec}(ha:Row p D a)(hb:Row p D b):zMU (elx p D) a b=jq a∧zSJ (elx p D) a b=jq a:=by obtain⟨c,c1,c2,c3,c4⟩:=yA5 (tB hp hD) (tC hp hD) ((sX hp hD).2 ha) ((sX hp hD).2 hb);have hc:=(sX hp hD).1 c1;rw[jQ hp hD hb hc,jQ hp hD ha hb,zBQ (u:=a)]at c2;rw[(zUy hc ha).1 c2]at c3 c4;exact⟨c3,c4⟩
theorem zYk:zWb (elx p D) (gl D (zX D))=jq (elx p D):=by
 have h2:=hp.pos;have hz:Row p D (zeros D):=wV (by omega);unfold zWb;rw[zPx hp hD,bs];have gR:∀(i:Nat)(a:Mx)(b:List Mx),i<D→zC (zLM (elx p D) (gl D (zX D)) (a,b,(i:Int))) ([],((i+1:Nat):Int))=jq (gl (D-1-i) fun j=>zX D (i+1+j)):=fun i a b hi=>by
  refine zU (fun j=>(gl j fun j=>zX D (i+1+j),((i+1+j:Nat):Int))) (D-1-i) (fun j hj=>?_) ?_
  ·unfold zLM
   simp only
   rw[yK,xH (by omega),zJ,uD (by omega),bs,uD hi,bs,(zOp hp hD (sY hp hD _) (sY hp hD _)).2,bs,zJA hp hD (sY hp hD _),bs,zT (by rw[yK];simp;omega),bs,zH (by omega) (by omega),bs,vN];rfl
  ·unfold zLM
   simp only
   rw[yK,show i+1+(D-1-i)=D from by omega,wW,zK]
 have key:zC (zLN (elx p D) (gl D (zX D)) (J1 D p)) ([],[],0)=jq (gl D fun _=>zeros D,gl D fun i=>gl (D-1-i) fun j=>zX D (i+1+j)):=zU
  (fun i=>(gl i fun _=>zeros D,gl i fun i=>gl (D-1-i) fun j=>zX D (i+1+j),(i:Int))) D (fun i hi=>by
  unfold zLN;simp only
  rw[yK,xH hi,zJ,uD hi,bs,uR (by simpa using hi),bs,G3,zOi (tB hp hD) (tC hp hD) ((sX hp hD).2 (sY hp hD i)) (by omega) (by omega),bs,zOo hp hD i,zJA hp hD hz,bs,
   zT (by rw[yK];simp;omega),bs,vN,zH (by omega) (by omega),bs]
  have:=gR i (gl i fun _=>zeros D) (gl i fun i=>gl (D-1-i) fun j=>zX D (i+1+j)) hi;rw[show((i+1:Nat):Int)=(i:Int)+1 from rfl]at this;rw[this,bs,zT (by rw[yK];simp;omega),bs,bs,vN];rfl) (by
  unfold zLN;simp only
  rw[yK,wW,zK])
 rw[key,bs];rw[zFq hp hD,trv];simp only[Jl];rfl
end
end Go.Pl

namespace Go.Pl
open Go Go.Ab Go.Wk Go.Pc
section
variable {p:Int}{D:Nat} (hp:Prime p) (hD:D≤14)
 include hp hD
theorem zYl:Red p D (gl D (zX D)) (fun i=>i):=by have _:=hD;exact zRW hp.pos.1
theorem zRZ:f_D (gl D (zX D))=jq (gl D fun i=>(i:Int)):=by
 have:=zCR hp (n:=D) (by omega) (zYl hp hD) (by rw[yK];omega)
 rwa [yK]at this
theorem zUD{s:Vec}(hs:Row p D s){i:Nat}(hi:i<D):∃r w,Row p D r∧Row p D w∧f_U (elx p D) (zX D i) (at0 s i)=jq r∧f_G (elx p D) r=jq w∧mul (suf (elx p D) 0) w s=mkv D fun j=>if j=i then 0 else at0 s j:=by
 have h2:=hp.pos;have hP:=tB hp hD;have hC:=tC hp hD;have hU:=sY hp hD i;have b:=hs.2 i hi;have hr:∀j,j<D→at0 (mkv D fun j=>(((at0 s i).toNat:Nat):Int)*at0 (zX D i) j%p) j=if j=i then at0 s i else 0:=fun j hj=>by
  rw[yD hj,qQ hp hD hj,show(((at0 s i).toNat:Nat):Int)=at0 s i from by omega];split
  ·rw[Kf,Jb b.1 (by omega)]
  ·rw[L3,G9]
 have hR:Row p D (mkv D fun j=>(((at0 s i).toNat:Nat):Int)*at0 (zX D i) j%p):=⟨yG _ _,fun j hj=>by rw[hr j hj];split<;>omega⟩
 have e1:=zRM hP hC ((sX hp hD).2 hU) b.1 (by omega:at0 s i≤1000);rw[zLj hp hD hU]at e1;obtain⟨w,w1,w2,w3⟩:=zBv hP (k:=0) (by omega) hC ((sX hp hD).2 hR);rw[fv0,fv0]at w3;exact⟨_,w,hR,(sX hp hD).1 w1,e1,w3,zOn hp hD hi hs hr ((sX hp hD).1 w1) w2 hR⟩
theorem zMI{v:List Int}(hv:Row p D v):zNn (elx p D) (gl D (zX D)) v=jq (v,js):=by
 have h2:=hp.pos;unfold zNn;rw[zRZ hp hD,bs];have key:zC (zIJ (elx p D) (gl D (zX D)) (gl D fun i=>(i:Int))) (v,[],0)=jq (zD1 D v D,v):=by
  have:=zU (body:=zIJ (elx p D) (gl D (zX D)) (gl D fun i=>(i:Int))) (r:=(zD1 D v D,v)) (fun i=>(zD1 D v i,v.take i,(i:Int))) D (fun i hi=>by
   have hc:=zCW hp hD hv i;obtain⟨r,w,r1,w1,e1,e2,e3⟩:=zUD hp hD hc hi;rw[zGf hp hD hi]at e1;rw[zIB hp hD hi]at e3;have b:=hv.2 i hi;unfold zIJ;simp only
   rw[yK,xH hi,zJ,uD hi,bs,xV (by rw[hc.1];exact hi),bs,zGf hp hD hi,zT (by have:=hv.1;simp;omega),bs,uD hi,bs,e1,bs,e2,bs,
    zU3 (tB hp hD) (tC hp hD) ((sX hp hD).2 w1) ((sX hp hD).2 hc),bs,zH (by omega) (by omega),bs,e3,zGg hp hD hv hi]
   rfl) (by
   unfold zIJ;simp only
   rw[yK,wW,zK,Jg (by rw[hv.1];omega)])
  rw[zIA hp hD hv]at this;exact this
 rw[key,bs];simp only
 have hz:zPE (zD1 D v D)=jq js:=by
  rcases zKK (v:=zD1 D v D) (by rw[(zCW hp hD hv D).1];exact hD)with⟨h,_⟩|⟨_,h⟩
  ·exact h
  ·exact absurd (fun i hi=>by rw[(zCW hp hD hv D).1]at hi;unfold zD1;rw[yD hi,if_pos hi]) h
 rw[hz,bs]
theorem zUE:f_P (elx p D) (gl D (zX D))=jq (elx p D):=by
 have h2:=hp.pos;have hz:Row p D (zeros D):=wV (by omega);unfold f_P;rw[zRZ hp hD,bs];have aU:∀i,i<D→(gl D (zX D)).drop (i+1)=gl (D-1-i) fun j=>zX D (i+1+j):=fun i hi=>by
  apply Qz
  ·simp[gl];omega
  ·intro a b c
   simp[gl]
 have gR:∀i:Nat,i<D→zC (zTo (elx p D) (gl D (zX D)) (zX D i) (gl (D-1-i) fun j=>zX D (i+1+j))) ([],0)=jq (gl (D-1-i) fun j=>zX D (i+1+j)):=fun i hi=>by
  refine zU (fun j=>(gl j fun j=>zX D (i+1+j),(j:Int))) (D-1-i) (fun j hj=>?_) ?_
  ·unfold zTo
   simp only
   rw[yK,xH hj,zJ,uD hj,bs,(zOp hp hD (sY hp hD _) (sY hp hD _)).1,bs,zMI hp hD (sY hp hD _),bs,zT (by rw[yK];simp;omega),bs,zH (by omega) (by omega),bs,vN];rfl
  ·unfold zTo
   simp only
   rw[yK,wW,zK]
 have key:zC (zTp (elx p D) (gl D (zX D)) (gl D fun i=>(i:Int))) ([],[],[],0)=jq (J1 D p,gl D fun _=>zeros D,gl D fun i=>gl (D-1-i) fun j=>zX D (i+1+j)):=zU
  (fun i=>(J1 i p,gl i fun _=>zeros D,gl i fun i=>gl (D-1-i) fun j=>zX D (i+1+j),(i:Int))) D (fun i hi=>by
  unfold zTp;simp only
  rw[yK,xH hi,zJ,uD hi,bs,uD hi,bs,zBR hp hD hi,bs,zT (by simp;omega),bs,zRM (tB hp hD) (tC hp hD) ((sX hp hD).2 (sY hp hD i)) (by omega) (by omega),bs,zOo hp hD i,zMI hp hD hz,bs,
   zT (by rw[yK];simp;omega),bs,vN,zH (by omega) (by omega),bs]
  have hs:zQ (gl D (zX D)) ((i:Int)+1) ((D:Nat):Int)=jq (gl (D-1-i) fun j=>zX D (i+1+j)):=by
   rw[←aU i hi];have:=zDv (v:=gl D (zX D)) (a:=i+1) (by rw[yK];omega)
   rwa [yK]at this
  rw[hs,bs,gR i hi,bs,zT (by rw[yK];simp;omega),bs,vN,←Hb];rfl) (by
  unfold zTp;simp only
  rw[yK,wW,zK])
 rw[key,bs];rw[zFq hp hD,trv];simp only[Jl];rfl
end
end Go.Pl

namespace Go.Pl
open Go Go.Ab Go.Wk Go.Pc
def sg(a:Int):Int:=if a<0 then -1 else 1
def ixa(a:Int):Nat:=a.natAbs-1
def zAm(f:Nat→Int):List Int→Int
 | []=>0
 |a::w=>sg a*f (ixa a)+zAm f w
theorem zEM(f:Nat→Int):∀(u v:List Int),zAm f (u++v)=zAm f u+zAm f v
 | [],v=>by simp[zAm]
 |a::u,v=>by rw[G5,zAm,zAm,zEM f u v,Jbp]
def Wd(N:Nat)(w:List Int):Prop:=w.length≤64∧ ∀a∈w,a≠0∧ -(N:Int)≤a∧a≤(N:Int)
def evw(p:Int)(D:Nat)(M:Mx)(w:List Int):List Int:=mkv D fun j=>zAm (fun k=>at0 (M.getD k []) j) w%p
section
variable {p:Int}{D:Nat} (hp:Prime p) (hD:D≤14)
 include hp hD
theorem zGh(M:Mx)(w:List Int):Row p D (evw p D M w):=by have h2:=hp.pos;have _:=hD;refine⟨yG _ _,fun j hj=>?_⟩;unfold evw;rw[yD hj];have:=Kq (zAm (fun k=>at0 (M.getD k []) j) w) (b:=p) (by omega);have:=Kh (zAm (fun k=>at0 (M.getD k []) j) w) (b:=p) (by omega);omega
theorem zOq{M:Mx}{w:List Int}{a:Int}{v:List Int}(ha:0<a)(hv:M.getD (ixa a) []=v):adv p D (evw p D M w) v=evw p D M (w++[a]):=by
 have _:=hp;have _:=hD;refine yV fun j hj=>?_
 unfold evw;rw[yD hj,zEM];simp only[zAm,sg,if_neg (show¬a<0 from by omega),hv];rw[Hj,Kd,Jv,Ld _ (G6 p),←Jv]
theorem zOr{M:Mx}{w:List Int}{a:Int}{v u:List Int}(ha:a<0)(hv:M.getD (ixa a) []=v)(hr:Row p D v)(hu:Row p D u)(h:mul (suf (elx p D) 0) v u=zeros (suf (elx p D) 0).length):
  adv p D (evw p D M w) u=evw p D M (w++[a]):=by
 rw[jQ hp hD hr hu,zRX hp hD]at h;refine yV fun j hj=>?_
 have e:=congrArg (fun v=>at0 v j) h;simp only[adv,yD hj,vE]at e;unfold evw;rw[yD hj,zEM];simp only[zAm,sg,if_pos ha,hv];rw[Kd];have e2:(zAm (fun k=>at0 (M.getD k []) j) w+ -1*at0 v j)%p=(zAm (fun k=>at0 (M.getD k []) j) w+ -1*at0 v j+(at0 v j+at0 u j))%p:=by rw[Jv (_+_) (at0 v j+at0 u j),e,Kd,Ld _ (G6 p)]
 rw[e2,Jv,Ld _ (G6 p),←Jv]
 congr 1
 omega
theorem zOs{M:Mx}:evw p D M []=zeros D:=by
 have h2:=hp.pos;refine sW (zGh hp hD M []) (wV (by omega)) fun j hj=>?_
 unfold evw;rw[yD hj,vE];simp[zAm]
theorem zDw{w:List Int}{i:Nat}(hi:i<w.length):w.take (i+1)=w.take i++[at0 w i]:=by have _:=hp;have _:=hD;rw[Kw,at0,J2,J4 hi];rfl
theorem zUF{M:Mx}{w:List Int}(hM:∀k,k<M.length→Row p D (M.getD k []))(hw:Wd M.length w)(hl:M.length≤1000):zVU (elx p D) w M=jq (evw p D M w):=by
 have h2:=hp.pos;obtain⟨hw1,pt⟩:=hw;unfold zVU;rw[zAl hp hD,xJ (by omega),bs];have key:zC (zII (elx p D) w M) (J1 D 0,0)=jq (evw p D M w):=by
  have:=zU (body:=zII (elx p D) w M) (r:=evw p D M w) (fun i=>(evw p D M (w.take i),(i:Int))) w.length (fun i hi=>by
   have hm:at0 w i∈w:=by rw[at0,J2,J4 hi];exact Jt hi
   obtain⟨a1,a2,a3⟩:=pt _ hm;have hx:ixa (at0 w i)<M.length:=by unfold ixa;omega
   have hR:=hM _ hx;have hE:=zGh hp hD M (w.take i);unfold zII zTn;simp only
   rw[xH hi,zJ,xV hi,bs,zH (by omega) (by omega),bs,bs,zH (by omega) (by omega),bs,show max (at0 w i) (0-at0 w i)-1=((ixa (at0 w i):Nat):Int)from by unfold ixa;omega,yO [] hx,bs]
   by_cases hn:at0 w i<0
   ·obtain⟨u,u1,u2,u3⟩:=zBv (tB hp hD) (k:=0) (by omega) (tC hp hD) ((sX hp hD).2 hR)
    rw[fv0,fv0]at u3;rw[jw hn,zJ,u3,bs,tv0 (tB hp hD) (tC hp hD) ((sX hp hD).2 hE) u1,bs,zH (by omega) (by omega),bs,jQ hp hD hE ((sX hp hD).1 u1),zOr hp hD hn rfl hR ((sX hp hD).1 u1) u2,←zDw hp hD hi];rfl
   ·rw[ju hn,zK,tv0 (tB hp hD) (tC hp hD) ((sX hp hD).2 hE) ((sX hp hD).2 hR),bs,zH (by omega) (by omega),bs,jQ hp hD hE hR,zOq hp hD (by omega) rfl,←zDw hp hD hi]
    rfl) (by
   unfold zII;simp only
   rw[wW,zK,Jg (J7 _)])
  rw[Kv,zOs hp hD]at this;exact this
 rw[key,bs]
theorem zUG{M:Mx}{w:List Int}(hM:∀k,k<M.length→Row p D (M.getD k []))(hw:Wd M.length w)(hl:M.length≤1000)(h1:zNj (elx p D)=jq (zeros D)):zVZ (elx p D) w M=jq (evw p D M w):=by
 have h2:=hp.pos;obtain⟨hw1,pt⟩:=hw;unfold zVZ;rw[h1,bs];have key:zC (zIM (elx p D) w M) (zeros D,0)=jq (evw p D M w):=by
  have:=zU (body:=zIM (elx p D) w M) (r:=evw p D M w) (fun i=>(evw p D M (w.take i),(i:Int))) w.length (fun i hi=>by
   have hm:at0 w i∈w:=by rw[at0,J2,J4 hi];exact Jt hi
   obtain⟨a1,a2,a3⟩:=pt _ hm;have hx:ixa (at0 w i)<M.length:=by unfold ixa;omega
   have hR:=hM _ hx;have hE:=zGh hp hD M (w.take i);unfold zIM;simp only
   rw[xH hi,zJ,xV hi,bs]
   by_cases hn:at0 w i<0
   ·obtain⟨u,u1,u2,u3⟩:=zED (tB hp hD) (tC hp hD) ((sX hp hD).2 hR)
    rw[ju (by omega),zK,bs,zH (by omega) (by omega),bs,zH (by omega) (by omega),bs,show 0-at0 w i-1=((ixa (at0 w i):Nat):Int)from by unfold ixa;omega,yO [] hx,bs,u3,bs,
     zCU (tB hp hD) (tC hp hD) ((sX hp hD).2 hE) u1,bs,zH (by omega) (by omega),bs,jQ hp hD hE ((sX hp hD).1 u1),zOr hp hD hn rfl hR ((sX hp hD).1 u1) u2,←zDw hp hD hi]
    rfl
   ·rw[jw (by omega),zJ,bs,zH (by omega) (by omega),bs,show at0 w i-1=((ixa (at0 w i):Nat):Int)from by unfold ixa;omega,yO [] hx,bs,
     zCU (tB hp hD) (tC hp hD) ((sX hp hD).2 hE) ((sX hp hD).2 hR),bs,zH (by omega) (by omega),bs,jQ hp hD hE hR,zOq hp hD (by omega) rfl,←zDw hp hD hi]
    rfl) (by
   unfold zIM;simp only
   rw[wW,zK,Jg (J7 _)])
  rw[Kv,zOs hp hD]at this;exact this
 rw[key,bs]
end
end Go.Pl

namespace Go.Pl
open Go Go.Ab Go.Wk Go.Pc
section
variable {p:Int} (hp:Prime p) {N:Nat} (hN:N≤14) {R:Mx}{pv:Nat→Nat} (hR:Red p N R pv)
 include hp hN hR
theorem zOt:f_u p R (N:Int)=jq (gl N fun k=>pim p N R pv (zX N k)):=by
 have h7:=hp.pos;have hRl:R.length≤N:=hR.len_le;unfold f_u;rw[zCR hp (by omega) hR (by omega),bs];have e1:zC (zTk (N:Int) (gl R.length fun i=>(pv i:Int))) ([],0)=jq (zAQ N R.length pv):=zU (fun c=>(zAQ c R.length pv,(c:Int))) N (fun c hc=>by
  have hl:(zAQ c R.length pv).length≤c:=by grind[qS]
  unfold zTk;simp only
  rw[xH hc,zJ,zHC (by omega),bs,Bool.not_not,zEF];cases(Ju R.length).all fun i=>pv i != c
  ·rw[zK,zH (by omega) (by omega),bs,cs];simp
  ·rw[zJ,zT (by grind),bs,zH (by omega) (by omega),bs,cs];simp) (by
  simp_all[zTk])
 rw[e1,bs];have e2:∀k,k<N→zC (zTl (zAQ N R.length pv) (cl p N R pv (zX N k) R.length)) ([],0)=jq (pim p N R pv (zX N k)):=fun k hk=>by
  have hc:=zDU hp (by omega) hR (xW (D:=N) (k:=k) h7.1) R.length;refine zU (fun b=>(mkv b fun b=>at0 (cl p N R pv (zX N k) R.length) ((xI N R.length pv).getD b 0),(b:Int))) (xI N R.length pv).length (fun b hb=>?_) ?_
  ·have hl:=qS (D:=N) (N:=R.length) (pv:=pv)
   unfold zTl;simp only
   rw[show(zAQ N R.length pv).length=(xI N R.length pv).length from Jj ..,xH hb,zJ,zOe hb,bs,xV (by rw[hc.1];exact zCT hb),bs,zT (by simp only[yG,Jd];omega),bs,zH (by omega) (by omega),bs];have:∀f:Nat→Int,mkv b f++[f b]=mkv (b+1) f:=fun f=>by simp[mkv,L9]
   rw[this fun b=>at0 (cl p N R pv (zX N k) R.length) ((xI N R.length pv).getD b 0)];rfl
  ·unfold zTl
   simp only
   rw[show(zAQ N R.length pv).length=(xI N R.length pv).length from Jj ..,wW,zK];rfl
 have e3:zC (zTm p R (N:Int) (zAQ N R.length pv)) ([],0)=jq (gl N fun k=>pim p N R pv (zX N k)):=zU (fun c=>(gl c fun k=>pim p N R pv (zX N k),(c:Int))) N (fun c hc=>by
  unfold zTm;simp only
  rw[xH hc,zJ,zA9 hc (by omega),bs,zHf hp (by omega) hR (xW h7.1) (by omega),bs,e2 c hc,bs,zT (by rw[yK];simp;omega),bs,zH (by omega) (by omega),bs,vN];rfl) (by
  unfold zTm;simp only
  rw[wW,zK])
 rw[e3,bs]
theorem zDX:zQg R (N:Int)=jq (zAQ N R.length pv):=by
 have h7:=hp.pos;have hRl:R.length≤N:=hR.len_le;unfold zQg;have pg:∀i,i<R.length→f_A (R.getD i [])=jq (pv i:Int):=fun i hi=>by have hr:=hR.row i hi;have h1:=hR.one i hi;exact zDo (n:=N) hr.1 (by omega) (hR.lt i hi) (hR.low i hi) (by grind)
 obtain⟨r,r1,rfl⟩:=uC (body:=zOE R (N:Int)) (Q:=fun r=>r=zAQ N R.length pv)
  (fun s=> ∃(c t:Nat),s=(zAQ c R.length pv,(t:Int),(c:Int))∧c≤N∧t≤R.length∧(∀i,i<t→pv i<c)∧ ∀i,t≤i→i<R.length→c≤pv i) (fun s=>((N:Int)-s.2.2).toNat) (fun s hs=>by
   obtain⟨c,t,rfl,hc,t1,t2,t3⟩:=hs;have hl:(zAQ c R.length pv).length≤c:=by grind[qS]
   unfold zOE;simp only
   rcases Lr hc with h|h
   ·subst h
    right;rw[wW,zK];exact⟨_,rfl,rfl⟩
   ·left
    rw[xH h,zJ]
    by_cases e:t<R.length
    ·rw[xH e,zJ,yO [] e,bs,pg t e,bs]
     by_cases q:pv t=c
     ·rw[q,beq_self_eq_true,zJ,zH (by omega) (by omega),bs,zH (by omega) (by omega),bs]
      refine⟨_,rfl,⟨c+1,t+1,?_,by omega,by omega,fun i hi=>?_,fun i hi h2=>?_⟩,by simp only;omega⟩
      ·rw[zEF]
       have:((Ju R.length).all fun i=>pv i != c)=jt:=by rw[Qq];exact⟨t,by simpa using e,by simp[q]⟩
       rw[this];rfl
      ·rcases Jf i t with h|h
       ·have:=t2 i h;omega
       ·have:i=t:=by omega
        subst this;omega
      ·have:=hR.mono t i (by omega) h2
       omega
     ·rw[zBw (by omega:(pv t:Int)≠(c:Int)),zK,zT (by simp only[Jd];omega),bs,zH (by omega) (by omega),bs]
      have hge:∀i,t≤i→i<R.length→c+1≤pv i:=fun i hi h2=>by
       have a:=t3 t (J7 _) e;rcases Lr hi with h|h
       ·subst h;omega
       ·have:=hR.mono t i h h2
        omega
      refine⟨_,rfl,⟨c+1,t,?_,by omega,t1,fun i hi=>by have:=t2 i hi;omega,hge⟩,by simp only;omega⟩;rw[zEF];have:((Ju R.length).all fun i=>pv i != c)=js:=by
       rw[Jr];intro i hi;have er:=K5.1 hi;rcases Jf i t with h|h
       ·have:=t2 i h
        simp;omega
       ·have:=hge i h er
        simp;omega
      rw[this,if_pos rfl];rfl
    ·have et:t=R.length:=by omega
     subst et;rw[wW,zK,zT (by simp only[Jd];omega),bs,zH (by omega) (by omega),bs];refine⟨_,rfl,⟨c+1,R.length,?_,by omega,t1,fun i hi=>by have:=t2 i hi;omega,fun i hi h2=>by omega⟩,by simp only;omega⟩;rw[zEF];have:((Ju R.length).all fun i=>pv i != c)=js:=by rw[Jr];intro i hi;have:=t2 i (K5.1 hi);simp;omega
     rw[this,if_pos rfl];rfl) 1000 ([],0,0) (by simp only;omega) ⟨0,0,rfl,by omega,by omega,fun i hi=>by omega,fun i _ _=>by omega⟩
 rw[r1,bs]
end
end Go.Pl

namespace Go.Pl
open Go Go.Ab Go.Wk Go.Pc
section
variable {p:Int} (hp:Prime p) {N:Nat} (hN:N≤14)
 include hp hN
 omit hp hN in
theorem zOu:Red p N [] (fun i=>i):=⟨fun i hi=>by simp at hi,fun i hi=>by simp at hi,fun i hi=>by simp at hi,fun i hi=>by simp at hi,fun i k hi=>by simp at hi,fun i j _ hj=>by simp at hj⟩
theorem zUH{R:Mx}{pv:Nat→Nat}(h:Red p N R pv)(hs:jV p N R []):R=[]:=by have:=zDV hp (n:=N) (rows:=[]) (by omega) (by simp) (fun i hi=>by simp at hi) h hs;exact Jn (by simpa using this)
theorem zFB:f_q p []=jq []∧f_d p []=jq []:=by obtain⟨R,pv,h1,h2,h3,h4⟩:=zA4 hp (n:=N) (rows:=[]) (by omega) (by simp) (fun i hi=>by simp at hi);have:=zUH hp hN h3 h4;subst this;exact⟨h1,h2⟩
theorem zGi:xI N 0 (fun i=>i)=Ju N:=by have _:=hp;have _:=hN;simp[xI]
theorem zOv{v:List Int}(hv:Row p N v):pim p N [] (fun i=>i) v=v:=by
 have h2:=hp.pos;have hl:(xI N ([]:Mx).length fun i=>i).length=N:=by rw[Li,zGi hp hN,H8]
 unfold pim;rw[hl];refine sW (p:=p) ⟨yG _ _,fun j hj=>?_⟩ hv fun j hj=>?_
 ·rw[yD hj]
  simp only[Li,cl];have:(xI N 0 fun i=>i).getD j 0<N:=zCT (by rw[zGi hp hN,H8];exact hj);exact hv.2 _ this
 ·rw[yD hj]
  simp only[Li,cl,zGi hp hN]
  congr 1
  rw[J2,J4 (by simpa using hj)];simp
variable {R:Mx}{pv:Nat→Nat} (hR:Red p N R pv)
 include hR
theorem zBx{v:List Int}(hv:Row p N v):Row p (xI N R.length pv).length (pim p N R pv v):=by refine⟨yG _ _,fun b hb=>?_⟩;unfold pim;rw[yD hb];exact(zDU hp (by omega) hR hv R.length).2 _ (zCT hb)
theorem zLk{a:Nat}(ha:a<(xI N R.length pv).length):pim p N R pv (zX N ((xI N R.length pv).getD a 0))=zX (xI N R.length pv).length a:=by
 have h2:=hp.pos;have hl:=zCT ha;refine sW (zBx hp hN hR (xW h2.1)) (xW h2.1) fun b hb=>?_
 unfold pim;rw[yD hb,zUB hp (by omega) hR (xW h2.1) fun i hi=>by rw[qQ hp hN (hR.lt i hi),if_neg (zU9 ha hi)]]
 rw[qQ hp hN (zCT hb),zX,yD hb]
 by_cases e:b=a
 ·subst e;rw[if_pos rfl,if_pos rfl]
 ·rw[if_neg e,if_neg fun q=>e (zUA hb ha q)]
theorem zHs{v:List Int}(hv:Row p N v):zNp p v 0 R (zAQ N R.length pv)=jq (pim p N R pv v):=by
 have h2:=hp.pos;have hRl:=hR.len_le;have hc:=zDU hp (by omega) hR hv R.length;unfold zNp;rw[show(0:Int)=((0:Nat):Int)from rfl,zDv (by omega),bs,H3,zHc hp (by omega) hR hv (by omega),bs,zEL (J7 _) (by omega),bs];rw[show(Jb4 0 v).take (0-0)=[]from by simp,uS (by simp),bs];have key:zC (zLI (zAQ N R.length pv) (cl p N R pv v R.length)) ([],0)=jq (pim p N R pv v):=
  zU (fun b=>(mkv b fun b=>at0 (cl p N R pv v R.length) ((xI N R.length pv).getD b 0),(b:Int))) (xI N R.length pv).length (fun b hb=>by
   have hl:=qS (D:=N) (N:=R.length) (pv:=pv);unfold zLI;simp only
   rw[show(zAQ N R.length pv).length=(xI N R.length pv).length from Jj ..,xH hb,zJ,zOe hb,bs,xV (by rw[hc.1];exact zCT hb),bs,zT (by simp only[yG,Jd];omega),bs,zH (by omega) (by omega),bs];have:∀f:Nat→Int,mkv b f++[f b]=mkv (b+1) f:=fun f=>by simp[mkv,L9]
   rw[this fun b=>at0 (cl p N R pv v R.length) ((xI N R.length pv).getD b 0)];rfl) (by
   unfold zLI;simp only
   rw[show(zAQ N R.length pv).length=(xI N R.length pv).length from Jj ..,wW,zK];rfl)
 rw[show((0:Nat):Int)=0 from rfl,key,bs]
theorem zFC:zT2 (elx p N) 0 p R=jq (elx p (xI N R.length pv).length):=by
 have h2:=hp.pos;have hl:=qS (D:=N) (N:=R.length) (pv:=pv);unfold zT2;rw[zAl hp hN,zH (by omega) (by omega),bs,Ud,zDX hp hN hR,bs,show(zAQ N R.length pv).length=(xI N R.length pv).length from Jj ..,zH (by omega) (by omega),bs,Jz,
  show(0:Int)=((0:Nat):Int)from rfl,zRY hp hN,zEL (Jw _) (by simpa using hl),bs]
 rw[show((J1 N p).drop 0).take ((xI N R.length pv).length-0)=J1 (xI N R.length pv).length p from by rw[H3,List.take_replicate];congr 1;omega];rw[zAk (by simp;omega),bs];have key:∀a b,zC (zLJ (elx p N) 0 p R (zAQ N R.length pv)) (a,b,0)=jq (a,b):=fun a b=>by
  rw[yP];unfold zLJ;simp only
  rw[ju (by omega),zK]
 rw[show((0:Nat):Int)=0 from rfl,key,bs,zFq hp (by omega)]
end
end Go.Pl

namespace Go.Pl
open Go Go.Ab Go.Wk Go.Pc
def rls(p:Int)(N:Nat)(ws:List (List Int)):Mx:=ws.map (evw p N (gl N (zX N)))
def ims(p:Int)(N:Nat)(R:Mx)(pv:Nat→Nat):Mx:=gl N fun k=>pim p N R pv (zX N k)
section
variable {p:Int} (hp:Prime p) {N:Nat} (hN:N≤14)
 include hp hN
theorem zJB:f_w E0 p (N:Int)=jq (elx p N):=by
 have h2:=hp.pos;unfold f_w;have e0:(E0.zA.length:Int)=0:=rfl;rw[e0,zH (by omega) (by omega),bs,zH (by omega) (by omega),bs,show wF (0*(0+1)) 2=jq 0 from by decide,bs,zH (by omega) (by omega),bs,uS (by simp[E0]),bs,Jz];have k1:zC (zTx p (N:Int)) (E0.zA,0)=jq (J1 N p):=zU (fun i=>(J1 i p,(i:Int))) N (fun i hi=>by
  unfold zTx;simp only
  rw[xH hi,zJ,zT (by simp;omega),bs,zH (by omega) (by omega),bs,←Hb];rfl) (by
  unfold zTx;simp only
  rw[wW,zK])
 rw[k1,bs,zAk (by simp;omega),bs];have k2:∀a b,zC (zTy E0 (N:Int)) (a,b,0)=jq (a,b):=fun a b=>by
  rw[yP];unfold zTy;simp only
  rw[e0,ju (by omega),zK]
 have k3:∀a b,zC (zTz E0 (N:Int)) (a,b,0)=jq a:=fun a b=>by
  rw[yP];unfold zTz;simp only
  rw[e0,ju (by omega),zK]
 rw[k2,bs,k3,bs,zFq hp hN]
theorem zPy:zVY (elx p N) 0 p=jq []:=by
 have _:=hp;have _:=hN;unfold zVY;have k:zC (zOD (elx p N) 0 p) ([],0)=jq []:=by
  rw[yP];unfold zOD;simp only
  rw[ju (by omega),zK]
 rw[k,bs]
theorem zJC{k:Nat}(hk:k<N):(gl N (zX N)).getD k []=zX N k:=by have _:=hp;have _:=hN;exact vO hk
theorem zLl{D:Nat}(hD:D≤14):zNj (elx p D)=jq (zeros D):=by have _:=hN;unfold zNj;rw[zAl hp hD,xJ (by omega),bs];rfl
theorem zOw{ws:List (List Int)}{i:Nat}(hi:i<(rls p N ws).length):Row p N ((rls p N ws).getD i []):=by
 unfold rls at hi ⊢
 rw[Jj]at hi;rw[J2,J4 (by simpa using hi)];simp only[List.getElem_map,Kr];exact zGh hp hN _ _
variable {R:Mx}{pv:Nat→Nat} (hR:Red p N R pv)
 include hR
theorem zJD:(ims p N R pv).length=N:=by have _:=hp;have _:=hN;have _:=hR;exact yK
theorem zUI{a:Vec}(ha:a∈ims p N R pv):V (suf (elx p (xI N R.length pv).length) 0) a:=by obtain⟨k,hk,rfl⟩:=Jh.1 ha;exact(sX hp (by have:=qS (D:=N) (N:=R.length) (pv:=pv);omega)).2 (zBx hp hN hR (xW hp.pos.1))
theorem zPz{a:Nat}(ha:a<(xI N R.length pv).length):zX (xI N R.length pv).length a∈ims p N R pv:=by rw[←zLk hp hN hR ha];exact Jh.2 ⟨_,K5.2 (zCT ha),rfl⟩
theorem zFD:f_I (elx p (xI N R.length pv).length) (ims p N R pv)=jq (gl (xI N R.length pv).length (zX (xI N R.length pv).length))∧
  zNi (elx p (xI N R.length pv).length) (ims p N R pv)=jq (gl (xI N R.length pv).length (zX (xI N R.length pv).length)):=by
 have hl:=qS (D:=N) (N:=R.length) (pv:=pv);have hD:(xI N R.length pv).length≤14:=by omega
 obtain⟨C,c1,c2,c3⟩:=zHr (tB hp hD) (tC hp hD) (M:=ims p N R pv) (fun a ha=>zUI hp hN hR ha) (by rw[zJD hp hN hR];omega);rw[zAl hp hD,zPw hp hD c3 fun j hj=>zPz hp hN hR hj]at c1 c2;exact⟨c1,c2⟩
theorem zP0{F:zY}(hw:∀w∈F.zO,Wd N w)(hl:F.zO.length≤1000)(hr:f_q p (rls p N F.zO)=jq R):
  f_s F p E0 (J1 N [])=jq (elx p (xI N R.length pv).length,ims p N R pv):=by
 have h2:=hp.pos;have gC:=qS (D:=N) (N:=R.length) (pv:=pv);have hD:(xI N R.length pv).length≤14:=by omega
 have e0:(E0.zA.length:Int)=0:=rfl;have hn:=zOu (p:=p) (N:=N);have aE:(xI N ([]:Mx).length fun i=>i).length=N:=by rw[Li,zGi hp hN,H8]
 unfold f_s;rw[e0,Jl,zJB hp hN,bs,zAl hp hN,Ud,zH (by omega) (by omega),bs,zPy hp hN,bs,(zFB hp hN).1,bs,zDX hp hN hn,bs];have k1:zC (zT4 p E0 (J1 N []) (N:Int) [] (zAQ N ([]:Mx).length fun i=>i)) ([],0)=jq (gl N (zX N)):=zU (fun k=>(gl k (zX N),(k:Int))) N (fun k hk=>by
  unfold zT4;simp only
  rw[e0,Jl,xH hk,zJ,uR (by simpa using hk),bs,G3,show(0:Int)=((0:Nat):Int)from rfl,zCV (by omega) (by omega) (by simp),bs];rw[zH (by omega) (by omega),bs,zH (by omega) (by omega),bs,zH (by omega) (by omega),bs,show((0:Nat):Int)+(N:Int)-(N:Int)+(k:Int)=(k:Int)from by omega];rw[show J1 0 (0:Int)++[]++J1 N 0=J1 N 0 from by simp,uR (by simpa using hk),bs,J9,zRV,show((0:Nat):Int)=0 from rfl,zHs hp hN hn (xW h2.1),bs,zOv hp hN (xW h2.1),
   zT (by rw[yK];simp;omega),bs,zH (by omega) (by omega),bs,vN]
  rfl) (by
  unfold zT4;simp only
  rw[Jl,wW,zK])
 rw[k1,bs,zFC hp hN hn,bs,aE];have k2:zC (zT5 F E0 (gl N (zX N)) (elx p N)) ([],0)=jq (rls p N F.zO):=by
  refine zU (fun k=>((rls p N (F.zO.take k)),(k:Int))) F.zO.length (fun k hk=>?_) ?_
  ·have hm:F.zO[k]∈F.zO:=Jt hk
   have eM:=zUG hp hN (M:=gl N (zX N)) (w:=F.zO[k]) (fun i hi=>by rw[yK]at hi;rw[zJC hp hN hi];exact xW h2.1) (by rw[yK];exact hw _ hm) (by rw[yK];omega) (zLl hp hN hN);unfold zT5;simp only
   rw[xH hk,zJ,uR hk,bs,eM,bs,e0,show(0:Int)=((0:Nat):Int)from rfl,zDv (Jw _),bs,H3,zT (by simp[rls];omega),bs,zH (by omega) (by omega),bs];rw[show rls p N (F.zO.take k)++[evw p N (gl N (zX N)) F.zO[k]]=rls p N (F.zO.take (k+1))from by unfold rls;rw[Kw,J4 hk,L7];rfl];rfl
  ·unfold zT5
   simp only
   rw[wW,zK,Jg (J7 _)]
 rw[k2,bs,hr,bs,zAl hp hN,Ud,zH (by omega) (by omega),bs,zDX hp hN hR,bs];have k3:zC (zT6 p E0 R (zAQ N R.length pv)) (gl N (zX N),0)=jq (ims p N R pv):=by
  let st:Nat→Mx:=fun i=>gl N fun k=>if k<i then pim p N R pv (zX N k)else zX N k
  have s0:st 0=gl N (zX N):=vX fun k hk=>by rw[if_neg (by omega)]
  have sN:st N=ims p N R pv:=vX fun k hk=>by rw[if_pos hk]
  rw[←s0,←sN];refine zU (fun k=>(st k,(k:Int))) N (fun k hk=>?_) ?_
  ·unfold zT6
   simp only
   rw[show(st k).length=N from yK,xH hk,zJ,show ixO (st k) (k:Int)=jq (zX N k)from by rw[uD hk,if_neg (by omega)],bs,e0,zHs hp hN hR (xW h2.1),bs,bs,zH (by omega) (by omega),bs,J9,
    show(st k).set k (pim p N R pv (zX N k))=st (k+1)from by
     simp only[st];rw[zHd];refine vX fun j hj=>?_
     by_cases e:j=k
     ·subst e;rw[if_pos rfl,if_pos (by omega)]
     ·rw[if_neg e]
      by_cases l:j<k
      ·rw[if_pos l,if_pos (by omega)]
      ·rw[if_neg l,if_neg (by omega)]]
   rfl
  ·unfold zT6
   simp only
   rw[show(st N).length=N from yK,wW,zK]
 rw[k3,bs,zFC hp hN hR,bs,(zFD hp hN hR).1,bs];have k4:zC (zT7 (ims p N R pv) (elx p (xI N R.length pv).length) (gl (xI N R.length pv).length (zX (xI N R.length pv).length))) ([],0)=jq (ims p N R pv):=
  zU (fun k=>(gl k fun k=>pim p N R pv (zX N k),(k:Int))) N (fun k hk=>by
   unfold zT7;simp only
   rw[zJD hp hN hR,xH hk,zJ,ims,uD hk,bs,zJA hp hD (zBx hp hN hR (xW h2.1)),bs,zT (by rw[yK];simp;omega),bs,zH (by omega) (by omega),bs,vN];rfl) (by
   unfold zT7;simp only
   rw[zJD hp hN hR,wW,zK];rfl)
 rw[k4,bs,zYk hp hD,bs]
end
end Go.Pl

namespace Go.Pl
open Go Go.Ab Go.Wk Go.Pc
section
variable {p:Int} (hp:Prime p)
 include hp
theorem zLm{R:Mx}{pv:Nat→Nat}{n:Nat}(h:Red p n R pv)(hn:n=0):R=[]:=by
 have _:=hp;cases R with
 |nil=>rfl
 |cons a R=>have:=h.lt 0 (by simp);omega
 omit hp in
theorem zP1:f_k E0=jq []:=by
  have e0:(E0.zA.length:Int)=0:=rfl;unfold f_k;have k3:zC (zVl E0) ([],1)=jq []:=by rw[yP];unfold zVl;simp[e0]
  have k5:zC (zVm E0) ([],1)=jq []:=by rw[yP];unfold zVm;simp[e0]
  have k7:zC (zVn E0) ([],1)=jq []:=by rw[yP];unfold zVn;simp[e0]
  have k8:zC (zVo E0) ([],1)=jq []:=by rw[yP];unfold zVo;simp[e0]
  rw[k3,bs,k5,bs,k7,bs,k8,bs]
theorem zMJ:f_m E0 (zCt p 1 E0.zA.length)=jq []:=by
 unfold f_m;rw[zBd (x:=E0) (n:=0) rfl (by omega),bs,show((base 0 0:Nat):Int)*(zCt p 1 E0.zA.length).Dim=((0:Nat):Int)from by simp[base,zCt],zH (by omega) (by omega),bs,xJ (by omega),bs,zP1,bs];have k9:zC (zVp E0 (zCt p 1 E0.zA.length) ((base 0 0:Nat):Int) []) (J1 0 ([]:List Int),0)=jq []:=by rw[yP];unfold zVp;simp
 rw[k9,bs,ju (by simp),zK];obtain⟨K,pk,_,n2,n3,_⟩:=zI3 hp (c:=0) (N:=0) (by omega) (A:=[]) (fun i hi=>by omega) rfl;have hK:=zLm hp n3 rfl;subst hK;rw[show(zCt p 1 E0.zA.length).Prime=p from rfl,show(0:Int)=((0:Nat):Int)from rfl,n2,bs]
theorem zP2:zVT E0 p=jq []:=by
 have h2:=hp.pos;unfold zVT;rw[show(1:Int)=((1:Nat):Int)from rfl,zM7 hp (by simp[E0]) (by omega),bs];rw[zMJ hp,bs,zBd (x:=E0) (n:=0) rfl (by omega),bs];unfold zYE;rw[show((base 0 0:Nat):Int)=((0:Nat):Int)from rfl,zFM (D:=0) (by omega) (p:=p) (A:=[]) ⟨rfl,fun i hi=>by omega⟩,bs];obtain⟨K,pk,_,n2,n3,_⟩:=zI3 hp (c:=0) (N:=0) (by omega) (A:=[]) (fun i hi=>by omega) rfl;have hK:=zLm hp n3 rfl;subst hK;simp only
 rw[show trM 0 ([]:Mx)=[]from rfl,show((([]:Mx).length:Nat):Int)=((0:Nat):Int)from rfl,n2,bs,bs]
theorem zFE{N W:Nat}(hN1:1≤N)(hN:N≤14)(hW:W≤14){v:Nat→List Int}(hv:∀k,k<N→Row p W (v k)):zQe E0 p (J1 N []) (gl N v)=jq (elx p W,gl N v):=by
 have h2:=hp.pos;unfold zQe;rw[zBd (x:=E0) (n:=0) rfl (by omega),bs,show ixO (gl N v) 0=jq (v 0)from uD (i:=0) (by omega),bs,(hv 0 (by omega)).1,zM8 (x:=E0) (by simp[E0]) (by omega),bs];rw[show((base 0 0:Nat):Int)=((0:Nat):Int)from rfl,show(0:Int)=((0:Nat):Int)from rfl,zEL (J7 _) (Jw _),bs];rw[show(Jb4 0 (gl N v)).take (0-0)=[]from by simp];rw[zRC (n:=0) (D:=W) (x:=E0) (m:=zCt p W E0.zA.length) (T:=[]) ⟨by omega,rfl,rfl,rfl,fun i hi=>by omega,fun i=>by simp[E0],fun i j=>by simp[E0],rfl,fun i=>by simp,⟨hp,rfl,by omega,rfl,fun i hi=>by omega⟩⟩,bs];have k1:zC (zLF (J1 N []) (gl N v) ((0:Nat):Int)) ([],((0:Nat):Int))=jq (gl N v):=zU (fun k=>(gl k v,(k:Int))) N (fun k hk=>by
  have hl:=(hv k hk).1;unfold zLF;simp only
  rw[Jl,xH hk,zJ,uR (by simpa using hk),bs,G3,zH (by omega) (by omega),bs,show((0:Nat):Int)+(k:Int)=(k:Int)from by omega,uD hk,bs,zJz (by simp) (by omega),bs,Jy,zT (by rw[yK];simp;omega),bs,zH (by omega) (by omega),bs,vN];rfl) (by
  unfold zLF;simp only
  rw[Jl,wW,zK])
 rw[k1,bs];rfl
end
end Go.Pl

namespace Go.Pl
open Go Go.Ab Go.Wk Go.Pc
section
variable {p:Int} (hp:Prime p) {N:Nat} (hN:N≤14) {R:Mx}{pv:Nat→Nat} (hR:Red p N R pv)
 include hp hN
theorem zYm{W:Nat}{r s:List Int}(hr:Row p W r):sE p W r 0 s=r:=by
 have _:=hN;have h2:=hp.pos;refine sW (zCN hp) hr fun j hj=>?_
 unfold sE;have:=hr.2 j hj;rw[yD hj,Gf,Kd,Jb this.1 (by omega)]
theorem zYn{W:Nat}{s:List Int}(hs:Row p W s):sE p W (zeros W) 1 s=s:=by
 have _:=hN;have h2:=hp.pos;refine sW (zCN hp) hs fun j hj=>?_
 unfold sE;have:=hs.2 j hj;rw[yD hj,vE,Hj,Jz,Jb this.1 (by omega)]
 include hR
theorem zUJ{k:Nat}(hk:k<N):zC (zTr p (ims p N R pv) (zX N k)) (J1 (xI N R.length pv).length 0,0)=jq (pim p N R pv (zX N k)):=by
 have h2:=hp.pos;have hz:Row p (xI N R.length pv).length (zeros (xI N R.length pv).length):=wV (by omega);have ay:∀i,Row p (xI N R.length pv).length (pim p N R pv (zX N i)):=fun i=>zBx hp hN hR (xW h2.1)
 have gC:=qS (D:=N) (N:=R.length) (pv:=pv)
 let st:Nat→List Int:=fun i=>if k<i then pim p N R pv (zX N k)else zeros (xI N R.length pv).length
 have s0:st 0=J1 (xI N R.length pv).length 0:=if_neg (by omega);have sN:st N=pim p N R pv (zX N k):=if_pos hk;have hs:∀i,Row p (xI N R.length pv).length (st i):=fun i=>by
  simp only[st];split
  ·exact ay k
  ·exact hz
 rw[←s0,←sN];refine zU (fun i=>(st i,(i:Int))) N (fun i hi=>?_) ?_
 ·unfold zTr
  simp only
  rw[(xW (p:=p) (D:=N) (k:=k) h2.1).1,xH hi,zJ,xV (by rw[(xW (p:=p) (D:=N) (k:=k) h2.1).1];exact hi),bs,ims,uD hi,bs,qQ hp hN hi];rw[zFn hp (hs i) (ay i) (by split<;>omega) (by omega),bs,zH (by omega) (by omega),bs];rw[show sE p (xI N R.length pv).length (st i) (if i=k then 1 else 0) (pim p N R pv (zX N i))=st (i+1)from by
   by_cases e:i=k
   ·subst e
    rw[if_pos rfl,show st i=zeros (xI N R.length pv).length from if_neg (by omega),zYn hp hN (ay i)];exact(if_pos (by omega)).symm
   ·rw[if_neg e,zYm hp hN (hs i)]
    simp only[st]
    by_cases l:k<i
    ·rw[if_pos l,if_pos (by omega)]
    ·rw[if_neg l,if_neg (by omega)]]
  rfl
 ·unfold zTr
  simp only
  rw[(xW (p:=p) (D:=N) (k:=k) h2.1).1,wW,zK]
theorem zP3(h1:1≤N){F:zY}(hw:∀w∈F.zO,Wd N w)(hl:F.zO.length≤1000)(hr:f_d p (rls p N F.zO)=jq R):
  f_f F p E0 (J1 N [])=jq (elx p (xI N R.length pv).length,ims p N R pv,E0):=by
 have h2:=hp.pos;have gC:=qS (D:=N) (N:=R.length) (pv:=pv);have hD:(xI N R.length pv).length≤14:=by omega
 have e0:(E0.zA.length:Int)=0:=rfl;have hn:=zOu (p:=p) (N:=N);have hu:(gl N fun k=>pim p N [] (fun i=>i) (zX N k))=gl N (zX N):=vX fun k hk=>zOv hp hN (xW h2.1)
 unfold f_f;rw[zBd (x:=E0) (n:=0) rfl (by omega),bs,Jl,show((base 0 0:Nat):Int)=0 from rfl,Jz,zH (by omega) (by omega),bs,zBw (by omega),zK,zP2 hp,bs];have k1:zC (zVV (J1 N []) []) ([],0)=jq []:=by
  rw[yP];unfold zVV;simp only
  rw[ju (by simp),zK]
 rw[k1,bs,(zFB hp hN).2,bs,zOt hp hN hn,bs,hu,zFE hp h1 hN hN fun k _=>xW h2.1,bs];have k2:zC (zTq F E0 (elx p N,gl N (zX N))) ([],0)=jq (rls p N F.zO):=by
  refine zU (fun k=>((rls p N (F.zO.take k)),(k:Int))) F.zO.length (fun k hk=>?_) ?_
  ·have hm:F.zO[k]∈F.zO:=Jt hk
   have eM:=zUF hp hN (M:=gl N (zX N)) (w:=F.zO[k]) (fun i hi=>by rw[yK]at hi;rw[zJC hp hN hi];exact xW h2.1) (by rw[yK];exact hw _ hm) (by rw[yK];omega);unfold zTq;simp only
   rw[xH hk,zJ,uR hk,bs,eM,bs,e0,show(0:Int)=((0:Nat):Int)from rfl,zDv (Jw _),bs,H3,zT (by simp[rls];omega),bs,zH (by omega) (by omega),bs];rw[show rls p N (F.zO.take k)++[evw p N (gl N (zX N)) F.zO[k]]=rls p N (F.zO.take (k+1))from by unfold rls;rw[Kw,J4 hk,L7];rfl];rfl
  ·unfold zTq
   simp only
   rw[wW,zK,Jg (J7 _)]
 rw[k2,bs,bs,hr,bs,show ixO (gl N (zX N)) 0=jq (zX N 0)from uD (i:=0) (by omega),bs,(xW (p:=p) (D:=N) (k:=0) h2.1).1,zOt hp hN hR,bs,yK,jw (by omega),zJ,
  show ixO (gl N fun k=>pim p N R pv (zX N k)) 0=jq (pim p N R pv (zX N 0))from uD (i:=0) (by omega),bs]
 have k4:zC (zTs p (gl N (zX N)) (gl N fun k=>pim p N R pv (zX N k)) (pim p N R pv (zX N 0))) ([],0)=jq (ims p N R pv):=
  zU (fun k=>(gl k fun k=>pim p N R pv (zX N k),(k:Int))) N (fun k hk=>by
   unfold zTs;simp only
   rw[yK,xH hk,zJ,uD hk,bs,(zBx hp hN hR (xW (k:=0) h2.1)).1,xJ (by omega),bs];have:=zUJ hp hN hR hk;unfold ims at this;rw[this,bs,zT (by rw[yK];simp;omega),bs,zH (by omega) (by omega),bs,vN];rfl) (by
   unfold zTs;simp only
   rw[yK,wW,zK];rfl)
 rw[k4,bs,ims,zFE hp h1 hN hD fun k hk=>zBx hp hN hR (xW h2.1),bs];have hg:=(zFD hp hN hR).2;unfold ims at hg;rw[hg,bs,zUE hp hD,bs];have k5:zC (zTt (elx p (xI N R.length pv).length,gl N fun k=>pim p N R pv (zX N k)) (gl (xI N R.length pv).length (zX (xI N R.length pv).length))) ([],0)=jq (gl N fun k=>pim p N R pv (zX N k)):=
  zU (fun k=>(gl k fun k=>pim p N R pv (zX N k),(k:Int))) N (fun k hk=>by
   unfold zTt;simp only
   rw[yK,xH hk,zJ,uD hk,bs,zMI hp hD (zBx hp hN hR (xW h2.1)),bs,zT (by rw[yK];simp;omega),bs,zH (by omega) (by omega),bs,vN];rfl) (by
   unfold zTt;simp only
   rw[yK,wW,zK])
 rw[k5,bs]
end
end Go.Pl

namespace Go.Pl
open Go Go.Ab Go.Wk Go.Pc
def nm(p:Int)(v:List Int):Int:=v.foldl (fun n a=>n*p+a) 0
theorem zCl(p:Int)(v:List Int)(a:Int):nm p (v++[a])=nm p v*p+a:=by simp[nm,List.foldl_append]
theorem zFr{p:Int}{W:Nat}{v:List Int}(h:Row p (W+1) v):∃u a,v=u++[a]∧Row p W u∧0≤a∧a≤p-1:=by
 have hl:=h.1;refine⟨v.take W,at0 v W,?_,⟨by simp;omega,fun i hi=>?_⟩,h.2 W (by omega)⟩
 ·rw[at0,J2,J4 (by omega),Kr,List.take_append_getElem (by omega:W<v.length),Jg (by omega)]
 ·have:=h.2 i (by omega)
  rw[at0,J2,G4 hi,←J2];exact this
theorem zUK{p:Int}{W:Nat}{u:List Int}{a:Int}(h:Row p W u)(h1:0≤a)(h2:a≤p-1):Row p (W+1) (u++[a]):=by
 have hl:=h.1;refine⟨by simp;omega,fun i hi=>?_⟩;rcases Jf i W with h3|h3
 ·have:=h.2 i h3
  rw[at0,J2,K9 (by omega),←J2];exact this
 ·have:i=u.length:=by omega
  subst this;rw[at0,J2,Je (J7 _)];simpa using⟨h1,h2⟩
section
variable {p:Int} (h2:2≤p)
 include h2
theorem zLn:∀{W:Nat}{v:List Int},Row p W v→0≤nm p v∧nm p v<p ^ W
 |0,v,h=>by have:v=[]:=Jn h.1;subst this;simp[nm]
 |W+1,v,h=>by obtain⟨u,a,rfl,hu,a1,a2⟩:=zFr h;obtain⟨b1,b2⟩:=zLn hu;rw[zCl,Lo];have e1:=Gy b1 (show 0≤p by omega);have e2:=Int.mul_le_mul_of_nonneg_right (show nm p u+1≤p ^ W by omega) (show 0≤p by omega);rw[Int.add_mul,Hj]at e2;omega
theorem zJE:∀{W:Nat}{u v:List Int},Row p W u→Row p W v→nm p u=nm p v→u=v
 |0,u,v,hu,hv,_=>by rw[Jn hu.1,Jn hv.1]
 |W+1,u,v,hu,hv,h=>by
  obtain⟨u,a,rfl,hu,a1,a2⟩:=zFr hu;obtain⟨v,b,rfl,px,b1,b2⟩:=zFr hv;rw[zCl,zCl]at h;have e1:a=b:=by
   have:=congrArg (· %p) h;simp only[Jas (_*p),Int.add_mul_emod_self_right]at this
   rwa [Jb a1 (by omega),Jb b1 (by omega)]at this
  subst e1;rw[zJE hu px (Int.eq_of_mul_eq_mul_right (show p≠0 by omega) (by omega))]
theorem zSa:∀{W:Nat}{m:Int},0≤m→m<p ^ W→ ∃v,Row p W v∧nm p v=m
 |0,m,h0,h1=>⟨[],⟨rfl,fun i hi=>by omega⟩,by simp at h1;simp[nm];omega⟩
 |W+1,m,h0,h1=>by rw[Lo]at h1;obtain⟨v,v1,v2⟩:=zSa (W:=W) (m:=m/p) (Int.ediv_nonneg h0 (by omega)) (Int.ediv_lt_of_lt_mul (by omega) h1);have:=Kq m (show p≠0 by omega);have:=Kh m (show 0<p by omega);refine⟨v++[m%p],zUK v1 (by omega) (by omega),?_⟩;rw[zCl,v2,Lp];exact Int.mul_ediv_add_emod m p
end
theorem zHt{α:Type}[DecidableEq α]:∀(l m:List α),l.Nodup→(∀a∈l,a∈m)→l.length≤m.length
 | [],_,_,_=>Jw _
 |a::l,m,h,hs=>by
  have ha:=hs a (by simp);have hn:=Kj.1 h;have:=zHt l (m.erase a) hn.2 fun b hb=>(List.mem_erase_of_ne (show b≠a from fun e=>hn.1 (by rw[←e];exact hb))).2 (hs b (by simp[hb]))
  rw[List.length_erase_of_mem ha]at this;have:=List.length_pos_of_mem ha;simp only[Jx];omega
theorem zOx{p:Int}(h2:2≤p){W:Nat}{F:Mx}(hF:F.Nodup)(hr:∀v∈F,Row p W v):(F.length:Int)≤p ^ W:=by
 have hP:0<p ^ W:=Um (by omega);have:=zHt (F.map fun v=>(nm p v).toNat) (Ju (p ^ W).toNat) (by
  refine List.pairwise_map.2 (hF.imp_of_mem fun{a b} ha hb gf e=>gf ?_);have:=(zLn h2 (hr a ha)).1;have:=(zLn h2 (hr b hb)).1;exact zJE h2 (hr a ha) (hr b hb) (by omega)) (fun k hk=>by
  obtain⟨v,hv,rfl⟩:=Jh.1 hk;have:=zLn h2 (hr v hv);exact K5.2 (by omega))
 rw[Jj,H8]at this;omega
theorem zSb{p:Int}(h2:2≤p){W:Nat}{F:Mx}(ha:∀v,Row p W v→v∈F):p ^ W≤(F.length:Int):=by
 have hP:0<p ^ W:=Um (by omega);have:=zHt (Ju (p ^ W).toNat) (F.map fun v=>(nm p v).toNat) Qw (fun k hk=>by have fP:=K5.1 hk;obtain⟨v,v1,v2⟩:=zSa h2 (W:=W) (m:=(k:Int)) (by omega) (by omega);exact Jh.2 ⟨v,ha v v1,by rw[v2];simp⟩)
 rw[Jj,H8]at this;omega
end Go.Pl

namespace Go.Pl
open Go Go.Ab Go.Wk Go.Pc
def adF(F:Mx)(y:List Int):Mx:=if y∈F then F else F++[y]
def inF(p:Int)(W:Nat)(im:Nat→List Int)(F:Mx)(i:Nat):Nat→Mx
 |0=>F
 |k+1=>adF (inF p W im F i k) (adv p W (F.getD i []) (im k))
def xY(p:Int)(W:Nat)(im:Nat→List Int)(N:Nat):Nat→Mx
 |0=>[zeros W]
 |i+1=>inF p W im (xY p W im N i) i N
theorem zOy(F:Mx)(y:List Int):∃G,adF F y=F++G:=by
 unfold adF;split
 ·exact⟨[],by simp⟩
 ·exact⟨[y],rfl⟩
theorem zUL(F:Mx)(y:List Int):y∈adF F y:=by
 unfold adF;split
 ·assumption
 ·simp
theorem zJF(p:Int)(W:Nat)(im:Nat→List Int)(F:Mx)(i:Nat):∀k,∃G,inF p W im F i k=F++G
 |0=>⟨[],by simp[inF]⟩
 |k+1=>by obtain⟨G,hG⟩:=zJF p W im F i k;obtain⟨H,hH⟩:=zOy (inF p W im F i k) (adv p W (F.getD i []) (im k));exact⟨G++H,by rw[inF,hH,hG,Ji]⟩
theorem zLo(p:Int)(W:Nat)(im:Nat→List Int)(F:Mx)(i k:Nat):∀d,∃G,inF p W im F i (k+d)=inF p W im F i k++G
 |0=>⟨[],by simp⟩
 |d+1=>by obtain⟨G,hG⟩:=zLo p W im F i k d;obtain⟨H,hH⟩:=zOy (inF p W im F i (k+d)) (adv p W (F.getD i []) (im (k+d)));exact⟨G++H,by rw[show k+(d+1)=(k+d)+1 from rfl,inF,hH,hG,Ji]⟩
theorem zCX(p:Int)(W:Nat)(im:Nat→List Int)(N i:Nat):∀d,∃G,xY p W im N (i+d)=xY p W im N i++G
 |0=>⟨[],by simp⟩
 |d+1=>by obtain⟨G,hG⟩:=zCX p W im N i d;obtain⟨H,hH⟩:=zJF p W im (xY p W im N (i+d)) (i+d) N;exact⟨G++H,by rw[show i+(d+1)=(i+d)+1 from rfl,xY,hH,hG,Ji]⟩
def FOk(p:Int)(W:Nat)(F:Mx):Prop:=F.Nodup∧ ∀v∈F,Row p W v
theorem zYo{p:Int}{W:Nat}{F:Mx}{y:List Int}(h:FOk p W F)(hy:Row p W y):FOk p W (adF F y):=by
 unfold adF;split
 ·exact h
 ·rename_i hn
  refine⟨List.nodup_append.2 ⟨h.1,by simp,fun a ha b hb e=>?_⟩,fun v hv=>?_⟩
  ·simp only[List.mem_singleton]at hb
   exact hn (by rw[←hb,←e];exact ha)
  ·rcases K4.1 hv with q|q
   ·exact h.2 v q
   ·simp only[List.mem_singleton]at q
    rw[q];exact hy
theorem zCq{P:Nat→Prop}:∀b,P b→ ∃n,n≤b∧P n∧ ∀i,i<n→ ¬P i:=fun b=>by
 induction b using Gg with
 |ind b ih=>
  intro h
  by_cases q:∃i,i<b∧P i
  ·obtain⟨i,i1,i2⟩:=q
   obtain⟨n,n1,n2,n3⟩:=ih i i1 i2;exact⟨n,by omega,n2,n3⟩
  ·exact⟨b,J7 _,h,fun i hi hp=>q ⟨i,hi,hp⟩⟩
section
variable {p:Int} (hp:Prime p) {W N:Nat}{im:Nat→List Int}
 include hp
theorem zJG{F:Mx}(h:FOk p W F)(i:Nat):∀k,FOk p W (inF p W im F i k)
 |0=>h
 |k+1=>zYo (zJG h i k) (sU (by have:=hp.pos;omega))
theorem zDY:∀i,FOk p W (xY p W im N i)
 |0=>⟨by simp[xY],fun v hv=>by simp only[xY,List.mem_singleton]at hv;rw[hv];exact wV (by have:=hp.pos;omega)⟩
 |i+1=>zJG hp (zDY i) i N
theorem zUM:∃n,(xY p W im N n).length=n∧(∀i,i<n→i<(xY p W im N i).length)∧(n:Int)≤p ^ W:=by
 have h2:=hp.pos;have hP:0<p ^ W:=Um (by omega);have eY:∀i,((xY p W im N i).length:Int)≤p ^ W:=fun i=>zOx h2.1 (zDY hp i).1 (zDY hp i).2
 obtain⟨n,_,n2,n3⟩:=zCq (P:=fun n=>(xY p W im N n).length≤n) (p ^ W).toNat (by have:=eY (p ^ W).toNat;show(xY p W im N (p ^ W).toNat).length≤(p ^ W).toNat;omega);have hn3:∀i,i<n→i<(xY p W im N i).length:=fun i hi=>by have:=n3 i hi;omega
 have:(xY p W im N n).length=n:=by
  cases n with
  |zero=>simp[xY]at n2
  |succ m=>
   have:=hn3 m (by omega);obtain⟨G,hG⟩:=zCX p W im N m 1;rw[hG,J8]at n2 ⊢
   omega
 exact⟨n,this,hn3,by have:=eY n;omega⟩
theorem zMK{n:Nat}(hn:(xY p W im N n).length=n)(hi:∀i,i<n→i<(xY p W im N i).length){v:List Int}(hv:v∈xY p W im N n){k:Nat}(hk:k<N):adv p W v (im k)∈xY p W im N n:=by
 have _:=hp;obtain⟨j,hj,rfl⟩:=Gx hv;have fQ:j<n:=by omega
 obtain⟨G,hG⟩:=zCX p W im N j (n-j);rw[show j+(n-j)=n from by omega]at hG;have e:(xY p W im N n)[j]=(xY p W im N j).getD j []:=by have:=hi j fQ;rw[J2,J4 this,Kr];simp only[hG,List.getElem_append_left this]
 rw[e];have m1:adv p W ((xY p W im N j).getD j []) (im k)∈inF p W im (xY p W im N j) j (k+1):=zUL _ _;obtain⟨H,hH⟩:=zLo p W im (xY p W im N j) j (k+1) (N-(k+1));rw[show k+1+(N-(k+1))=N from by omega]at hH;obtain⟨K,hK⟩:=zCX p W im N (j+1) (n-(j+1));rw[show j+1+(n-(j+1))=n from by omega]at hK;rw[hK,xY,hH];simp only[K4];exact .inl (.inl m1)
theorem zYp{F:Mx}(h0:zeros W∈F)(hu:∀a,a<W→ ∀v∈F,adv p W v (zX W a)∈F){v:List Int}(hv:Row p W v):v∈F:=by
 have h2:=hp.pos;have key:∀i,i≤W→ ∀c:Nat,(i<W→(c:Int)≤at0 v i)→(i=W→c=0)→(mkv W fun j=>if j<i then at0 v j else if j=i then(c:Int)else 0)∈F:=fun i=>by
  induction i with
  |zero=>
   intro _ c
   induction c with
   |zero=>
    intro _ _;have e:(mkv W fun j=>if j<0 then at0 v j else if j=0 then((0:Nat):Int)else 0)=zeros W:=by
     refine sW (p:=p) ⟨yG _ _,fun j hj=>by rw[yD hj];simp;omega⟩ (wV (by omega)) fun j hj=>?_
     rw[yD hj,vE];simp
    rw[e];exact h0
   |succ c ih=>
    intro h1 h3;have hW:0<W:=Nat.pos_of_ne_zero fun q=>absurd (h3 q.symm) (by omega)
    have b:=hv.2 0 hW;have hc:=h1 hW;have m:=hu 0 hW _ (ih (fun _=>by omega) fun e=>by omega);have e:adv p W (mkv W fun j=>if j<0 then at0 v j else if j=0 then(c:Int)else 0) (zX W 0)=mkv W fun j=>if j<0 then at0 v j else if j=0 then((c+1:Nat):Int)else 0:=by
     refine yV fun j hj=>?_
     have n0:¬j<0:=by omega
     rw[yD hj,zX,yD hj,if_neg n0,if_neg n0]
     by_cases q:j=0
     ·rw[if_pos q,if_pos q,if_pos q,Jb (by omega) (by omega)];omega
     ·rw[if_neg q,if_neg q,if_neg q];simp
    rw[←e];exact m
  |succ i ih=>
   intro hi c;have hiW:i<W:=by omega
   have b:=hv.2 i hiW
   induction c with
   |zero=>
    intro _ _;have m:=ih (by omega) (at0 v i).toNat (fun _=>by omega) fun e=>by omega
    have e:(mkv W fun j=>if j<i then at0 v j else if j=i then(((at0 v i).toNat:Nat):Int)else 0)=mkv W fun j=>if j<i+1 then at0 v j else if j=i+1 then((0:Nat):Int)else 0:=by
     refine yV fun j hj=>?_
     by_cases q:j<i
     ·rw[if_pos q,if_pos (by omega)]
     ·rw[if_neg q]
      by_cases q2:j=i
      ·subst q2;rw[if_pos rfl,if_pos (by omega)];omega
      ·rw[if_neg q2,if_neg (by omega)];simp
    rw[←e];exact m
   |succ c ihc=>
    intro h1 h3;have hW:i+1<W:=by
     rcases Jf (i+1) W with q|q
     ·exact q
     ·exact absurd (h3 (by omega)) (by omega)
    have b1:=hv.2 (i+1) hW;have hc:=h1 hW;have m:=hu (i+1) hW _ (ihc (fun _=>by omega) fun e=>by omega);have e:adv p W (mkv W fun j=>if j<i+1 then at0 v j else if j=i+1 then(c:Int)else 0) (zX W (i+1))=mkv W fun j=>if j<i+1 then at0 v j else if j=i+1 then((c+1:Nat):Int)else 0:=by
     refine yV fun j hj=>?_
     rw[yD hj,zX,yD hj]
     by_cases q:j<i+1
     ·have bj:=hv.2 j hj
      rw[if_pos q,if_neg (by omega),if_pos q,Kd,Jb bj.1 (by omega)]
     ·rw[if_neg q,if_neg q]
      by_cases q2:j=i+1
      ·rw[if_pos q2,if_pos q2,if_pos q2,Jb (by omega) (by omega)];omega
      ·rw[if_neg q2,if_neg q2,if_neg q2];simp
    rw[←e];exact m
 have:=key W (J7 _) 0 (fun h=>by omega) fun _=>rfl
 have e:(mkv W fun j=>if j<W then at0 v j else if j=W then((0:Nat):Int)else 0)=v:=by
  refine sW (p:=p) ⟨yG _ _,fun j hj=>by rw[yD hj,if_pos hj];exact hv.2 j hj⟩ hv fun j hj=>?_
  rw[yD hj,if_pos hj]
 rw[e]at this;exact this
end
end Go.Pl

namespace Go.Pl
open Go Go.Ab Go.Wk Go.Pc
theorem zSc{l:List (Int×Int)}{k v:Int}(h:jY l k=jr):zBL l k v=l++[(k,v)]:=by
 refine zIp ?_;have:=zGR k l 0;rw[h]at this;cases e:zDQ k l 0 with
 |none=>rfl
 |some x=>rw[e]at this;cases this
theorem zSd{l:List (Int×Int)}{k v k':Int}:jY (l++[(k,v)]) k'=(jY l k').or (if k'=k then jq v else jr):=by
 unfold jY;rw[List.find?_append];cases e:l.find? fun e=>k'==e.1 with
 |some x=>simp
 |none=>
  by_cases q:k'=k
  ·simp[q]
  ·simp[q]
theorem zUN{F:Mx}{y z:List Int}:(F++[y]).idxOf z=if z∈F then F.idxOf z else if y=z then F.length else F.length+1:=by
 rw[List.idxOf_append];split
 ·rfl
 ·rw[Ja3]
  by_cases q:y=z
  ·simp[q]
  ·have:(y==z)=jt:=by simpa using q
   rw[this,if_neg q];simp;omega
theorem zHu{F:Mx}{y:List Int}(h:y∉F):F.idxOf y=F.length:=List.idxOf_eq_length h
section
variable {p:Int} (hp:Prime p) {W:Nat} (hW:W≤14) (hP:p ^ W≤128)
 include hp hW hP
 omit hW hP in
theorem zML(i:Nat):∀d,p ^ i≤p ^ (i+d)
  |0=>Qc _
  |d+1=>by have h2:=hp.pos;have:=zML i d;have hq:0<p ^ (i+d):=Um (by omega);rw[show i+(d+1)=(i+d)+1 from rfl,Lo];have:=Int.mul_le_mul_of_nonneg_left (show 1≤p by omega) (show 0≤p ^ (i+d)by omega);omega
theorem zSe{v:List Int}(hv:Row p W v):zTu (elx p W) v=jq (nm p v):=by
 have h2:=hp.pos;have hb:∀i,i≤W→0≤nm p (v.take i)∧nm p (v.take i)≤127:=fun i hi=>by
  have hr:Row p i (v.take i):=⟨by have:=hv.1;simp;omega,fun j hj=>by have:=hv.2 j (by omega);rw[at0,J2,G4 hj,←J2];exact this⟩
  have b:=zLn h2.1 hr;have c:=zML hp i (W-i);rw[show i+(W-i)=W from by omega]at c;omega
 unfold zTu;have key:zC (zIK (elx p W) v) (0,0)=jq (nm p v):=by
  have:=zU (body:=zIK (elx p W) v) (r:=nm p v) (fun i=>(nm p (v.take i),(i:Int))) W (fun i hi=>by
   have b1:=hb i (by omega);have b2:=hb (i+1) (by omega);have bv:=hv.2 i hi;rw[←zGg hp hW hv hi,zCl]at b2;unfold zIK;simp only
   rw[hv.1,xH hi,zJ,xV (by rw[hv.1];exact hi),bs,zBR hp hW hi,bs,zH (by omega) (by omega),bs,zH (by omega) (by omega),bs,zH (by omega) (by omega),bs,←zCl,zGg hp hW hv hi];rfl) (by
   unfold zIK;simp only
   rw[hv.1,wW,zK,Jg (by rw[hv.1];omega)])
  rw[Kv]at this;exact this
 rw[key,bs]
def zLp(p:Int)(W:Nat)(L:List (Int×Int))(F:Mx):Prop:=∀y,Row p W y→jY L (nm p y)=if y∈F then jq ((F.idxOf y:Nat):Int)else jr
 omit hW hP in
theorem zP4:zLp p W (zBL [] 0 0) [zeros W]:=fun y hy=>by
  have h2:=hp.pos;have hz:Row p W (zeros W):=wV (by omega);have hn:∀W,nm p (zeros W)=0:=fun W=>by
    induction W with
    |zero=>rfl
    |succ W ih=>rw[show zeros (W+1)=zeros W++[0]from Hb,zCl,ih];simp
  by_cases e:y=zeros W
  · subst e
    rw[if_pos (by simp),hn];simp[zBL,zDQ,jY]
  · rw[if_neg (by simpa using e)]
    have:nm p y≠0:=fun q=>e (zJE h2.1 hy hz (by rw[q,hn]))
    simp[zBL,zDQ,jY,this]
 omit hW hP in
theorem zSf{L:List (Int×Int)}{F:Mx}(h:zLp p W L F){y:List Int}(hy:Row p W y)(hn:y∉F):zLp p W (zBL L (nm p y) (F.length:Int)) (F++[y]):=fun z hz=>by
  have h2:=hp.pos;have e1:jY L (nm p y)=jr:=by rw[h y hy,if_neg hn]
  rw[zSc e1,zSd,h z hz,zUN]
  by_cases q:z∈F
  ·simp[q]
  · rw[if_neg q,if_neg q]
    by_cases e:z=y
    · subst e
      rw[if_pos rfl,if_pos (by simp),if_pos rfl];rfl
    ·rw[if_neg fun r=>e (zJE h2.1 hz hy r),if_neg (by simp[q,e])];rfl
end
end Go.Pl

namespace Go.Pl
open Go Go.Ab Go.Wk Go.Pc
theorem zSg{y:List Int}:∀(F:Mx)(j:Nat),j<F.idxOf y→F.getD j []≠y
 | [],j,h=>by simp at h
 |a::F,j,h=>by
  rw[Ja3]at h
  by_cases e:a=y
  ·simp[e]at h
  ·have:(a==y)=jt:=by simpa using e
   rw[this]at h;simp only[cond_false]at h;cases j with
   |zero=>simpa using e
   |succ j=>
    rw[List.getD_cons_succ];exact zSg F j (by omega)
theorem zYq{y:List Int}{F:Mx}(h:y∈F):F.getD (F.idxOf y) []=y:=by have hl:=Uk h;rw[J2,J4 hl,Kr];exact List.getElem_idxOf hl
def zFN(p:Int)(W N:Nat)(im:Nat→List Int)(i k:Nat):Int:=((inF p W im (xY p W im N i) i k).idxOf (adv p W ((xY p W im N i).getD i []) (im k)):Nat)
def tbF(p:Int)(W N:Nat)(im:Nat→List Int)(i:Nat):Mx:=gl N fun k=>gl i fun j=>zFN p W N im j k
def mxF(p:Int)(W N:Nat)(im:Nat→List Int)(i k:Nat):Mx:=gl N fun k'=>gl (if k'<k then i+1 else i) fun j=>zFN p W N im j k'
section
variable {p:Int}{W N:Nat}{im:Nat→List Int}
theorem zOz(i:Nat):mxF p W N im i 0=tbF p W N im i:=vX fun k hk=>by rw[if_neg (by omega)]
theorem zSh(i:Nat):mxF p W N im i N=tbF p W N im (i+1):=vX fun k hk=>by rw[if_pos hk]
theorem zJH{i k:Nat}(hk:k<N):ixO (mxF p W N im i k) (k:Int)=jq (gl i fun j=>zFN p W N im j k):=by unfold mxF;rw[uD hk,if_neg (by omega)]
theorem zJI{i k:Nat}:(mxF p W N im i k).set k ((gl i fun j=>zFN p W N im j k)++[zFN p W N im i k])=mxF p W N im i (k+1):=by
 unfold mxF;rw[vN (F:=fun j=>zFN p W N im j k),zHd];refine vX fun j hj=>?_
 by_cases e:j=k
 ·subst e;rw[if_pos rfl,if_pos (by omega)]
 ·rw[if_neg e]
  by_cases l:j<k
  ·rw[if_pos l,if_pos (by omega)]
  ·rw[if_neg l,if_neg (by omega)]
variable (hp:Prime p) (hW:W≤14) (hP:p ^ W≤128) (hN:N≤14) (fR:∀k,k<N→Row p W (im k))
 include hp hW hP hN fR
theorem zO0(i k:Nat):((inF p W im (xY p W im N i) i k).length:Int)≤128:=by have _:=hW;have _:=hN;have _:=fR;have q:FOk p W (inF p W im (xY p W im N i) i k):=zJG hp (zDY hp i) i k;have:=zOx hp.pos.1 q.1 q.2;omega
theorem zSi{i:Nat}(hi:i<(xY p W im N i).length)(k:Nat):ixO (inF p W im (xY p W im N i) i k) (i:Int)=jq ((xY p W im N i).getD i []):=by have _:=hW;have _:=hN;have _:=fR;have _:=hp;have _:=hP;obtain⟨G,hG⟩:=zJF p W im (xY p W im N i) i k;rw[hG,yO [] (by simp;omega),J2,K9 hi,←J2]
theorem zYr{i:Nat}(hi:i<(xY p W im N i).length)(er:i≤1000){L0 L:List (Int×Int)}{T0:Mx}(hL:zLp p W L (xY p W im N i)):
  ∃L',zC (zTv (elx p W) (gl N im) (xY p W im N i,L0,T0,(i:Int))) (xY p W im N i,L,tbF p W N im i,0)=jq (xY p W im N (i+1),L',tbF p W N im (i+1))∧zLp p W L' (xY p W im N (i+1)):=by
 have h2:=hp.pos;have hm:(xY p W im N i).getD i []∈xY p W im N i:=by rw[J2,J4 hi];exact Jt hi
 have hv:=(zDY hp (im:=im) (N:=N) i).2 _ hm;obtain⟨r,r1,L',rfl,hL'⟩:=uC (body:=zTv (elx p W) (gl N im) (xY p W im N i,L0,T0,(i:Int)))
  (Q:=fun r=> ∃L',r=(xY p W im N (i+1),L',tbF p W N im (i+1))∧zLp p W L' (xY p W im N (i+1)))
  (fun s=> ∃(k:Nat)(L:List (Int×Int)),s=(inF p W im (xY p W im N i) i k,L,mxF p W N im i k,(k:Int))∧k≤N∧zLp p W L (inF p W im (xY p W im N i) i k)) (fun s=>((N:Int)-s.2.2.2).toNat) (fun s hs=>by
   obtain⟨k,L,rfl,hk,hL⟩:=hs;unfold zTv;simp only
   rw[yK];rcases Lr hk with q|q
   ·subst q
    right;rw[wW,zK,zSh];exact⟨_,rfl,L,rfl,hL⟩
   ·left
    have bw:=fR k q;have hy:Row p W (adv p W ((xY p W im N i).getD i []) (im k)):=sU (by omega);have gv:=zO0 hp hW hP hN fR i k;rw[xH q,zJ,uD q,bs,zSi hp hW hP hN fR hi,bs,zU3 (tB hp hW) (tC hp hW) ((sX hp hW).2 hv) ((sX hp hW).2 bw),bs,jQ hp hW hv bw,zSe hp hW hP hy,bs,hL _ hy]
    by_cases e:adv p W ((xY p W im N i).getD i []) (im k)∈inF p W im (xY p W im N i) i k
    ·rw[if_pos e,Option.isSome_some,Jo,zK,zJH q,bs,zT (by rw[yK];simp;omega),bs,zH (by omega) (by omega),bs,Kr,J9]
     refine⟨_,rfl,⟨k+1,L,?_,q,?_⟩,by simp only;omega⟩
     ·rw[show(((inF p W im (xY p W im N i) i k).idxOf (adv p W ((xY p W im N i).getD i []) (im k)):Nat):Int)=zFN p W N im i k from rfl,zJI,inF,adF,if_pos e]
      rfl
     ·rw[inF,adF,if_pos e];exact hL
    ·rw[if_neg e,Qi,K2,zJ,bs,zT (by simp only[Jd];omega),bs,zJH q,bs,zT (by rw[yK];simp;omega),bs,zH (by omega) (by omega),bs,J9]
     refine⟨_,rfl,⟨k+1,zBL L (nm p (adv p W ((xY p W im N i).getD i []) (im k))) ((inF p W im (xY p W im N i) i k).length:Int),?_,q,?_⟩,by simp only;omega⟩
     ·rw[show((inF p W im (xY p W im N i) i k).length:Int)=zFN p W N im i k from by rw[zFN,zHu e],zJI,inF,adF,if_neg e]
      rfl
     ·rw[inF,adF,if_neg e];exact zSf hp hL hy e) 1000 (xY p W im N i,L,tbF p W N im i,0) (by simp only;omega) ⟨0,L,by rw[zOz];rfl,by omega,hL⟩
 exact⟨L',r1,hL'⟩
theorem zSj{n:Nat}(hn:(xY p W im N n).length=n)(hi:∀i,i<n→i<(xY p W im N i).length)(bp:n≤128):f_S (elx p W) (gl N im)=jq (tbF p W N im n):=by
 unfold f_S;rw[zAl hp hW,xJ (by omega),bs,yK,xJ (by omega),bs];obtain⟨r,r1,rfl⟩:=uC (body:=zVW (elx p W) (gl N im)) (Q:=fun r=>r=tbF p W N im n)
  (fun s=> ∃(i:Nat)(L:List (Int×Int)),s=(xY p W im N i,L,tbF p W N im i,(i:Int))∧i≤n∧zLp p W L (xY p W im N i)) (fun s=>((n:Int)-s.2.2.2).toNat) (fun s hs=>by
   obtain⟨i,L,rfl,gR,hL⟩:=hs;unfold zVW;simp only
   rcases Lr gR with q|q
   ·subst q
    right;rw[hn,wW,zK];exact⟨_,rfl,rfl⟩
   ·left
    obtain⟨L',e1,e2⟩:=zYr hp hW hP hN fR (hi i q) (by omega) (L0:=L) (T0:=tbF p W N im i) hL;rw[xH (hi i q),zJ,e1,bs,zH (by omega) (by omega),bs];exact⟨_,rfl,⟨i+1,L',rfl,q,e2⟩,by simp only;omega⟩) 1000 ([J1 W 0],zBL [] 0 0,J1 N [],0) (by simp only;omega) ⟨0,zBL [] 0 0,by
    rw[show tbF p W N im 0=J1 N []from by simp[tbF,gl,List.map_const']];rfl,by omega,zP4 hp⟩
 rw[r1,bs]
end
end Go.Pl
