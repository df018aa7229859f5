/- x -/
import Derived.Test.YtchnmobojdcikaaGreatRPlB
import Derived.Test.YtchnmobojdcikaaGreatRWF
import Derived.Test.YtchnmobojdcikaaGreatRPlA
import Derived.Test.YtchnmobojdcikaaGreatRAbB
open List renaming replicate→J1,getD_eq_getElem?_getD→J2,getElem?_eq_getElem→J5,length_append→J7,range→J8,append_nil→J9,length_replicate→Ja,mem_cons→Jb,length_cons→Jd,mem_append→Jf,length_map→Jg,append_assoc→Jh,getElem?_append_right→Ji,mem_map→Jn,take_of_length_le→Jo,take_left'→Jr,map_cons→Js,replicate_succ→Jt,nil_append→Jv,getElem?_map→Jx,mem_iff_getElem→Jz,getElem?_append_left→K0,take_succ_eq_append_getElem→K1,getElem_mem→K3,drop_left'→K4,reverse_reverse→K8,length_nil→K9,all_eq_true→Ka,cons_append→Kc,length_take→Kf,take_zero→Ki,range'→Kk,getElem?_replicate→Km,range_eq_range'→Kn,length_singleton→Ku,length_drop→Kv,replicate_succ'→Kz,length_range→L8,flatMap_cons→L9,getElem?_eq_none→La,range_succ→Lb,mem_range→Ll,mem_flatMap→Ls,map_append→Lu,length_set→Lz,replicate_zero→Hb,drop_eq_nil_of_le→Hd,eq_of_mem_replicate→He,mem_append_right→Hg,flatten_cons→Hi,ext_getElem→Hj,drop_zero→Hq,reverse_cons→Hx,getD_cons_zero→Gd,flatMap_append→Gm,mem_append_left→Gu,map_nil→Gy,drop_eq_getElem_cons→Gz,flatten_nil→Up,range'_succ→Uw,range'_append_1→Q4,map_map→Q6,not_mem_nil→Qh,mem_replicate→Qi,mem_of_mem_head?→Qt,flatMap_nil→Ja2,findSome?_cons→Ja7,length→Jad,head?_cons→Jah
open Bool renaming and_eq_true->J3,not_true->Jq,not_false->Kb,false_eq_true->Hk
open Int renaming toNat_natCast->J6,mul_emod->Ju,emod_emod->Jy,emod_eq_of_lt->K5,add_emod->Kd,emod_lt_of_pos->Ke,emod_nonneg->Kr,mul_zero->Lp,add_zero->Lv,mul_le_mul_of_nonneg_left->Ly,natCast_add->H0,mul_one->H2,tdiv_eq_ediv_of_nonneg->Gf,natCast_mul->Uh,sub_emod->Uq,one_mul->Qm,tdiv_nonneg->Ja9,tmod_lt_of_pos->Jae,emod_add_emod->Jak,add_emod_emod->Jal,zero_emod->Jb8
open Nat renaming zero_add->Jc,le_refl->Je,lt_or_ge->Jk,mul_le_mul->Jp,mul_le_mul_right->Jw,succ_mul->K7,zero_le->Kg,add_sub_cancel_left->Ky,div_add_mod->Lr,div_lt_iff_lt_mul->H1,mod_lt->Hn,add_sub_cancel->Hy,zero_mul->Ud,sub_zero->Uo,eq_zero_or_pos->Jb7
open Option renaming some->Kt,map_some->H6,getD_some->Gp,bind->Gs,isSome_none->U6
open Prod renaming mk->Ja3
open Option renaming some->iW,none->iY
open Bool renaming true->iZ,false->ja
namespace Go.Pl
open Go Go.Ab Go.Wk Go.Pc
structure Fh (n D D2:Nat) (m m2:zB) (T T2:Mx) (φ:Vec->Vec):Prop where
 pr:m2.Prime=m.Prime
 row:∀u,Row m.Prime D u->Row m.Prime D2 (φ u)
 z:φ (zeros D)=zeros D2
 add:∀u v,Row m.Prime D u->Row m.Prime D v->φ (adv m.Prime D u v)=adv m.Prime D2 (φ u) (φ v)
 act:∀k,k<n-> ∀u,Row m.Prime D u->φ (xG m.Prime D u (m.zF.getD k []))=xG m.Prime D2 (φ u) (m2.zF.getD k [])
 t:∀r,r<base n n->φ (T.getD r [])=T2.getD r []
def Fm(φ:Vec->Vec)(N:Nat)(e:Vec):Vec:=e.take N++φ (e.drop N)
theorem zBI{φ:Vec->Vec}{N:Nat}{y u:Vec}(hy:y.length=N):Fm φ N (y++u)=y++φ u:=by grind[Fm]
theorem zHK{φ:Vec->Vec}{N:Nat}{b:Int}{e:Vec}:Fm φ (N+1) (b::e)=b::Fm φ N e:=by rfl
section
variable {D D2:Nat}{x:SPr}{m m2:zB}{T T2:Mx}{φ:Vec->Vec} (h:Pres x) (hE:ExB x.zA.length D x m T) (hT:∀i,i<T.length->Row m.Prime D (T.getD i [])) (hH:ExB x.zA.length D2 x m2 T2) (ek:∀i,i<T2.length->Row m2.Prime D2 (T2.getD i [])) (hF:Fh x.zA.length D D2 m m2 T T2 φ)
 include h hE hT hH ek hF
theorem yEk{k:Nat}(hk:k<=x.zA.length):Fm φ (x.zA.length-k) (zeros (suf (exx D x m T) k).length)=zeros (suf (exx D2 x m2 T2) k).length:=by rw[zCg h hE hT hk,zCg h hH ek hk,zBI (zW _),hF.z]
theorem zQR{k j:Nat}(h1:k+1<=j)(h2:j<x.zA.length):Fm φ (x.zA.length-(k+1)) ((lvl (exx D x m T) k).cs.getD (j-(k+1)) [])=(lvl (exx D2 x m2 T2) k).cs.getD (j-(k+1)) []:=by
 have hn:=hE.hn;have hb:=zBW x.zA.length (by omega) k (by omega);have gy:V (suf x (k+1)) ((lcj x k j).drop (k+1)):=by grind[zAk,uJ]
 rw[zJb h hE hT (by omega) h1 h2,zJb h hH ek (by omega) h1 h2,show(lvl x k).cs.getD (j-(k+1)) []=(lcj x k j).drop (k+1)from map_drop,zBI (vC h (by omega) gy),hF.t _ (by omega)]
theorem yBO{k:Nat}(hk:k<x.zA.length):Fm φ (x.zA.length-(k+1)) (lvl (exx D x m T) k).w=(lvl (exx D2 x m2 T2) k).w:=by have hn:=hE.hn;have hb:=xY x.zA.length (by omega);have co:V (suf x (k+1)) ((x.zJ.getD k []).drop (k+1)):=zAk (zAd h hk) hk;rw[zIX h hE hT hk,zIX h hH ek hk,show(lvl x k).w=(x.zJ.getD k []).drop (k+1)from rfl,zBI (vC h (by omega) co),hF.t _ (by omega)]
theorem zUK{k:Nat}(hk:k<x.zA.length)(ih:∀a b,V (suf (exx D x m T) (k+1)) a->V (suf (exx D x m T) (k+1)) b->Fm φ (x.zA.length-(k+1)) (mul (suf (exx D x m T) (k+1)) a b)=mul (suf (exx D2 x m2 T2) (k+1)) (Fm φ (x.zA.length-(k+1)) a) (Fm φ (x.zA.length-(k+1)) b)){v:Vec}(hv:V (suf (exx D x m T) (k+1)) v):
  Fm φ (x.zA.length-(k+1)) (sig (suf (exx D x m T) (k+1)) (lvl (exx D x m T) k) v)=sig (suf (exx D2 x m2 T2) (k+1)) (lvl (exx D2 x m2 T2) k) (Fm φ (x.zA.length-(k+1)) v):=by
 have hp:=hE.m.p.pos;have ok:=uH h hE hT (k:=k+1) (by omega);obtain⟨y,u,rfl,hy,hu⟩:=(sV h hE hT (x.zA.length-(k+1)) (k+1) (by omega) _).1 hv;have ef:=vC h (by omega) hy;have cP:Row m2.Prime D2 (φ u):=by rw[hF.pr];exact hF.row u hu
 have hsg:Fm φ (x.zA.length-(k+1)) (sgG D x m T k y)=sgG D2 x m2 T2 k y:=by
  unfold sgG;rw[zFP (S:=V (suf (exx D x m T) (k+1))) (n:=mul (suf (exx D2 x m2 T2) (k+1))) (Fm φ (x.zA.length-(k+1))) (fun a b=>yU ok) ih _ _ _ (zQG h hE hT hk) (wG ok),yEk h hE hT hH ek hF (by omega)]
  congr 1
  apply Hj
  ·grind[jT]
  ·intro i h1 h2
   rw[Jg,jT h hE hT]at h1;have e1:(eC1 x T k)[i]'(by grind)=(lvl (exx D x m T) k).cs.getD (k+1+i-(k+1)) []:=by rw[show k+1+i-(k+1)=i from by omega,zCZ h hE hT hk,J2,K0 (by grind),J5 (by rw[jT h hE hT];exact h1)];rfl
   have e2:(eC1 x T2 k)[i]'h2=(lvl (exx D2 x m2 T2) k).cs.getD (k+1+i-(k+1)) []:=by rw[show k+1+i-(k+1)=i from by omega,zCZ h hH ek hk,J2,K0 h2,J5 h2];rfl
   rw[List.getElem_map,e1,e2,zQR h hE hT hH ek hF (by omega) (by omega)]
 obtain⟨y1,u1,e,fj,ct⟩:=(sV h hE hT (x.zA.length-(k+1)) (k+1) (by omega) _).1 (zIZ h hE hT hk (y:=y));have gT:=vC h (by omega) fj;rw[e,zBI gT]at hsg;rw[zDa h hE hT hk hy hu,e,Jr gT,K4 gT,zBI gT,zBI ef,zDa h hH ek hk hy cP,<-hsg,Jr gT,K4 gT,hF.pr,hF.add _ _ ct (vA),hF.act k hk u hu]
theorem zL6{k:Nat}(hk:k<x.zA.length)(ih:∀a b,V (suf (exx D x m T) (k+1)) a->V (suf (exx D x m T) (k+1)) b->Fm φ (x.zA.length-(k+1)) (mul (suf (exx D x m T) (k+1)) a b)=mul (suf (exx D2 x m2 T2) (k+1)) (Fm φ (x.zA.length-(k+1)) a) (Fm φ (x.zA.length-(k+1)) b)):∀(q:Nat){v:Vec},V (suf (exx D x m T) (k+1)) v->
  Fm φ (x.zA.length-(k+1)) (iter q (sig (suf (exx D x m T) (k+1)) (lvl (exx D x m T) k)) v)=iter q (sig (suf (exx D2 x m2 T2) (k+1)) (lvl (exx D2 x m2 T2) k)) (Fm φ (x.zA.length-(k+1)) v)
 |0,_,_=>rfl
 |q+1,v,hv=>by show Fm φ _ (iter q _ (sig _ _ v))=iter q _ (sig _ _ (Fm φ _ v));rw[zL6 hk ih q (zBH h hE hT hk hv),zUK h hE hT hH ek hF hk ih hv]
theorem zPd:∀(d k:Nat),k+d=x.zA.length-> ∀a b,V (suf (exx D x m T) k) a->V (suf (exx D x m T) k) b->Fm φ (x.zA.length-k) (mul (suf (exx D x m T) k) a b)=mul (suf (exx D2 x m2 T2) k) (Fm φ (x.zA.length-k) a) (Fm φ (x.zA.length-k) b)
 |0,k,hk,a,b,ha,hb=>by
  have hp:=hE.m.p.pos;have aj:=hH.m.p.pos;rw[zBx h hE hT D k (by omega) (by omega)]at ha hb ⊢
  rw[zBx h hH ek D2 k (by omega) (by omega)];have mb:=(zEF _ _).1 ha;have ez:=(zEF _ _).1 hb;have e:∀w:Vec,Fm φ (x.zA.length-k) w=φ w:=fun w=>by rw[Fm,show x.zA.length-k=0 from by omega];rfl
  rw[e,e,e,jS (by omega) D _ _ mb ez,hF.add _ _ mb ez,hF.pr,jS (by omega) D2 _ _ (hF.row _ mb) (hF.row _ ez)]
 |d+1,k,hk,a,b,ha,hb=>by
  have pM:k<x.zA.length:=by omega
  have ih:=zPd d (k+1) (by omega);have hl:=xW h hE hT;have mU:=xW h hH ek;have ok:=uH h hE hT (k:=k+1) (by omega);have fS:=zSb h hE hT pM;rw[yC (x:=exx D x m T)]at ha hb ⊢
  rw[yC (x:=exx D2 x m2 T2)];cases a with
  |nil=>exact ha.elim
  |cons a u=>
  cases b with
  |nil=>exact hb.elim
  |cons b v=>
   obtain⟨_,ha⟩:=ha;obtain⟨_,hb⟩:=hb;have ew:=zPc h hE hT pM b.toNat ha;have hm:=yU ok ew hb;rw[show x.zA.length-k=x.zA.length-(k+1)+1 from by omega,zHK,zHK,yQ,yQ,zC7 h hE hT pM,zC7 h hH ek pM,<-zL6 h hE hT hH ek hF pM ih _ ha,<-ih _ _ ew hb]
   by_cases g:a+b>=at0 x.zA k
   ·rw[if_pos g,if_pos g,zHK,ih _ _ fS hm,yBO h hE hT hH ek hF pM]
   ·rw[if_neg g,if_neg g,zHK]
end
section
variable {D D2:Nat}{x:SPr}{m m2:zB}{T T2:Mx}{φ:Vec->Vec} (h:Pres x) (hE:ExB x.zA.length D x m T) (hT:∀i,i<T.length->Row m.Prime D (T.getD i [])) (hH:ExB x.zA.length D2 x m2 T2) (ek:∀i,i<T2.length->Row m2.Prime D2 (T2.getD i [])) (hF:Fh x.zA.length D D2 m m2 T T2 φ)
 include h hE hT hH ek hF
theorem yAp{k:Nat}(hk:k<x.zA.length){c:Vec}(hc:V (suf (exx D x m T) (k+1)) c):∀q,Fm φ (x.zA.length-(k+1)) (pw (mul (suf (exx D x m T) (k+1))) (zeros (suf (exx D x m T) (k+1)).length) c q)=pw (mul (suf (exx D2 x m2 T2) (k+1))) (zeros (suf (exx D2 x m2 T2) (k+1)).length) (Fm φ (x.zA.length-(k+1)) c) q
 |0=>yEk h hE hT hH ek hF (by omega)
 |q+1=>by have ok:=uH h hE hT (k:=k+1) (by omega);have hq:V (suf (exx D x m T) (k+1)) (pw (mul (suf (exx D x m T) (k+1))) (zeros (suf (exx D x m T) (k+1)).length) c q):=vS (by grind[yU]) q (wG ok);have ih:=yAp hk hc q;rw[pw,vF,pw,vF];show Fm φ _ (mul _ (pw _ _ c q) c)=mul _ (pw _ _ (Fm φ _ c) q) (Fm φ _ c);rw[zPd h hE hT hH ek hF _ (k+1) (by omega:k+1+(x.zA.length-(k+1))=x.zA.length) _ _ hq hc,ih]
theorem yBP{k j:Nat}(hk:k<=j)(hj:j<x.zA.length):V (suf (exx D x m T) (k+1)) (((exx D x m T).zJ.getD j []).drop (k+1))/\Fm φ (x.zA.length-(k+1)) (((exx D x m T).zJ.getD j []).drop (k+1))=((exx D2 x m2 T2).zJ.getD j []).drop (k+1):=by
 have hn:=hE.hn;have hb:=xY x.zA.length (by omega);have hpx:V (suf x (k+1)) ((x.zJ.getD j []).drop (k+1)):=by grind[zAk,zL4,zAd]
 rw[zFb h hE hT hk hj,zFb h hH ek hk hj];exact⟨by grind[zE2,zDb],by rw[zBI (vC h (by omega) hpx),hF.t _ (by omega)]⟩
theorem yBQ{k i j:Nat}(hk:k<=i)(hi:i<j)(hj:j<x.zA.length):V (suf (exx D x m T) (k+1)) ((((exx D x m T).zC.getD i []).getD (j-(i+1)) []).drop (k+1))/\Fm φ (x.zA.length-(k+1)) ((((exx D x m T).zC.getD i []).getD (j-(i+1)) []).drop (k+1))=(((exx D2 x m2 T2).zC.getD i []).getD (j-(i+1)) []).drop (k+1):=by
 have hn:=hE.hn;have hb:=zBW x.zA.length (by omega) i (by omega);have aI:V (suf x (k+1)) ((lcj x i j).drop (k+1)):=by grind[zAk,zL4,uJ]
 rw[zGG h hE hT hk hi hj,zGG h hH ek hk hi hj];exact⟨by grind[zE2,zEG],by rw[zBI (vC h (by omega) aI),hF.t _ (by omega)]⟩
theorem zYh{k j:Nat}(h1:k+1<=j)(h2:j<x.zA.length):Fm φ (x.zA.length-(k+1)) (xE ((exx D x m T).zA.length-(k+1)) (j-(k+1)))=xE ((exx D2 x m2 T2).zA.length-(k+1)) (j-(k+1)):=by rw[zSa h hE hT h1 h2,zSa h hH ek h1 h2,zBI (by simp[xE,zeros]),hF.z]
theorem zYi{k:Nat}(hk:k<x.zA.length):LCQ (fun k a b=>Fm φ (x.zA.length-k) a=Fm φ (x.zA.length-k) b) x (exx D x m T) k↔LCn x (exx D2 x m2 T2) k:=by
 have hl:=xW h hE hT;have ok:=uH h hE hT (k:=k+1) (by omega);have cJ:=zPd h hE hT hH ek hF _ (k+1) (by omega:k+1+(x.zA.length-(k+1))=x.zA.length);have eD:=fun v hv=>zUK h hE hT hH ek hF hk cJ (v:=v) hv
 have fS:=zSb h hE hT hk;have e1:∀j,k+1<=j->j<x.zA.length->(c1Q (fun k a b=>Fm φ (x.zA.length-k) a=Fm φ (x.zA.length-k) b) (exx D x m T) k j↔c1E (exx D2 x m2 T2) k j):=fun j h1 h2=>by obtain⟨p1,p2⟩:=yBP h hE hT hH ek hF (k:=k) (j:=j) (by omega) h2;unfold c1Q c1E;show Fm φ _ _=Fm φ _ _↔_;rw[yAp h hE hT hH ek hF hk (zNs h hE hT hk h1 h2),zQR h hE hT hH ek hF h1 h2,eD _ p1,p2,tI h hE hT h2,tI h hH ek h2]
 have e2:∀i j,k+1<=i->i<j->j<x.zA.length->(c2Q (fun k a b=>Fm φ (x.zA.length-k) a=Fm φ (x.zA.length-k) b) (exx D x m T) k i j↔c2E (exx D2 x m2 T2) k i j):=fun i j h1 gR h2=>by obtain⟨p1,p2⟩:=yBQ h hE hT hH ek hF (k:=k) (by omega) gR h2;have ci:=zNs h hE hT hk h1 (by omega);have cj:=zNs h hE hT hk (by omega) h2;unfold c2Q c2E;show Fm φ _ _=Fm φ _ _↔_;rw[cJ _ _ cj ci,cJ _ _ ci (zBH h hE hT hk p1),zQR h hE hT hH ek hF h1 (by omega),zQR h hE hT hH ek hF (by omega) h2,eD _ p1,p2]
 have e3:Fm φ (x.zA.length-(k+1)) (sig (suf (exx D x m T) (k+1)) (lvl (exx D x m T) k) (lvl (exx D x m T) k).w)=Fm φ (x.zA.length-(k+1)) (lvl (exx D x m T) k).w↔sig (suf (exx D2 x m2 T2) (k+1)) (lvl (exx D2 x m2 T2) k) (lvl (exx D2 x m2 T2) k).w=(lvl (exx D2 x m2 T2) k).w:=by rw[eD _ fS,yBO h hE hT hH ek hF hk]
 have e4:∀j,k+1<=j->j<x.zA.length->(c4Q (fun k a b=>Fm φ (x.zA.length-k) a=Fm φ (x.zA.length-k) b) (exx D x m T) k j↔c4E (exx D2 x m2 T2) k j):=fun j h1 h2=>by have hg:=zDR h hE hT h1 h2;unfold c4Q c4E;show Fm φ _ _=Fm φ _ _↔_;rw[cJ _ _ fS (zPc h hE hT hk _ hg),cJ _ _ hg fS,zL6 h hE hT hH ek hF hk cJ _ hg,zYh h hE hT hH ek hF h1 h2,yBO h hE hT hH ek hF hk,zC7 h hE hT hk,zC7 h hH ek hk]
 constructor
 ·intro g
  exact⟨fun j h1 h2=>(e1 j h1 h2).1 (g.c1 j h1 h2),fun i h1 hi j gR h2=>(e2 i j h1 (by omega) h2).1 (g.c2 i h1 hi j gR h2),e3.1 g.c3,fun j h1 h2=>(e4 j h1 h2).1 (g.c4 j h1 h2)⟩
 ·intro g
  exact⟨fun j h1 h2=>(e1 j h1 h2).2 (g.c1 j h1 h2),fun i h1 hi j gR h2=>(e2 i j h1 (by omega) h2).2 (g.c2 i h1 hi j gR h2),e3.2 g.c3,fun j h1 h2=>(e4 j h1 h2).2 (g.c4 j h1 h2)⟩
theorem zUL{m0:zB}(hM:Mv D x.zA.length m0 m)(hx:xU (suf x 0))(hr:zC3 x m2 D2):∃L,zJC ⟨x,m0,T⟩=iW L/\L.length<=1000/\(∀r∈L,Row m.Prime D r)/\((∀r∈L,φ r=zeros D2)↔xU (suf (exx D2 x m2 T2) 0)):=by
 have hp:=hE.m.p.pos;have aj:=hH.m.p.pos;obtain⟨L,e,g⟩:=zU4 h hE hT hM (Z:=fun r=>φ r=zeros D2) (Q:=fun k a b=>Fm φ (x.zA.length-k) a=Fm φ (x.zA.length-k) b) (fun k hk a b ha hb e=>by
  obtain⟨y,u,rfl,hy,hu,_,ef⟩:=prV h hE hT hk ha;obtain⟨z,v,rfl,hz,hv,_,cX⟩:=prV h hE hT hk hb;rw[Jr ef,Jr cX]at e;subst e;rw[K4 ef,K4 ef,zBI ef,zBI ef,List.append_cancel_left_eq];have ha:=uC (p:=m.Prime) (D:=D) (r:=u) (s:=v) (k:=-1) hE.m.p;have hs:adv m.Prime D (wQ m.Prime D u (-1) v) v=u:=by refine Eq.trans (zV (g:=fun j=>at0 u j) fun j hj=>?_) (wI hu.1).symm;have hr:=hu.2 j hj;rw[wQ,zT hj,Jak,show at0 u j+ -1*at0 v j+at0 v j=at0 u j from by omega,K5 (by omega) (by omega)]
  have hφ:=hF.add _ _ ha hv;rw[hs]at hφ;have hra:=hF.row _ ha;have hrv:=hF.row _ hv;constructor
  ·intro g
   rw[hφ,g,wW hrv]
  ·intro g
   rw[hφ,uD]at g;have:=(zQF (u:=φ v) hra (xD (p:=m.Prime) (D:=D2))).1 (by grind[zAz]);exact this) hx
 refine⟨L,e,g.len,g.row,g.iff.trans ?_⟩
 grind[zLu,zYi]
end
theorem zL7{D:Nat}{f:Nat->Int}:∀B:Nat,S (B*D) f=S B fun q=>S D fun l=>f (q*D+l)
 |0=>by rw[Ud];rfl
 |B+1=>by rw[K7,zFL,zL7 B];rfl
def blk(D:Nat)(w:Vec)(q:Nat):Vec:=mkv D fun j=>at0 w (q*D+j)
theorem zA1{D B q l:Nat}(hq:q<B)(hl:l<D):q*D+l<B*D:=by
 have:=Jw D (show q+1<=B by omega)
 grind
theorem zQS{p:Int}{D B:Nat}{w:Vec}(hw:Row p (B*D) w){q:Nat}(hq:q<B):Row p D (blk D w q):=
 ⟨zU _ _,fun j hj=>by rw[blk,zT hj];exact hw.2 _ (zA1 hq hj)⟩
theorem sX{D q l:Nat}(hl:l<D):(q*D+l)/D=q/\(q*D+l)%D=l:=by grind[Nat.mul_comm,Nat.mul_add_div,Nat.div_eq_of_lt,Nat.mul_add_mod,Nat.mod_eq_of_lt]
def ABk(B D:Nat)(A:Mx):Mx:=gl (B*D) fun i=>mkv (B*D) fun j=>if i/D=j/D then ent A (i%D) (j%D)else 0
theorem zQT{B D:Nat}{A:Mx}{i j:Nat}(hi:i<B*D)(hj:j<B*D):ent (ABk B D A) i j=if i/D=j/D then ent A (i%D) (j%D)else 0:=by
 show at0 ((gl (B*D) _).getD i []) j=_
 grind[zT]
theorem zYj{p:Int}{B D:Nat}{A:Mx}(hp:2<=p)(hD:0<D)(hA:Mat p D A):Mat p (B*D) (ABk B D A):=by
 refine⟨xI,fun i hi=>?_⟩;rw[ABk,xR hi];refine⟨zU _ _,fun j hj=>?_⟩;rw[zT hj];split
 ·exact(hA.2 (i%D) (Hn _ hD)).2 _ (Hn _ hD)
 ·omega
theorem zNu{p:Int}{B D:Nat}{u:Vec}{A:Mx}{q l:Nat}(hq:q<B)(hl:l<D):at0 (xG p (B*D) u (ABk B D A)) (q*D+l)=S D (fun i=>at0 u (q*D+i)*ent A i l)%p:=by
 rw[xG,zT (zA1 hq hl),zL7]
 congr 1
 rw[zBo (k:=q) hq fun i hi gk=>?_]
 ·refine xK fun i hi=>?_
  rw[zQT (zA1 hq hi) (zA1 hq hl),(sX hi).1,(sX hi).2,(sX hl).1,(sX hl).2,if_pos rfl]
 ·rw[xK (g:=fun _=>0) fun j hj=>?_,tZ]
  rw[zQT (zA1 hi hj) (zA1 hq hl),(sX hj).1,(sX hl).1,if_neg gk,Lp]
theorem zYk{p:Int}{B D:Nat}{u:Vec}{A:Mx}{q:Nat}(hq:q<B):blk D (xG p (B*D) u (ABk B D A)) q=xG p D (blk D u q) A:=by
 refine zV fun l hl=>?_
 grind[zNu,xK,blk,zT]
theorem zNv{D B:Nat}{w:Vec}(hw:w.length=B*D){q:Nat}(hq:q<B):(w.drop (q*D)).take D=blk D w q:=by
 have h1:=Jw D (show q+1<=B by omega);rw[K7]at h1;apply Hj
 ·grind[blk,zU]
 grind[blk,mkv]
theorem zUM{D B:Nat}{w:Vec}(hw:w.length=B*D){q:Nat}(hq:q<B):w.take (q*D)++blk D w q=w.take ((q+1)*D):=by rw[<-zNv hw hq,K7,List.take_add]
def mBk(B D n:Nat)(m:zB):zB:=⟨m.Prime,((B*D:Nat):Int),(J8 n).map fun k=>ABk B D (m.zF.getD k [])⟩
theorem zL8{B D n:Nat}{m:zB}{k:Nat}(hk:k<n):(mBk B D n m).zF.getD k []=ABk B D (m.zF.getD k []):=by grind[mBk]
theorem yBR{B D n:Nat}{m:zB}(hm:MOk n m D)(h2:B*D<=200:=by omega):zTW n (mBk B D n m) (B*D):=by have h1:=hm.d1;have hp:=hm.p.pos;refine⟨hm.p,h2,by simp[mBk],fun i hi=>?_⟩;rw[zL8 hi];exact zYj (by show 2<=m.Prime;omega) (by omega) (hm.mat i hi)
theorem yBS{B D n:Nat}{m:zB}(hm:MOk n m D)(h2:B*D<=200:=by omega):Mv (B*D) n m (mBk B D n m):=by
 refine⟨rfl,fun k hk u hu=>?_⟩;have h1:=hm.d1;have h3:=hm.d3;have eQ:=hu.1;have iq:=hm.len;have hA:=hm.mat k hk;rw[zL8 hk];have hR:(xG m.Prime (B*D) u (ABk B D (m.zF.getD k []))).length=B*D:=by rw[xG,zU]
 unfold zWi;have:=zQ (body:=zGd m u (k:Int)) (r:=xG m.Prime (B*D) u (ABk B D (m.zF.getD k []))) (fun i=>((xG m.Prime (B*D) u (ABk B D (m.zF.getD k []))).take (i*D),((i*D:Nat):Int))) B (fun i hi=>by
  have gS:=Jw D (show i+1<=B by omega);rw[K7]at gS;unfold zGd;simp only
  rw[jc,zK,hm.d,zG,bs];have fU:zL u ((i*D:Nat):Int) (((i*D:Nat):Int)+(D:Int))=iW (blk D u i):=by
   unfold zL;rw[if_pos ⟨by omega,by omega,by omega⟩]
   congr 1
   rw[show(((i*D:Nat):Int)+(D:Int)).toNat=i*D+D from by omega,J6,Ky];exact zNv eQ hi
  rw[fU,bs,zY [],bs,zCP hm.p (by omega) (zQS hu hi) hA,bs,<-zYk (B:=B) hi,zX (by rw[Kf,blk,zU];omega),bs,zUM hR hi,bs,K7];rfl) (by
  unfold zGd;simp only
  rw[jb (by omega),zM,Jo (by omega)])
 rw[Ud,Ki]at this;rw[show((0:Nat):Int)=0 from rfl]at this;rw[this,bs];rfl
def phi(p:Int)(B D:Nat)(c w:Vec):Vec:=mkv D fun j=>S B (fun q=>at0 c q*at0 w (q*D+j))%p
theorem zYl{p:Int}{B D:Nat}{c w:Vec}(hp:2<=p):Row p D (phi p B D c w):=⟨zU _ _,fun j hj=>by rw[phi,zT hj];exact⟨Kr _ (by omega),by have:=Ke (S B fun q=>at0 c q*at0 w (q*D+j)) (show 0<p by omega);omega⟩⟩
def Tc(N D:Nat)(c:Vec):Mx:=gl N fun i=>blk D c i
theorem yBT{n B D N:Nat}{m:zB}{TB:Mx}{c:Vec}(hm:MOk n m D)(hN:B=N*D)(hb:base n n=N)(hc:Row m.Prime B c)(ht:∀i,i<N->TB.getD i []=mkv (B*D) fun j=>if j/D=i*D+j%D then 1 else 0):Fh n (B*D) D (mBk B D n m) m TB (Tc N D c) (phi m.Prime B D c):=by
 have hp:=hm.p.pos;have h1:=hm.d1;refine⟨rfl,fun u _=>zYl (by show 2<=m.Prime;omega),?_,fun u v hu hv=>?_,fun k hk u hu=>?_,fun r hr=>?_⟩
 ·rw[show zeros D=mkv D fun _=>0 from uB D]
  refine zV fun j hj=>?_
  rw[xK (g:=fun _=>0) fun q hq=>by rw[vG,Lp],tZ];simp
 ·refine zV fun j hj=>?_
  rw[phi,phi,zT hj,zT hj];show _%m.Prime=(_%m.Prime+_%m.Prime)%m.Prime;rw[<-Kd,<-zDF];refine zAV fun q hq=>?_
  rw[zT (zA1 hq hj),<-Int.mul_add];show(at0 c q*((at0 u (q*D+j)+at0 v (q*D+j))%m.Prime))%m.Prime=_
  grind[Ju,Jy]
 ·rw[zL8 hk]
  refine zV fun j hj=>?_
  show S B (fun q=>at0 c q*at0 (xG m.Prime (B*D) u (ABk B D (m.zF.getD k []))) (q*D+j))%m.Prime=S D (fun l=>at0 (phi m.Prime B D c u) l*ent (m.zF.getD k []) l j)%m.Prime;rw[zAV (g:=fun q=>at0 c q*S D (fun i=>at0 u (q*D+i)*ent (m.zF.getD k []) i j)) (by grind[zNu,Ju,Jy])];rw[zAV (f:=fun l=>at0 (phi m.Prime B D c u) l*ent (m.zF.getD k []) l j) (g:=fun l=>S B (fun q=>at0 c q*at0 u (q*D+l))*ent (m.zF.getD k []) l j) (by grind[phi,zT,Ju,Jy])]
  congr 1
  rw[xK (g:=fun q=>S D (fun i=>at0 c q*(at0 u (q*D+i)*ent (m.zF.getD k []) i j))) (by grind[zDG]),zIF];refine xK fun l hl=>?_
  rw[<-zMN]
  grind
 ·rw[hb]at hr
  rw[ht r hr,Tc,xR hr];refine zV fun j hj=>?_
  have gS:r*D+j<B:=by rw[hN];exact zA1 hr hj
  rw[zBo (k:=r*D+j) gS fun q hq gk=>?_]
  ·rw[zT (zA1 gS hj),(sX hj).1,(sX hj).2,if_pos rfl,H2]
   have:=hc.2 _ gS;exact K5 this.1 (by omega)
  ·rw[zT (zA1 hq hj),(sX hj).1,(sX hj).2,if_neg gk,Lp]
def uT(N D:Nat):Mx:=gl N fun i=>mkv (N*D*D) fun j=>if j/D=i*D+j%D then 1 else 0
section
variable {x:SPr}{m:zB}{D:Nat} (hx:sJ x) (hD:MOk x.zA.length m D)
 include hx hD
theorem zUN{D2:Nat}{m2:zB}{T:Mx}(hm:zTW x.zA.length m2 D2)(ht:T.length=base x.zA.length x.zA.length):ExB x.zA.length D2 x m2 T:=by have _:=hD;refine⟨hx.n6,rfl,hx.pl,hx.cl,fun i hi=>?_,ht,hm⟩;have:=(hx.tl i hi).2.1;omega
theorem yAq{y:Vec}(hy:Row m.Prime (base x.zA.length x.zA.length*D) y):ExB x.zA.length D x m (Tc (base x.zA.length x.zA.length) D y)/\ ∀i,i<(Tc (base x.zA.length x.zA.length) D y).length->Row m.Prime D ((Tc (base x.zA.length x.zA.length) D y).getD i []):=by
 refine⟨zUN hx hD hD.b xI,fun i hi=>?_⟩
 grind[Tc,zQS]
theorem zUO(h0:0<x.zA.length)(hc:xU (suf x 0))(hr:zC3 x m D):∃L,zJC ⟨x,m,uT (base x.zA.length x.zA.length) D⟩=iW L/\L.length<=1000/\(∀r∈L,Row m.Prime (base x.zA.length x.zA.length*D*D) r)/\
  ∀y,Row m.Prime (base x.zA.length x.zA.length*D) y->((∀r∈L,phi m.Prime (base x.zA.length x.zA.length*D) D y r=zeros D)↔xU (suf (exx D x m (Tc (base x.zA.length x.zA.length) D y)) 0)):=by
 have h6:=hx.n6;have hb:=xY x.zA.length (by omega);have h1:=hD.d1;have h3:=hD.d3;have hp:=hD.p.pos;have hB:base x.zA.length x.zA.length*D<=21*3:=Jp hb.2.1 h3;have hBD:base x.zA.length x.zA.length*D*D<=63*3:=Jp (by omega) h3;have hE:=zUN hx hD (T:=uT (base x.zA.length x.zA.length) D) (yBR (B:=base x.zA.length x.zA.length*D) hD) xI;have hT:∀i,i<(uT (base x.zA.length x.zA.length) D).length->Row (mBk (base x.zA.length x.zA.length*D) D x.zA.length m).Prime (base x.zA.length x.zA.length*D*D) ((uT (base x.zA.length x.zA.length) D).getD i []):=fun i hi=>by rw[uT,xI]at hi;rw[uT,xR hi];refine⟨zU _ _,fun j hj=>?_⟩;rw[zT hj];show _/\_<=m.Prime-1;omega
 have hM:=yBS (B:=base x.zA.length x.zA.length*D) hD;have key:∀y,Row m.Prime (base x.zA.length x.zA.length*D) y-> ∃L,zJC ⟨x,m,uT (base x.zA.length x.zA.length) D⟩=iW L/\L.length<=1000/\(∀r∈L,Row m.Prime (base x.zA.length x.zA.length*D*D) r)/\((∀r∈L,phi m.Prime (base x.zA.length x.zA.length*D) D y r=zeros D)↔xU (suf (exx D x m (Tc (base x.zA.length x.zA.length) D y)) 0)):=fun y hy=>by obtain⟨e1,e2⟩:=yAq hx hD hy;exact zUL hx.toPres hE hT e1 e2 (yBT hD rfl rfl hy (by grind[uT])) hM hc hr
 obtain⟨L,l1,l2,l3,_⟩:=key (zeros (base x.zA.length x.zA.length*D)) (xD)
 grind
end
def zFV(D k:Nat)(L:Mx):List Int:=(L.map fun r=>blk D r k).flatten
theorem zNw{D k:Nat}:∀L:Mx,(zFV D k L).length=L.length*D
 | []=>by rw[zFV];simp
 |r::L=>by
  have ih:=zNw (D:=D) (k:=k) L
  grind[zFV,blk,zU]
theorem zL9{D k:Nat}:∀(L:Mx)(i j:Nat),i<L.length->j<D->at0 (zFV D k L) (i*D+j)=at0 (L.getD i []) (k*D+j)
 | [],i,j,hi,_=>by simp at hi
 |r::L,i,j,hi,hj=>by
  have hl:(blk D r k).length=D:=zU _ _;simp only[zFV,Js,Hi];cases i with
  |zero=>
   rw[Ud,Jc,Gd,at0,J2,K0 (by omega),<-J2];show at0 (blk D r k) j=_;rw[blk,zT hj]
  |succ i=>
   have ih:=zL9 (D:=D) (k:=k) L i j (by grind) hj;simp only[zFV]at ih
   grind
theorem zUP{p:Int}{B D:Nat}{L:Mx}{y:Vec}:(∀c,c<L.length*D->(S B fun k=>at0 y k*ent (gl B fun k=>zFV D k L) k c)%p=0)↔ ∀r∈L,phi p B D y r=zeros D:=by
 have e:∀i j,i<L.length->j<D->(S B fun k=>at0 y k*ent (gl B fun k=>zFV D k L) k (i*D+j))%p=at0 (phi p B D y (L.getD i [])) j:=fun i j hi hj=>by
  rw[phi,zT hj]
  congr 1
  refine xK fun k hk=>?_
  show at0 y k*at0 ((gl B fun k=>zFV D k L).getD k []) (i*D+j)=_
  grind[zL9]
 constructor
 ·intro g r hr
  obtain⟨i,hi,rfl⟩:=Jz.1 hr;rw[show zeros D=mkv D fun _=>0 from uB D,wI (D:=D) (v:=phi p B D y L[i]) (zU _ _)];refine zV fun j hj=>?_
  have:=e i j hi hj;rw[J2,J5 hi]at this;rw[<-g _ (zA1 hi hj),this];rfl
 ·intro g c hc
  have hD:0<D:=by grind
  have hi:c/D<L.length:=(H1 hD).2 hc;have hj:c%D<D:=Hn _ hD;rw[show c=c/D*D+c%D from by grind[Lr],e _ _ hi hj,g _ (by rw[J2,J5 hi];exact K3 hi),vG]
def zCh(p:Int)(D:Nat)(m:zB):List (Nat×List Nat)->Nat->Nat->Nat->Int
 | [],_,_,_=>0
 |(q,s)::t,r,i,j=>(if q=r then ent (wM p D m.zF s (idM D)) i j else 0)+zCh p D m t r i j
section
variable {p:Int}{D N:Nat}{m:zB}{y:Vec}
theorem zUQ{j:Nat}(hj:j<D):∀t:List (Nat×List Nat),(∀q∈t,q.1<N)->at0 (tv p D m (Tc N D y) t) j=(S N fun r=>S D fun i=>at0 y (r*D+i)*zCh p D m t r i j)%p
 | [],_=>by
  show at0 (zeros D) j=_;rw[vG,xK (g:=fun _=>0) fun r _=>by rw[xK (g:=fun _=>0) fun i _=>by rw[zCh,Lp],tZ],tZ]
  rfl
 |(q,s)::t,h=>by
  have hq:q<N:=h (q,s) (by simp);have ih:=zUQ hj t (by grind);show at0 (adv p D (xG p D ((Tc N D y).getD q []) (wM p D m.zF s (idM D))) (tv p D m (Tc N D y) t)) j=_;rw[show adv p D=fun u v=>mkv D fun j=>(at0 u j+at0 v j)%p from rfl];show at0 (mkv D _) j=_;rw[zT hj,ih,xG,zT hj,<-Kd]
  congr 1
  have e:(S N fun r=>S D fun i=>at0 y (r*D+i)*zCh p D m ((q,s)::t) r i j)=
    (S N fun r=>S D fun i=>at0 y (r*D+i)*(if q=r then ent (wM p D m.zF s (idM D)) i j else 0))+S N fun r=>S D fun i=>at0 y (r*D+i)*zCh p D m t r i j:=by
   rw[<-zDF];refine xK fun r _=>?_
   rw[<-zDF]
   grind[zCh]
  rw[e]
  congr 1
  rw[zBo (k:=q) hq fun r _ hr=>by rw[xK (g:=fun _=>0) (by grind),tZ]]
  refine xK fun l hl=>?_
  rw[if_pos rfl,Tc,xR hq,blk,zT hl]
end
def prR(p:Int)(D:Nat)(m:zB)(t1 t2:List (Nat×List Nat))(k:Nat):List Int:=mkv D fun j=>(zCh p D m t1 (k/D) (k%D) j-zCh p D m t2 (k/D) (k%D) j)%p
section
variable {p:Int}{D N:Nat}{m:zB}{y:Vec}
theorem zQU(hp:2<=p){t1 t2:List (Nat×List Nat)}(h1:∀q∈t1,q.1<N)(h2:∀q∈t2,q.1<N):
  (∀j,j<D->(S (N*D) fun k=>at0 y k*at0 (prR p D m t1 t2 k) j)%p=0)↔tv p D m (Tc N D y) t1=tv p D m (Tc N D y) t2:=by
 have e:∀j,j<D->(S (N*D) fun k=>at0 y k*at0 (prR p D m t1 t2 k) j)%p=(at0 (tv p D m (Tc N D y) t1) j-at0 (tv p D m (Tc N D y) t2) j)%p:=fun j hj=>by
  rw[zUQ hj t1 h1,zUQ hj t2 h2,<-Uq,zL7];have e1:((S N fun r=>S D fun i=>at0 y (r*D+i)*zCh p D m t1 r i j)-S N fun r=>S D fun i=>at0 y (r*D+i)*zCh p D m t2 r i j)=S N fun r=>S D fun i=>at0 y (r*D+i)*(zCh p D m t1 r i j-zCh p D m t2 r i j):=by
   have:(S N fun r=>S D fun i=>at0 y (r*D+i)*zCh p D m t1 r i j)=(S N fun r=>S D fun i=>at0 y (r*D+i)*(zCh p D m t1 r i j-zCh p D m t2 r i j))+S N fun r=>S D fun i=>at0 y (r*D+i)*zCh p D m t2 r i j:=by
    rw[<-zDF];refine xK fun r _=>?_
    rw[<-zDF]
    grind
   omega
  rw[e1];refine zAV fun r _=>zAV fun i hi=>?_
  grind[sX,prR,zT,Ju,Jy]
 constructor
 ·intro g
  have r1:=zGJ (D:=D) (m:=m) (T:=Tc N D y) hp t1;have r2:=zGJ (D:=D) (m:=m) (T:=Tc N D y) hp t2;rw[wI r1.1,wI r2.1];refine zV fun j hj=>?_
  have k:=e j hj;rw[g j hj]at k;have b1:=r1.2 j hj;have b2:=r2.2 j hj;have:=Int.emod_emod_of_dvd (at0 (tv p D m (Tc N D y) t1) j-at0 (tv p D m (Tc N D y) t2) j) (Int.dvd_refl p);have iH:p∣at0 (tv p D m (Tc N D y) t1) j-at0 (tv p D m (Tc N D y) t2) j:=by omega
  obtain⟨c,hc⟩:=iH;have:c=0:=by
   rcases Int.lt_trichotomy c 0 with gJ|h0|hgt
   ·have:p*c<=p*(-1):=Ly (by omega) (by omega)
    omega
   ·exact h0
   ·have:p*1<=p*c:=Ly (by omega) (by omega)
    omega
  grind
 simp_all
end
abbrev Trc:=List (Nat×List Nat)
structure PD where
 k:Nat
 wd:List Nat
 t:Nat
 r1:Nat
 s1:List Nat
 w1:List Nat
 r2:Nat
 s2:List Nat
 w2:List Nat
section
variable (x:SPr)
abbrev PD.B(d:PD)(t1 t2:Trc):Prop:=zL5 x d.k d.r1 d.s1 d.w1 d.r2 d.s2 d.w2 t1 t2
def ups(n i:Nat):List Nat:=Kk (i+1) (n-(i+1))
def pd2(i j k:Nat):PD:=⟨i,[k,j,i],1,base x.zA.length j+(k-(j+1)),[i],j::(nw 0 (lcj x j k)++[i]),base x.zA.length i+(j-(i+1)),[],k::i::nw 0 (lcj x i j)⟩
def pd1(i j:Nat):PD:=⟨i,J1 (yG x j) j++[i],yG x j-1,j,[i],nw 0 (x.zJ.getD j [])++[i],base x.zA.length i+(j-(i+1)),[],J1 (yG x j-1) j++i::nw 0 (lcj x i j)⟩
def pd4(i j:Nat):PD:=⟨i,j::J1 (yG x i) i,1,base x.zA.length i+(j-(i+1)),J1 (yG x i-1) i,i::(nw 0 (lcj x i j)++J1 (yG x i-1) i),i,[],j::nw 0 (x.zJ.getD i [])⟩
def pd3(i:Nat):PD:=⟨i,J1 (yG x i+1) i,1,i,[i],nw 0 (x.zJ.getD i [])++[i],i,[],i::nw 0 (x.zJ.getD i [])⟩
def cps:List PD:=
 ((J8 x.zA.length).flatMap fun i=>(ups x.zA.length i).flatMap fun j=>(ups x.zA.length j).map fun k=>pd2 x i j k)++
 (((J8 x.zA.length).flatMap fun i=>(ups x.zA.length i).map fun j=>pd1 x i j)++
 (((J8 x.zA.length).flatMap fun i=>(ups x.zA.length i).map fun j=>pd4 x i j)++
 (J8 x.zA.length).map fun i=>pd3 x i))
end
theorem zFW{n i j:Nat}:j∈ups n i↔i<j/\j<n:=by grind[ups]
section
variable {x:SPr}
theorem zBZ{φ:PD->Prop}:(∀d∈cps x,φ d)↔(∀i j k,i<j->j<k->k<x.zA.length->φ (pd2 x i j k))/\(∀i j,i<j->j<x.zA.length->φ (pd1 x i j))/\(∀i j,i<j->j<x.zA.length->φ (pd4 x i j))/\ ∀i,i<x.zA.length->φ (pd3 x i):=by
 constructor
 ·intro g
  refine⟨fun i j k h1 h2 h3=>g _ ?_,fun i j h1 h2=>g _ ?_,fun i j h1 h2=>g _ ?_,fun i h1=>g _ ?_⟩
  ·exact Gu _ (Ls.2 ⟨i,by grind,Ls.2 ⟨j,by grind[zFW],Jn.2 ⟨k,zFW.2 ⟨h2,h3⟩,rfl⟩⟩⟩)
  ·exact Hg _ (Gu _ (Ls.2 ⟨i,by grind,Jn.2 ⟨j,zFW.2 ⟨h1,h2⟩,rfl⟩⟩))
  ·exact Hg _ (Hg _ (Gu _ (Ls.2 ⟨i,by grind,Jn.2 ⟨j,zFW.2 ⟨h1,h2⟩,rfl⟩⟩)))
  ·exact Hg _ (by grind)
 ·rintro⟨g2,g1,g4,g3⟩ d hd
  simp only[cps,Jf,Ls,Jn,Ll,zFW]at hd
  grind
theorem zSe{D:Nat}{m:zB}{T:Mx}:yAo x D m T↔ ∀d∈cps x,∀t1 t2,d.B x t1 t2->tv m.Prime D m T t1=tv m.Prime D m T t2:=by
 rw[zBZ (φ:=fun d=> ∀t1 t2,d.B x t1 t2->tv m.Prime D m T t1=tv m.Prime D m T t2)];constructor
 ·intro g
  exact⟨fun i j k h1 h2 h3=>g.p2 i j k h1 h2 h3,fun i j h1 h2=>g.p1 i j h1 h2,fun i j h1 h2=>g.p4 i j h1 h2,fun i h1=>g.p3 i h1⟩
 ·rintro⟨g2,g1,g4,g3⟩
  exact⟨fun k j h1 h2=>g1 k j h1 h2,fun k i j h1 h2 h3=>g2 k i j h1 h2 h3,fun k hk=>g3 k hk,fun k j h1 h2=>g4 k j h1 h2⟩
theorem yAr(h6:x.zA.length<=6){w:List Nat}{r:zFe}(hw:∀a∈w,a<x.zA.length)(h:hdS x w=iW r):r.1<base x.zA.length x.zA.length:=by
 unfold hdS at h;have hb:=xY x.zA.length (by omega)
 match w,h with
 | [],h=>cases h
 | [a],h=>
  grind[swp,pws]
 |a::b::w,h=>
  have ha:=hw a (by simp);simp only[swp]at h
  by_cases g:b<a
  ·rw[if_pos g]at h
   cases h;have:=zBW x.zA.length (by omega) b (by omega);omega
  ·rw[if_neg g]at h
   grind[pws]
theorem yAs(h6:x.zA.length<=6):∀{w:List Nat}{r:zFe},(∀a∈w,a<x.zA.length)->stS x w=iW r->r.1<base x.zA.length x.zA.length
 | [],_,_,h=>by cases h
 |a::w,r,hw,h=>by
  simp only[stS]at h;cases e:hdS x (a::w)with
  |some q=>
   rw[e]at h;cases h;exact yAr h6 hw e
  |none=>
   rw[e]at h;cases e2:stS x w with
   |none=>grind
   |some q=>
    rw[e2]at h;cases h;have:=yAs (w:=w) (r:=q) h6 (by grind) e2;exact this
theorem Col.lt(h6:x.zA.length<=6){k:Nat}{w w':List Nat}{tr:Trc}(hc:Col x k w tr w'):∀q∈tr,q.1<base x.zA.length x.zA.length:=by
 induction hc with
 |refl w=>simp
 |step hw hs _ ih=>
  intro q hq;rcases Jb.1 hq with rfl|hq
  ·exact yAs h6 (by grind) hs
  grind
end
section
variable {x:SPr} (h:Pres x) (h6:x.zA.length<=6)
 include h
theorem zNx{d:PD}{t1 t2 u1 u2:Trc}(hk:d.k<=x.zA.length)(a:d.B x t1 t2)(b:d.B x u1 u2):t1=u1/\t2=u2:=by
 obtain⟨⟨v1,y1,rfl,k1⟩,⟨v2,y2,rfl,k2⟩⟩:=a;obtain⟨⟨v3,y3,rfl,k3⟩,⟨v4,y4,rfl,k4⟩⟩:=b;have nn:=fun(y:Vec)(hy:V (suf x d.k) y)=>zGK h (x.zA.length-d.k) d.k (by omega) y hy
 exact⟨by rw[(Col.det k1.col k3.col (nn _ k1.v) (nn _ k3.v)).1],by rw[(Col.det k2.col k4.col (nn _ k2.v) (nn _ k4.v)).1]⟩
 include h6
theorem zHL:∀d∈cps x,d.k<x.zA.length/\(∀a∈d.wd,a<x.zA.length)/\ ∃t1 t2,d.B x t1 t2/\(∀q∈t1,q.1<base x.zA.length x.zA.length)/\ ∀q∈t2,q.1<base x.zA.length x.zA.length:=by
 have fw:∀i j,i<j->j<x.zA.length-> ∀a∈nw 0 (lcj x i j),i+1<=a/\a<x.zA.length:=fun i j hi hj=>(qE h (uJ h hi hj) (by omega)).2
 have fF:∀i,i<x.zA.length-> ∀a∈nw 0 (x.zJ.getD i []),i+1<=a/\a<x.zA.length:=fun i hi=>(qE h (zAd h hi) hi).2
 have eO:=xY x.zA.length (by omega);have cC:=fun i(hi:i<x.zA.length)=>zBW x.zA.length (by omega) i hi
 have key:∀(d:PD),d.k<x.zA.length->(∀a∈d.wd,a<x.zA.length)->d.r1<base x.zA.length x.zA.length->d.r2<base x.zA.length x.zA.length->(∀a∈d.w1,d.k<=a/\a<x.zA.length)->(∀a∈d.w2,d.k<=a/\a<x.zA.length)->d.k<x.zA.length/\(∀a∈d.wd,a<x.zA.length)/\ ∃t1 t2,d.B x t1 t2/\(∀q∈t1,q.1<base x.zA.length x.zA.length)/\ ∀q∈t2,q.1<base x.zA.length x.zA.length:=by
  intro d hk mE b1 b2 c1 c2;obtain⟨u1,y1,k1⟩:=zYg h (x.zA.length-d.k) d.k (by omega) d.w1 c1;obtain⟨u2,y2,k2⟩:=zYg h (x.zA.length-d.k) d.k (by omega) d.w2 c2;refine⟨hk,mE,_,_,⟨⟨u1,y1,rfl,k1⟩,⟨u2,y2,rfl,k2⟩⟩,fun q hq=>?_,fun q hq=>?_⟩
  ·rcases Jb.1 hq with rfl|hq
   ·exact b1
   ·exact k1.col.lt h6 q hq
  ·rcases Jb.1 hq with rfl|hq
   ·exact b2
   ·exact k2.col.lt h6 q hq
 refine zBZ.2 ⟨fun i j k h1 h2 h3=>key _ ?_ ?_ ?_ ?_ ?_ ?_,fun i j h1 h2=>key _ ?_ ?_ ?_ ?_ ?_ ?_,fun i j h1 h2=>key _ ?_ ?_ ?_ ?_ ?_ ?_,fun i h1=>key _ ?_ ?_ ?_ ?_ ?_ ?_⟩
 ·show i<_;omega
 ·intro a ha
  simp only[pd2,Jb,Qh,or_false]at ha;omega
 ·have:=cC j (by omega);show base _ j+(k-(j+1))<_;omega
 ·have:=cC i (by omega);show base _ i+(j-(i+1))<_;omega
 ·intro a ha
  simp only[pd2,Jb,Jf,Qh,or_false]at ha ⊢
  rcases ha with rfl|ha|rfl
  ·omega
  ·grind
  ·omega
 ·intro a ha
  simp only[pd2,Jb]at ha ⊢
  rcases ha with rfl|rfl|ha
  ·omega
  ·omega
  grind
 ·show i<_;omega
 ·intro a ha
  simp only[pd1,Jf,List.mem_singleton]at ha;rcases ha with ha|rfl
  ·grind
  ·omega
 ·show j<_;omega
 ·have:=cC i (by omega);show base _ i+(j-(i+1))<_;omega
 ·intro a ha
  simp only[pd1,Jf,List.mem_singleton]at ha ⊢
  rcases ha with ha|rfl
  ·grind
  ·omega
 ·intro a ha
  simp only[pd1,Jf,Jb]at ha ⊢
  rcases ha with ha|rfl|ha
  ·grind
  ·omega
  grind
 ·show i<_;omega
 ·intro a ha
  simp only[pd4,Jb]at ha;rcases ha with rfl|ha
  ·omega
  grind
 ·have:=cC i (by omega);show base _ i+(j-(i+1))<_;omega
 ·show i<_;omega
 ·intro a ha
  simp only[pd4,Jb,Jf]at ha ⊢
  rcases ha with rfl|ha|ha
  ·omega
  ·grind
  grind
 ·intro a ha
  simp only[pd4,Jb]at ha ⊢
  rcases ha with rfl|ha
  ·omega
  grind
 ·exact h1
 ·intro a ha
  have:=He (show a∈J1 _ i from ha);omega
 ·show i<_;omega
 ·show i<_;omega
 ·intro a ha
  simp only[pd3,Jf,List.mem_singleton]at ha ⊢
  rcases ha with ha|rfl
  ·grind
  ·omega
 ·intro a ha
  simp only[pd3,Jb]at ha ⊢
  rcases ha with rfl|ha
  ·omega
  grind
end
theorem zGM{α:Type}{F:α->Vec}{D:Nat}(hF:∀a,(F a).length=D):∀L:List α,((L.map F).flatten).length=L.length*D
 | []=>by simp
 |a::L=>by rw[Js,Hi,J7,hF,zGM hF L,Jd,K7];omega
theorem zFX{α:Type}{F:α->Vec}{D:Nat}(hF:∀a,(F a).length=D):∀(L:List α)(i j:Nat)(hi:i<L.length),j<D->at0 ((L.map F).flatten) (i*D+j)=at0 (F L[i]) j
 | [],i,j,hi,_=>by simp at hi
 |a::L,i,j,hi,hj=>by
  have hl:=hF a;rw[Js,Hi];cases i with
  |zero=>
   grind
  |succ i=>
   have ih:=zFX hF L i j (by grind) hj
   grind
def zBe(p:Int)(D:Nat)(m:zB)(prs:List (Trc×Trc))(k:Nat):List Int:=(prs.map fun q=>prR p D m q.1 q.2 k).flatten
theorem zJo{p:Int}{D k:Nat}{m:zB}(prs:List (Trc×Trc)):(zBe p D m prs k).length=prs.length*D:=zGM (F:=fun q:Trc×Trc=>prR p D m q.1 q.2 k) (fun _=>zU _ _) prs
theorem zUR{p:Int}{D N:Nat}{m:zB}{y:Vec}(hp:2<=p){prs:List (Trc×Trc)}(hl:∀q∈prs,(∀r∈q.1,r.1<N)/\ ∀r∈q.2,r.1<N):
  (∀c,c<prs.length*D->(S (N*D) fun k=>at0 y k*ent (gl (N*D) fun k=>zBe p D m prs k) k c)%p=0)↔ ∀q∈prs,tv p D m (Tc N D y) q.1=tv p D m (Tc N D y) q.2:=by
 have e:∀i j(hi:i<prs.length),j<D->(S (N*D) fun k=>at0 y k*ent (gl (N*D) fun k=>zBe p D m prs k) k (i*D+j))=S (N*D) fun k=>at0 y k*at0 (prR p D m prs[i].1 prs[i].2 k) j:=fun i j hi hj=>by
  refine xK fun k hk=>?_
  show at0 y k*at0 ((gl (N*D) fun k=>zBe p D m prs k).getD k []) (i*D+j)=_
  grind[zBe,zFX,prR,zU]
 constructor
 ·intro g q hq
  obtain⟨i,hi,rfl⟩:=Jz.1 hq;refine(zQU hp (hl _ hq).1 (hl _ hq).2).1 fun j hj=>?_
  rw[<-e i j hi hj];exact g _ (zA1 hi hj)
 ·intro g c hc
  have hD:0<D:=by grind
  have hi:c/D<prs.length:=(H1 hD).2 hc;have hj:c%D<D:=Hn _ hD;have hm:=K3 hi;rw[show c=c/D*D+c%D from by grind[Lr],e _ _ hi hj];exact(zQU hp (hl _ hm).1 (hl _ hm).2).2 (g _ hm) _ hj
def jO(x:SPr):List PD->List (Trc×Trc)->Prop
 | [],[]=>True
 |d::ds,q::qs=>d.B x q.1 q.2/\jO x ds qs
 |_,_=>False
theorem jO.len{x:SPr}:{ds:List PD}->{qs:List (Trc×Trc)}->jO x ds qs->ds.length=qs.length
 | [],[],_=>rfl
 |d::ds,q::qs,h=>by rw[Jd,Jd,jO.len h.2]
 | [],_::_,h=>by simp[jO]at h
 |_::_,[],h=>by simp[jO]at h
theorem jO.all{x:SPr}{φ:Trc×Trc->Prop}:{ds:List PD}->{qs:List (Trc×Trc)}->jO x ds qs->(∀d∈ds,∀t1 t2,d.B x t1 t2->φ (t1,t2))-> ∀q∈qs,φ q
 | [],[],_,_,q,hq=>by cases hq
 |d::ds,q::qs,h,g,r,hr=>by
  rcases Jb.1 hr with rfl|hr
  ·exact g d (by simp) _ _ h.1
  ·exact jO.all h.2 (by grind) r hr
 | [],_::_,h,_,_,_=>by simp[jO]at h
 |_::_,[],h,_,_,_=>by grind
theorem jO.of{x:SPr}{φ:Trc×Trc->Prop}:{ds:List PD}->{qs:List (Trc×Trc)}->jO x ds qs->(∀q∈qs,φ q)-> ∀d∈ds,∃t1 t2,d.B x t1 t2/\φ (t1,t2)
 | [],[],_,_,d,hd=>by cases hd
 |d::ds,q::qs,h,g,r,hr=>by
  rcases Jb.1 hr with rfl|hr
  ·exact⟨q.1,q.2,h.1,g q (by simp)⟩
  ·exact jO.of h.2 (by grind) r hr
 | [],_::_,h,_,_,_=>by grind
 |_::_,[],h,_,_,_=>by simp[jO]at h
section
variable {x:SPr}{m:zB}{D:Nat} (hx:sJ x) (hD:MOk x.zA.length m D)
 include hx hD
theorem zUS{prs:List (Trc×Trc)}(hq:jO x (cps x) prs)(hc:xU (suf x 0))(hr:zC3 x m D){y:Vec}(hy:Row m.Prime (base x.zA.length x.zA.length*D) y):
  (∀c,c<prs.length*D->(S (base x.zA.length x.zA.length*D) fun k=>at0 y k*ent (gl (base x.zA.length x.zA.length*D) fun k=>zBe m.Prime D m prs k) k c)%m.Prime=0)↔xU (suf (exx D x m (Tc (base x.zA.length x.zA.length) D y)) 0):=by
 have hp:=hD.p.pos;have cW:=zHL hx.toPres hx.n6;have gJ:∀q∈prs,(∀r∈q.1,r.1<base x.zA.length x.zA.length)/\ ∀r∈q.2,r.1<base x.zA.length x.zA.length:=hq.all fun d hd t1 t2 hb=>by
  obtain⟨hk,_,u1,u2,pO,l1,l2⟩:=cW d hd;obtain⟨rfl,rfl⟩:=zNx hx.toPres (by omega) hb pO
  grind
 obtain⟨e1,e2⟩:=yAq hx hD hy;rw[zUR (by omega) gJ,<-zSd hx.toPres e1 e2 hc hr,zSe];constructor
 ·intro g d hd t1 t2 hb
  obtain⟨u1,u2,pO,e⟩:=hq.of (φ:=fun q=>tv m.Prime D m (Tc (base x.zA.length x.zA.length) D y) q.1=tv m.Prime D m (Tc (base x.zA.length x.zA.length) D y) q.2) g d hd;obtain⟨rfl,rfl⟩:=zNx hx.toPres (by grind) hb pO;exact e
 ·intro g
  exact hq.all (by omega)
theorem yBU:∃prs,jO x (cps x) prs:=by
 have _:=hD;have cW:=zHL hx.toPres hx.n6
 revert cW
 generalize cps x=ds
 intro cW
 induction ds with
 |nil=>exact⟨[],trivial⟩
 |cons d ds ih=>
  obtain⟨qs,hq⟩:=ih (by grind);obtain⟨_,_,t1,t2,hb,_⟩:=cW d (by simp);exact⟨(t1,t2)::qs,hb,hq⟩
end
section
variable {x:SPr}{m:zB}{D:Nat} (hD:MOk x.zA.length m D)
 include hD
theorem zSf{N i:Nat}(hi:i<N)(hN:N<=21){T:Mx}:zH (zS8 m (T,(i:Int))) (J1 (N*D*D) (0:Int),0)=iW (mkv (N*D*D) fun j=>if j/D=i*D+j%D then 1 else 0):=by
 have h1:=hD.d1;have h3:=hD.d3;have iT:N*D<=21*3:=Jp hN h3;have hB:N*D*D<=63*3:=Jp iT h3;have:=zQ (body:=zS8 m (T,(i:Int))) (r:=mkv (N*D*D) fun j=>if j/D=i*D+j%D then(1:Int)else 0)
  (fun c=>(mkv (N*D*D) fun j=>if j/D=i*D+j%D/\j%D<c then(1:Int)else 0,(c:Int))) D (fun c hc=>by
  unfold zS8;simp only
  have a1:i*D+D<=N*D:=by rw[<-K7];exact Jw _ hi
  have a2:(i*D+c)*D+D<=N*D*D:=by rw[<-K7];exact Jw _ (by omega)
  have b1:(i:Int)*(D:Int)=((i*D:Nat):Int):=by rfl
  have b2:((i*D+c:Nat):Int)*(D:Int)=(((i*D+c)*D:Nat):Int):=by rfl
  have b3:((i*D:Nat):Int)+(c:Int)=((i*D+c:Nat):Int):=by omega
  have b4:(((i*D+c)*D:Nat):Int)+(c:Int)=(((i*D+c)*D+c:Nat):Int):=by omega
  rw[hD.d,yN hc,zK,b1,zG,bs,b3,zG,bs,b2,zG,bs,b4,zG,bs,zY 0 (by grind[zU]),bs,zG,bs,J6,qJ,cs]
  congr 3
  refine zV fun j hj=>?_
  have bg:=Lr j D
  by_cases g:j=(i*D+c)*D+c
  ·have e:=sX (q:=i*D+c) hc
   grind
  grind) (by
  unfold zS8;simp only
  rw[hD.d,qT,zM]
  congr 2
  refine zV fun j _=>?_
  have:=Hn j (show 0<D by omega);omega)
 rw[show(mkv (N*D*D) fun j=>if j/D=i*D+j%D/\j%D<0 then(1:Int)else 0)=J1 (N*D*D) 0 from by rw[show J1 (N*D*D) (0:Int)=mkv (N*D*D) fun _=>0 from uB _];simp]at this
 exact this
theorem zJp{N:Nat}(hN:N<=21):zH (zS9 m (N:Int) ((N*D:Nat):Int)) ([],0)=iW (uT N D):=by
 have h1:=hD.d1;have h3:=hD.d3;have iT:N*D<=21*3:=Jp hN h3;have hB:N*D*D<=63*3:=Jp iT h3;refine uX N (fun i=>mkv (N*D*D) fun j=>if j/D=i*D+j%D then(1:Int)else 0) (fun i acc hi ha=>?_) (fun acc=>?_)
 ·unfold zS9
  simp only
  have b1:((N*D:Nat):Int)*(D:Int)=((N*D*D:Nat):Int):=by rfl
  rw[hD.d,yN hi,zK,b1,zG,bs,yP,bs,zSf hD hi hN,bs,zX (by simp;omega),bs,zG,bs,cs]
 ·unfold zS9
  simp
theorem zKz{B:Nat}(hB:B<=63){L:Mx}(hL:L.length<=1000)(hr:∀r∈L,r.length=B*D):zH (zW0 m ((B:Nat):Int) L) ([],0)=iW (gl B fun k=>zFV D k L):=by
 have h1:=hD.d1;have h3:=hD.d3;have hLD:L.length*D<=1000*3:=Jp hL h3;have hBD:B*D<=63*3:=Jp hB h3;refine uX B (fun k=>zFV D k L) (fun k acc hk ha=>?_) (fun acc=>?_)
 ·unfold zW0
  simp only
  have a1:k*D+D<=B*D:=by rw[<-K7];exact Jw _ hk
  have inner:zH (zSA m L (acc,(k:Int))) ([],0)=iW (zFV D k L):=by
   have:=zUk (body:=zSA m L (acc,(k:Int))) L.length D (fun i=>blk D (L.getD i []) k) [] (fun i hi=>zU _ _) (fun i acc2 hi ha2=>by
    unfold zSA;simp only
    have b0:i*D+D<=L.length*D:=by rw[<-K7];exact Jw _ hi
    have b1:(k:Int)*(D:Int)=((k*D:Nat):Int):=by rfl
    have b2:((k+1:Nat):Int)*(D:Int)=((k*D+D:Nat):Int):=by grind
    have gn:(L.getD i []).length=B*D:=by grind
    simp only[K9,Jc]at ha2;rw[hD.d,yN hi,zK,zY [] hi,bs,b1,zG,bs,show(k:Int)+1=((k+1:Nat):Int)from by omega,zG,bs,b2,zG,bs,zGE,bs,zX (by rw[zU];omega),bs,zG,bs,cs];rfl) (fun acc2=>by
    unfold zSA;simp)
   rw[this,Jv,zFV]
   congr 2
   rw[gl];refine Hj (by simp) fun j h1 h2=>?_
   grind
  rw[yN hk,zK,inner,bs,zX (by simp;omega),bs,zG,bs,cs]
 ·unfold zW0
  simp
end
section
variable {x:SPr}{m:zB}{D:Nat} (hx:sJ x) (hD:MOk x.zA.length m D)
 include hx hD
theorem zDS(h0:0<x.zA.length)(hc:xU (suf x 0))(hr:zC3 x m D):∃K pk,f_s x m=iW K/\Red m.Prime (base x.zA.length x.zA.length*D) K pk/\
  ∀y,Row m.Prime (base x.zA.length x.zA.length*D) y->(Sp m.Prime (base x.zA.length x.zA.length*D) K y↔xU (suf (exx D x m (Tc (base x.zA.length x.zA.length) D y)) 0)):=by
 have h6:=hx.n6;have hb:=xY x.zA.length (by omega);have h1:=hD.d1;have h3:=hD.d3;have hB:base x.zA.length x.zA.length*D<=21*3:=Jp hb.2.1 h3;obtain⟨L,l1,l2,l3,l4⟩:=zUO hx hD h0 hc hr;have hLD:L.length*D<=1000*3:=Jp l2 h3;obtain⟨K,pk,k1,_,k3,k4⟩:=zGB hD.p (c:=L.length*D) (N:=base x.zA.length x.zA.length*D) (A:=gl (base x.zA.length x.zA.length*D) fun k=>zFV D k L) (by omega) (fun k hk=>by rw[xR hk];refine⟨zNw L,fun j hj=>?_⟩;have hi:j/D<L.length:=(H1 (by omega)).2 hj;have hm:j%D<D:=Hn _ (by omega);have e:=zL9 (D:=D) (k:=k) L (j/D) (j%D) hi hm;rw[show j/D*D+j%D=j from by grind[Lr]]at e;rw[e];have gX:=l3 (L.getD (j/D) []) (by grind);exact gX.2 _ (zA1 hk hm)) xI
 refine⟨K,pk,?_,k3,fun y hy=>?_⟩
 ·unfold f_s
  have b1:((base x.zA.length x.zA.length:Nat):Int)*(D:Int)=((base x.zA.length x.zA.length*D:Nat):Int):=by rfl
  rw[zCV rfl h6,bs,hD.d,b1,zG,bs,zJp hD hb.2.1,bs,l1,bs,zKz hD (by omega) l2 (fun r hr=>(l3 r hr).1),bs,show((L.length:Nat):Int)*(D:Int)=((L.length*D:Nat):Int)from by rfl,zG,bs,k1,bs]
 ·rw[k4 y,<-l4 y hy,<-zUP (L:=L)]
end
theorem sO{w:List Nat}{t:Nat}(h:t<w.length:=by omega):ixO (enW w) (t:Int)=iW (((w.getD t 0:Nat):Int)+1):=by
 rw[zY 0 (by grind)]
 grind
theorem jP{w:List Nat}{t:Nat}(h:t<w.length:=by omega):w.drop t=w.getD t 0::w.drop (t+1):=by grind[Gz]
theorem zEu{w:List Nat}{a b:Nat}(h1:a<=b)(h2:b<=w.length:=by omega):zL (enW w) (a:Int) (b:Int)=iW (enW ((w.drop a).take (b-a))):=by
 unfold zL
 simp_all
theorem zUT{w:List Nat}{t o:Nat}{L:Int->Option (Int⊕(Unit⊕Bool))}(hL:L=zK9 (enW w) (t:Int) (enW ((w.drop t).take o))\/L=zKA (enW w) (t:Int) (enW ((w.drop t).take o)))(ht:t<w.length)(ho:t+o<=w.length)(hl:w.length<=1000000):
  zH L 0=iW (if decide ((w.drop t).take o=J1 o (w.getD t 0))then .inl ()else .inr ja):=by
 have gn:((w.drop t).take o).length=o:=by grind
 have ay:(enW ((w.drop t).take o)).length=o:=by grind
 have pB:∀i,i<o->((w.drop t).take o).getD i 0=w.getD (t+i) 0:=by grind
 have hb:∀i,i<o->L (i:Int)=iW (if(w.getD (t+i) 0==w.getD t 0)then .inl ((i+1:Nat):Int)else .inr (.inr ja)):=fun i hi=>by
  have e1:ixO (enW ((w.drop t).take o)) (i:Int)=iW (((w.getD (t+i) 0:Nat):Int)+1):=by grind[sO]
  have e2:(((w.getD (t+i) 0:Nat):Int)+1 != ((w.getD t 0:Nat):Int)+1)= !(w.getD (t+i) 0==w.getD t 0):=by grind
  rcases hL with rfl|rfl<;>
  ·first|unfold zK9|unfold zKA
   rw[ay,yN hi,zK,e1,bs,sO ht,bs,e2]
   by_cases g:(w.getD (t+i) 0==w.getD t 0)=iZ
   ·rw[g,Jq,zM,zG,bs,cs];rfl
   grind
 have he:L (o:Int)=iW (.inr (.inl ())):=by
  rcases hL with rfl|rfl
  ·unfold zK9
   grind
  ·unfold zKA
   grind
 rw[zKe o (fun i=>w.getD (t+i) 0==w.getD t 0) (by grind) (fun _=>he)]
 congr 1
 have pA:(J8 o).all (fun i=>w.getD (t+i) 0==w.getD t 0)=decide ((w.drop t).take o=J1 o (w.getD t 0)):=by
  rw[Bool.eq_iff_iff,Ka,decide_eq_true_iff];constructor
  ·intro g
   refine Hj (by grind) fun i h1 h2=>?_
   have:=g i (by grind)
   grind
  grind
 rw[pA]
section
variable {x:SPr} (h:Pres x)
 include h
theorem kG{a:Nat}(ha:a<x.zA.length):ixO x.zA (a:Int)=iW ((yG x a:Nat):Int)/\2<=yG x a/\yG x a<=7:=by
 have hp:=(h.os.2 a ha).pos;rw[zY 0 ha]
 grind
theorem zUU{w:List Nat}{t:Nat}(ht:t<w.length):(pws x (w.drop t)).isSome=decide (t+yG x (w.getD t 0)<=w.length/\(w.drop t).take (yG x (w.getD t 0))=J1 (yG x (w.getD t 0)) (w.getD t 0)):=by
 have _:=h;have hd:=jP ht
 by_cases g:(w.drop t).take (yG x (w.getD t 0))=J1 (yG x (w.getD t 0)) (w.getD t 0)
 ·have hl:=zC9 g
  rw[Kv]at hl;rw[jc ⟨by omega,g⟩];rw[hd]at g ⊢
  simp only[pws]
  grind
 ·rw[jb fun z=>g z.2]
  rw[hd]at g ⊢
  simp only[pws]
  grind
theorem zJq{w:List Nat}(hw:∀a∈w,a<x.zA.length)(hl:w.length<=1000000){t:Nat}(ht:t<w.length):yCr x (enW w) (t:Int)=iW (hdS x (w.drop t)).isSome:=by
 have ha:w.getD t 0<x.zA.length:=by grind[K3]
 obtain⟨o1,o2,o3⟩:=kG h ha;have gn:(enW w).length=w.length:=by simp
 have hd:=jP ht;have a1:((w.getD t 0:Nat):Int)+1-1=((w.getD t 0:Nat):Int):=by omega
 have a2:(t:Int)+((yG x (w.getD t 0):Nat):Int)=((t+yG x (w.getD t 0):Nat):Int):=by omega
 have h9:=h.os.1;have fin:∀L:List Int->Int->Option (Int⊕(Unit⊕Bool)),(∀o,L (enW ((w.drop t).take o))=zK9 (enW w) (t:Int) (enW ((w.drop t).take o))\/L (enW ((w.drop t).take o))=zKA (enW w) (t:Int) (enW ((w.drop t).take o)))->
   (cond (decide (((t+yG x (w.getD t 0):Nat):Int)> ((w.length:Nat):Int))) (iW ja) ((iW ((t+yG x (w.getD t 0):Nat):Int)).bind fun v9=>(zL (enW w) (t:Int) v9).bind fun v10=>(zH (L v10) 0).bind fun r14=>match r14 with|(.inl _)=>iW iZ|(.inr r14)=>iW r14))=iW (pws x (w.drop t)).isSome:=by
  intro L hL;rw[zUU h ht]
  by_cases g:t+yG x (w.getD t 0)<=w.length
  ·rw[jb (by omega),zM,bs,zEu (by omega) g,bs,Ky,zUT (hL _) ht g hl,bs]
   grind
  grind
 unfold yCr;rw[gn,zG,bs]
 by_cases g:t+1<w.length
 ·have pC:=jP g
  rw[jc,zK,sO ht,bs,bs,show(t:Int)+1=((t+1:Nat):Int)from by omega,sO g,bs]
  by_cases g2:w.getD (t+1) 0<w.getD t 0
  ·rw[jc,zK,hd,pC]
   unfold hdS;simp only[swp]
   grind
  ·rw[jb (by omega),zM,bs,a1,zG,bs,o1,bs,a2,zG,bs]
   refine(fin (fun v=>zK9 (enW w) (t:Int) v) fun o=>.inl rfl).trans ?_;have:swp x (w.drop t)=iY:=by rw[hd,pC];simp only[swp];grind
   grind[hdS]
 ·rw[jb (by omega),zM,sO ht,bs,a1,zG,bs,o1,bs,a2,zG,bs]
  refine(fin (fun v=>zKA (enW w) (t:Int) v) fun o=>.inr rfl).trans ?_
  grind[swp,hdS]
end
def stI(x:SPr):List Nat->Option (Nat×zFe)
 | []=>iY
 |a::w=>match hdS x (a::w)with
  |some r=>iW (0,r)
  |none=>(stI x w).map fun z=>(z.1+1,z.2)
section
variable {x:SPr}
theorem zLA:∀w:List Nat,stS x w=(stI x w).map fun z=>(z.2.1,z.2.2.1,w.take z.1++z.2.2.2)
 | []=>rfl
 |a::w=>by
  simp only[stS,stI];cases hdS x (a::w)with
  |some r=>rfl
  |none=>
   rw[zLA w];cases stI x w with
   |none=>rfl
   |some z=>rfl
theorem zQV:∀{w:List Nat}{z:Nat×zFe},stI x w=iW z->z.1<w.length/\hdS x (w.drop z.1)=iW z.2
 | [],_,h=>by cases h
 |a::w,z,h=>by
  simp only[stI]at h;cases e:hdS x (a::w)with
  |some r=>
   grind
  |none=>
   rw[e]at h;cases e2:stI x w with
   |none=>grind
   |some q=>
    rw[e2]at h;cases h;obtain⟨h1,h2⟩:=zQV e2
    grind
theorem zNy:∀(k i:Nat)(w:List Nat),i+k=w.length->(Kk i k).findSome? (fun j=>if(hdS x (w.drop j)).isSome then iW (j:Int)else iY)=(stI x (w.drop i)).map fun z=>((i+z.1:Nat):Int)
 |0,i,w,h=>by rw[Hd (by omega)];rfl
 |k+1,i,w,h=>by
  rw[Uw,Ja7,jP];simp only[stI];cases e:hdS x (w.getD i 0::w.drop (i+1))with
  |some r=>rfl
  |none=>
   simp only[U6,Hk,if_false];rw[zNy k (i+1) w (by omega)];cases stI x (w.drop (i+1))with
   |none=>rfl
   |some z=>
    grind
section
variable (h:Pres x)
 include h
theorem zCA{w:List Nat}(hw:∀a∈w,a<x.zA.length)(hl:w.length<=1000000):zWA x (enW w)=iW (match stI x w with|some z=>(z.1:Int)|none=> -1):=by
 have gn:(enW w).length=w.length:=by simp
 unfold zWA;have:=zKd (body:=zRq x (enW w)) w.length (fun j=>if(hdS x (w.drop j)).isSome then iW (j:Int)else iY) 0 (Kg _) (fun i _ hi _=>by
  unfold zRq;rw[gn,yN hi,zK,zJq h hw hl hi,bs];cases hdS x (w.drop i)with
  |some r=>rfl
  |none=>
   simp only[U6];rw[zM,zG,bs,cs];rfl) (fun _=>by
  unfold zRq;simp)
 rw[show((0:Nat):Int)=0 from rfl,Uo,zNy w.length 0 w (by omega),Hq]at this;rw[this,bs];cases stI x w with
 |none=>rfl
 |some z=>simp only[H6,zMD,Jc]
theorem zJr{v:List Int}(hn:x.zA.length<=6)(hv:yBx x.zA v):f_L v=iW (enW (nw 0 v))/\(nw 0 v).length<=36:=by
 have hb:∀i,i<v.length->0<=at0 v i/\at0 v i<=6:=fun i hi=>by have h1:=hv.2 i hi;have h2:=(h.os.2 i (by grind)).pos;omega
 have:=zG7 0 v (by grind);have hl:=hv.1
 grind[zBc]
theorem zDT(hn:x.zA.length<=6){w:List Nat}(hw:∀a∈w,a<x.zA.length)(hl:w.length<=900000){t:Nat}{r:zFe}(ht:t<w.length)(hr:hdS x (w.drop t)=iW r):zW1 x (enW w) (t:Int)=iW (enW (w.take t++r.2.2)):=by
 have gu:∀i,i<w.length->w.getD i 0<x.zA.length:=by grind[K3]
 have ha:=gu t ht;obtain⟨o1,o2,o3⟩:=kG h ha;have gn:(enW w).length=w.length:=by simp
 have hd:=jP ht;have a1:((w.getD t 0:Nat):Int)+1-1=((w.getD t 0:Nat):Int):=by omega
 have a2:(t:Int)+((yG x (w.getD t 0):Nat):Int)=((t+yG x (w.getD t 0):Nat):Int):=by omega
 obtain⟨p1,p2⟩:=zJr h hn (h.tl _ ha).1.1;have h0:zL (enW w) 0 (t:Int)=iW (enW (w.take t)):=by
  have:=zEu (w:=w) (Kg t)
  grind
 have hs:∀q,q<=w.length->zL (enW w) (q:Int) (w.length:Int)=iW (enW (w.drop q)):=fun q hq=>by rw[zEu hq (Je _),Jo (by simp)]
 have pw:swp x (w.drop t)=iY->(rng (((w.getD t 0:Nat):Int)+1-1)).bind (fun v3=>(zL (enW w) 0 (t:Int)).bind fun v4=>(ixO x.zJ v3).bind fun v5=>(f_L v5).bind fun r6=>(ixO x.zA v3).bind fun v7=>(rng ((t:Int)+v7)).bind fun v8=>(zL (enW w) v8 (w.length:Int)).bind fun v9=>(f_z [v4,r6,v9]).bind fun r10=>iW r10)=iW (enW (w.take t++r.2.2)):=fun fT=>by
  unfold hdS at hr;rw[fT]at hr;simp only at hr;rw[hd]at hr;simp only[pws]at hr;split at hr
  ·rename_i g
   have gZ:=zC9 g;rw[<-hd,Kv]at gZ;cases hr;rw[a1,zG,bs,h0,bs,zY [] (by rw[h.pl];exact ha),bs,p1,bs,o1,bs,a2,zG,bs,hs _ (by omega),bs,kO (by simp) (by simp only[Hi,Up,J7,Jg,Kf,Kv,K9,enW];omega),bs]
   simp_all
  ·cases hr
 unfold zW1;rw[gn,zG,bs]
 by_cases g:t+1<w.length
 ·have pC:=jP g
  have hb:=gu _ g;rw[jc,zK,sO ht,bs,bs,show(t:Int)+1=((t+1:Nat):Int)from by omega,sO g,bs]
  by_cases g2:w.getD (t+1) 0<w.getD t 0
  ·rw[hd,pC]at hr
   unfold hdS at hr;simp only[swp]at hr;rw[if_pos g2]at hr;cases hr;have fa:=h.tl _ hb;have dw:=fa.2.2 (w.getD t 0-(w.getD (t+1) 0+1)) (by have:=fa.2.1;omega);obtain⟨q1,q2⟩:=zJr h hn dw.1;have b1:((w.getD (t+1) 0:Nat):Int)+1-1=((w.getD (t+1) 0:Nat):Int):=by omega
   have b2:((w.getD t 0:Nat):Int)-((w.getD (t+1) 0:Nat):Int)-1=((w.getD t 0-(w.getD (t+1) 0+1):Nat):Int):=by omega
   rw[jc,zK,bs,a1,zG,bs,bs,sO g,bs,b1,zG,bs,h0,bs,zG,bs,zY [] (by rw[h.cl];exact hb),bs,zG,bs,b2,zG,bs,zY [] (by have:=fa.2.1;omega),bs,q1,bs,zG,bs,show(t:Int)+2=((t+2:Nat):Int)from by omega,hs _ (by omega),bs,kO (by simp) (by simp only[Hi,Up,J7,Jg,Kf,Kv,K9,Jd,enW];omega),bs];simp
  ·rw[jb (by omega),zM,bs]
   exact pw (by rw[hd,pC];simp only[swp];grind)
 ·rw[jb (by omega),zM,sO ht,bs]
  exact pw (by rw[hd,Hd (by omega)];rfl)
end
end
def smx(p:Int)(D N:Nat)(F:Nat->Nat->Nat->Int):List zN:=gl N fun r=>zN.mk p (D:Int) (gl D fun i=>mkv D fun j=>F r i j%p)
def upd(F:Nat->Nat->Nat->Int)(s:Int)(r0:Nat)(A:Mx)(c:Nat):Nat->Nat->Nat->Int:=fun r i j=>F r i j+if r=r0/\i<c then s*ent A i j else 0
theorem zCB{β:Type}{n:Nat}{f g:Nat->β}(h:∀i,i<n->f i=g i):gl n f=gl n g:=by simp_all
section
variable {x:SPr}{m:zB}{D N:Nat}{s:Int}{r0:Nat}{A:Mx}{T0:List zN}
theorem zK0(hp:Prime m.Prime)(hD:D<=3)(_:N<=100)(hs:-7<=s/\s<=7)(hr:r0<N)(hA:Mat m.Prime D A){F:Nat->Nat->Nat->Int}{L:(List zN)×Int->Option (((List zN)×Int)⊕(List zN))}
  (hL:L=zYL ⟨x,m,T0⟩ s (r0:Int) (zN.mk m.Prime (D:Int) A)\/L=zYM ⟨x,m,T0⟩ s (r0:Int) (zN.mk m.Prime (D:Int) A)\/L=zYN ⟨x,m,T0⟩ s (r0:Int) (zN.mk m.Prime (D:Int) A)):
  zH L (smx m.Prime D N F,0)=iW (smx m.Prime D N (upd F s r0 A D)):=by
 have aj:=hp.pos;have fN:=hA.1;have gM:∀c,c<D-> ∀(k:Nat),(c:Int)+1=(k:Int)->((ixO A (c:Int)).bind fun v10=>(ixO (smx m.Prime D N (upd F s r0 A c)) (r0:Int)).bind fun v11=>(ixO v11.Rows (c:Int)).bind fun v12=>(f_D v12 v10 s m.Prime).bind fun r13=>(rng ((c:Int)+1)).bind fun v14=>
   (iW (.inl ((smx m.Prime D N (upd F s r0 A c)).set (r0:Int).toNat (zN.mk v11.Prime v11.xT (v11.Rows.set (c:Int).toNat r13)),v14)):Option (((List zN)×Int)⊕(List zN))))=iW (.inl (smx m.Prime D N (upd F s r0 A (c+1)),((c+1:Nat):Int))):=fun c hc k _=>by
  have gX:Row m.Prime D (mkv D fun j=>upd F s r0 A c r0 c j%m.Prime):=⟨zU _ _,fun j hj=>by rw[zT hj];exact⟨Kr _ (by omega),by have:=Ke (upd F s r0 A c r0 c j) (show 0<m.Prime by omega);omega⟩⟩
  rw[zY [],bs,smx,zBV hr,bs];simp only
  rw[zBV hc,bs,qK hp gX (hA.2 c hc) hs (by omega),bs,zG,bs,J6,J6,zEX,zEX,cs]
  congr 3
  refine zCB fun r _=>?_
  by_cases g:r=r0
  ·rw[if_pos g,g]
   congr 1
   refine zCB fun i _=>?_
   by_cases g2:i=c
   ·rw[if_pos g2,g2,wQ]
    refine zV fun j hj=>?_
    rw[zT hj,upd,upd,if_neg (by simp),if_pos (by simp),Lv];simp
   ·rw[if_neg g2]
    refine zV fun j hj=>?_
    rw[upd,upd]
    grind
  ·rw[if_neg g]
   congr 1
   refine zCB fun i _=>zV fun j _=>?_
   rw[upd,upd,if_neg (fun z=>g z.1),if_neg (fun z=>g z.1)]
 have:=zQ (body:=L) (r:=smx m.Prime D N (upd F s r0 A D)) (fun c=>(smx m.Prime D N (upd F s r0 A c),(c:Int))) D (fun c hc=>by
  rcases hL with rfl|rfl|rfl
  ·unfold zYL
   grind
  ·unfold zYM
   grind
  ·unfold zYN
   grind) (by
  rcases hL with rfl|rfl|rfl
  ·unfold zYL
   grind
  ·unfold zYM
   grind
  ·unfold zYN
   grind)
 rw[show smx m.Prime D N (upd F s r0 A 0)=smx m.Prime D N F from zCB fun r _=>by
  congr 1
  refine zCB fun i _=>zV fun j _=>?_
  rw[upd,if_neg (by simp),Lv]]at this
 exact this
end
theorem zUV:∀n:Nat,n<7-> ∀j:Nat,j<n-> ∀i:Nat,i<j->((rng ((n:Int)-1)).bind fun v10=>(rng ((i:Int)*v10)).bind fun v11=>(rng ((n:Int)+v11)).bind fun v12=>(rng ((i:Int)-1)).bind fun v13=>(rng ((i:Int)*v13)).bind fun v14=>(xV v14 2).bind fun v15=>(rng (v12-v15)).bind fun v16=>(rng (v16+(j:Int))).bind fun v17=>(rng (v17-(i:Int))).bind fun v18=>(rng (v18-1)).bind fun v19=>iW v19)=iW ((base n i+(j-(i+1)):Nat):Int):=by decide+kernel
section
variable {x:SPr}{m:zB}{D:Nat}{T0:List zN} (h:Pres x) (hn:x.zA.length<=6) (hD:MOk x.zA.length m D)
 include h hn
theorem zH1{w:List Nat}(hw:∀a∈w,a<x.zA.length)(hl:w.length<=900000){t:Nat}{r:zFe}(ht:t<w.length)(hr:hdS x (w.drop t)=iW r):yCq ⟨x,m,T0⟩ (enW w) (t:Int)=iW (r.1:Int):=by
 have _:=h;have gu:∀i,i<w.length->w.getD i 0<x.zA.length:=by grind[K3]
 have ha:=gu t ht;have gn:(enW w).length=w.length:=by simp
 have hd:=jP ht;have a1:((w.getD t 0:Nat):Int)+1-1=((w.getD t 0:Nat):Int):=by omega
 have pw:swp x (w.drop t)=iY->(rng (((w.getD t 0:Nat):Int)+1-1)).bind (fun v3=>iW v3)=iW (r.1:Int):=by grind[hdS,pws,zG]
 unfold yCq;rw[gn,zG,bs]
 by_cases g:t+1<w.length
 ·have pC:=jP g
  have hb:=gu _ g;rw[jc,zK,sO ht,bs,bs,show(t:Int)+1=((t+1:Nat):Int)from by omega,sO g,bs]
  by_cases g2:w.getD (t+1) 0<w.getD t 0
  ·rw[hd,pC]at hr
   unfold hdS at hr;simp only[swp]at hr;rw[if_pos g2]at hr;cases hr;have b1:((w.getD (t+1) 0:Nat):Int)+1-1=((w.getD (t+1) 0:Nat):Int):=by omega
   rw[jc,zK,bs,a1,zG (n:=((w.getD t 0:Nat):Int)),bs,bs,sO g,bs,b1,zG (n:=((w.getD (t+1) 0:Nat):Int)),bs]
   grind[zUV]
  ·rw[jb (by omega),zM,bs]
   exact pw (by rw[hd,pC];simp only[swp];grind)
 ·rw[jb (by omega),zM,sO ht,bs]
  exact pw (by rw[hd,Hd (by omega)];rfl)
 include hD
theorem zGN{w:List Nat}(hw:∀a∈w,a<x.zA.length)(hl:w.length<=60000){t:Nat}{r:zFe}(ht:t<w.length)(hr:hdS x (w.drop t)=iW r){s:Int}(hs:-7<=s/\s<=7){F:Nat->Nat->Nat->Int}:
  f_F ⟨x,m,smx m.Prime D (base x.zA.length x.zA.length) F⟩ (enW w) (t:Int) s=iW (enW (w.take t++r.2.2),⟨x,m,smx m.Prime D (base x.zA.length x.zA.length) (upd F s r.1 (wM m.Prime D m.zF r.2.1 (idM D)) D)⟩):=by
 have hp:=hD.p.pos;have h3:=hD.d3;have eO:=xY x.zA.length (by omega);have gu:∀i,i<w.length->w.getD i 0<x.zA.length:=by grind[K3]
 have ha:=gu t ht;obtain⟨o1,o2,o3⟩:=kG h ha;have gn:(enW w).length=w.length:=by simp
 have hd:=jP ht;have a1:((w.getD t 0:Nat):Int)+1-1=((w.getD t 0:Nat):Int):=by omega
 have a2:(t:Int)+((yG x (w.getD t 0):Nat):Int)=((t+yG x (w.getD t 0):Nat):Int):=by omega
 have df:=yAr hn (by grind) hr;have hA:∀z,Mat m.Prime D (wM m.Prime D m.zF z (idM D)):=by grind[zCQ,sS]
 have gU:∀q,q<=w.length->zL (enW w) (q:Int) (w.length:Int)=iW (enW (w.drop q)):=fun q hq=>by rw[zEu hq (Je _),Jo (by simp)]
 have aQ:∀q,q<=w.length->zLJ m (enW (w.drop q))=iW (zN.mk m.Prime (D:Int) (wM m.Prime D m.zF (w.drop q) (idM D))):=fun q hq=>
  zCe hD (by omega) (by grind) (by grind)
 have pw:swp x (w.drop t)=iY->r.2.1=w.drop (t+yG x (w.getD t 0))/\t+yG x (w.getD t 0)<=w.length:=fun fT=>by
  unfold hdS at hr;rw[fT]at hr;simp only at hr;rw[hd]at hr;simp only[pws]at hr;split at hr
  ·rename_i g
   have gZ:=zC9 g
   grind[List.drop_drop]
  ·cases hr
 unfold f_F;rw[zH1 h hn hw (by omega) ht hr,bs,zDT h hn hw (by omega) ht hr,bs,gn,zG,bs]
 by_cases g:t+1<w.length
 ·have pC:=jP g
  have hb:=gu _ g;rw[jb (by omega),zM,sO ht,bs,bs,show(t:Int)+1=((t+1:Nat):Int)from by omega,sO g,bs]
  by_cases g2:w.getD (t+1) 0<w.getD t 0
  ·rw[hd,pC]at hr
   unfold hdS at hr;simp only[swp]at hr;rw[if_pos g2]at hr;cases hr;rw[jb (by omega),zM,zG,bs,show(t:Int)+2=((t+2:Nat):Int)from by omega,gU _ (by omega),bs,aQ _ (by omega),bs,zK0 hD.p h3 (by omega) hs df (hA _) (.inr (.inr rfl)),bs]
  ·obtain⟨e1,e2⟩:=pw (by rw[hd,pC];simp only[swp];grind)
   rw[jc,zK,bs,a1,zG,bs,o1,bs,a2,zG,bs,gU _ e2,bs,aQ _ e2,bs,zK0 hD.p h3 (by omega) hs df (hA _) (.inr (.inl rfl)),bs,e1]
 ·obtain⟨e1,e2⟩:=pw (by rw[hd,Hd (by omega)];rfl)
  omega
end
inductive Cb (x:SPr) (M:Nat):List Nat->Trc->List Nat->Prop where
 |refl (w:List Nat) (hl:w.length<=M) (hw:∀a∈w,a<x.zA.length):Cb x M w [] w
 |step {w w1 w' s:List Nat}{r:Nat}{tr:Trc} (hl:w.length<=M) (hw:∀a∈w,a<x.zA.length) (hs:stS x w=iW (r,s,w1)) (h:Cb x M w1 tr w'):Cb x M w ((r,s)::tr) w'
theorem Cb.st{x:SPr}{M:Nat}{w w':List Nat}{tr:Trc}(h:Cb x M w tr w'):w.length<=M/\ ∀a∈w,a<x.zA.length:=by
 cases h with
 |refl _ hl hw=>grind
 |step hl hw _ _=>grind
def zE3(m:zB)(D:Nat)(s:Int):(Nat->Nat->Nat->Int)->Trc->Nat->Nat->Nat->Int
 |F,[]=>F
 |F,(r,z)::tr=>zE3 m D s (upd F s r (wM m.Prime D m.zF z (idM D)) D) tr
theorem zQW{m:zB}{D:Nat}{s:Int}{r i j:Nat}(hi:i<D):∀(tr:Trc)(F:Nat->Nat->Nat->Int),zE3 m D s F tr r i j=F r i j+s*zCh m.Prime D m tr r i j
 | [],F=>by rw[zE3,zCh,Lp,Lv]
 |(q,z)::tr,F=>by
  rw[zE3,zQW hi tr,upd,zCh,Int.mul_add,Int.add_assoc]
  grind
abbrev zUW(x:SPr)(w:List Nat):Int:=match stI x w with
 |some z=>(z.1:Int)
 |none=> -1
section
variable {x:SPr}{m:zB}{D:Nat} (h:Pres x) (hn:x.zA.length<=6) (hD:MOk x.zA.length m D)
 include h hn hD
theorem zLB{s:Int}(hs:-7<=s/\s<=7){w w':List Nat}{tr:Trc}(hc:Cb x 60000 w tr w')(eH:stS x w'=iY):∀F:Nat->Nat->Nat->Int,
  zH (zRr s) (x,m,smx m.Prime D (base x.zA.length x.zA.length) F,enW w,zUW x w)=iW (x,m,smx m.Prime D (base x.zA.length x.zA.length) (zE3 m D s F tr)):=by
 induction hc with
 |refl w hl hw=>
  intro F;have e:zUW x w= -1:=by
   rw[zLA]at eH
   grind
  rw[yR,e];rfl
 |step hl hw gM hc ih=>
  rename_i w w1 w2 z r tr;intro F;rw[zLA]at gM;cases g:stI x w with
  |none=>grind
  |some q=>
   rw[g]at gM;obtain⟨t,q⟩:=q;simp only[H6,Kt.injEq,Ja3.injEq]at gM;obtain⟨e1,e2,e3⟩:=gM;obtain⟨ht,hh⟩:=zQV g;simp only at ht hh;have fA:=hc.st;have e:zUW x w=(t:Int):=by grind
   have h1:=zGN h hn hD hw hl ht hh hs (F:=F);rw[e3,e1,e2]at h1;have h2:=zCA h fA.2 (by omega);rw[yR,e];have hb:zRr s (x,m,smx m.Prime D (base x.zA.length x.zA.length) F,enW w,(t:Int))=iW (.inl (x,m,smx m.Prime D (base x.zA.length x.zA.length) (upd F s r (wM m.Prime D m.zF z (idM D)) D),enW w1,zUW x w1)):=by
    unfold zRr
    grind
   rw[hb];simp only
   exact ih eH _
theorem zFY{s:Int}(hs:-7<=s/\s<=7){w w':List Nat}{tr:Trc}(hc:Cb x 60000 w tr w')(eH:stS x w'=iY)(F:Nat->Nat->Nat->Int):
  zH2 ⟨x,m,smx m.Prime D (base x.zA.length x.zA.length) F⟩ (enW w) s=iW ⟨x,m,smx m.Prime D (base x.zA.length x.zA.length) (zE3 m D s F tr)⟩:=by
 have fA:=hc.st;unfold zH2;rw[show zWA (wV.p ⟨x,m,smx m.Prime D (base x.zA.length x.zA.length) F⟩) (enW w)=iW (zUW x w)from by grind[zCA],bs];have:=zLB h hn hD hs hc eH F
 grind
end
inductive Cl (x:SPr) (k M:Nat):List Nat->Trc->List Nat->Prop where
 |refl (w:List Nat) (hl:w.length<=M) (hw:∀a∈w,k<=a/\a<x.zA.length):Cl x k M w [] w
 |step {w w1 w' s:List Nat}{r:Nat}{tr:Trc} (hl:w.length<=M) (hw:∀a∈w,k<=a/\a<x.zA.length) (hs:stS x w=iW (r,s,w1)) (h:Cl x k M w1 tr w'):Cl x k M w ((r,s)::tr) w'
theorem Cl.trans{x:SPr}{k M:Nat}{w w1 w2:List Nat}{t1 t2:Trc}(h:Cl x k M w t1 w1)(h2:Cl x k M w1 t2 w2):Cl x k M w (t1++t2) w2:=by
 induction h with
 |refl w=>exact h2
 |step hl hw hs _ ih=>exact .step hl hw hs (ih h2)
theorem Cl.mono{x:SPr}{k M M2:Nat}(hM:M<=M2){w w':List Nat}{tr:Trc}(h:Cl x k M w tr w'):Cl x k M2 w tr w':=by
 induction h with
 |refl w hl hw=>exact .refl _ (by omega) hw
 |step hl hw hs _ ih=>exact .step (by omega) hw hs ih
theorem Cl.cb{x:SPr}{k M:Nat}{w w':List Nat}{tr:Trc}(h:Cl x k M w tr w'):Cb x M w tr w':=by
 induction h with
 |refl w hl hw=>exact .refl _ hl (by grind)
 |step hl hw hs _ ih=>exact .step hl (by grind) hs ih
theorem Cl.col{x:SPr}{k M:Nat}{w w':List Nat}{tr:Trc}(h:Cl x k M w tr w'):Col x k w tr w':=by
 induction h with
 |refl w hl hw=>exact .refl _
 |step hl hw hs _ ih=>exact .step hw hs ih
section
variable {x:SPr} (h:Pres x)
 include h
theorem zQX:∀(d k:Nat),k+d=x.zA.length-> ∀y,V (suf x k) y->(nw k y).length<=6*d
 |0,k,hk,y,hy=>by
  rw[vN (x:=x) (k:=k)]at hy;cases y with
  |nil=>simp[nw]
  |cons b y=>cases hy
 |d+1,k,hk,y,hy=>by
  have hp:=(h.os.2 k (by omega)).pos;rw[yC (x:=x)]at hy;cases y with
  |nil=>exact hy.elim
  |cons b y=>
   obtain⟨⟨h1,h2⟩,h3⟩:=hy;have ih:=zQX d (k+1) (by omega) y h3;have cm:b<at0 x.zA k:=h2
   grind[nw]
theorem Cl.ctx{i a M:Nat}(hi:i<x.zA.length)(ha:a<yG x i){s:List Nat}(hs:∀b∈s,i<=b/\b<x.zA.length){w w':List Nat}{tr:Trc}(hc:Cl x (i+1) M w tr w'):
  Cl x i (a+M+s.length) (J1 a i++(w++s)) (tr.map fun q=>(q.1,q.2++s)) (J1 a i++(w'++s)):=by
 have mem:∀{w:List Nat},(∀b∈w,i+1<=b/\b<x.zA.length)-> ∀b∈J1 a i++(w++s),i<=b/\b<x.zA.length:=by grind
 induction hc with
 |refl w hl hw=>exact .refl _ (by simp;omega) (mem hw)
 | @step w w1 w' s1 r tr hl hw gM _ ih=>
  refine .step (by simp;omega) (mem hw) ?_ ih;rw[zFf ha a (Je _) fun b hb=>?_,zL0 (by grind[zJi]) gM]
  ·rfl
  ·cases w with
   |nil=>cases gM
   |cons c w=>
    simp only[Kc,Jah,Kt.injEq]at hb;have:=hw c (by simp);omega
theorem zLC(hn:x.zA.length<=6){i j:Nat}(hi:i<j)(hj:j<x.zA.length):(nw 0 (lcj x i j)).length<=36:=(zJr h hn (uJ h hi hj).1).2
theorem zQY(hn:x.zA.length<=6){i:Nat}:∀{ur:List Nat},(∀b∈ur,i+1<=b/\b<x.zA.length)->(cwd x i ur).length<=36*ur.length
 | [],_=>by simp[cwd]
 |l::ur,hu=>by
  have h1:=hu l (by simp);have h2:=zLC h hn (show i<l by omega) h1.2;have ih:=zQY hn (ur:=ur) fun b hb=>hu b (by simp[hb])
  grind[cwd]
theorem Cl.move(hn6:x.zA.length<=6){i a:Nat}(hi:i<x.zA.length)(ha:a<yG x i):∀{ur:List Nat},(∀b∈ur,i+1<=b/\b<x.zA.length)->stS x ur.reverse=iY-> ∀{z:List Nat},(∀b∈z,i<=b/\b<x.zA.length)->
  Cl x i (a+1+37*ur.length+z.length) (J1 a i++(ur.reverse++i::z)) (mtr x i ur z) (J1 (a+1) i++(cwd x i ur++z))
 | [],_,_,z,hz=>by
  have e:J1 a i++(([]:List Nat).reverse++i::z)=J1 (a+1) i++(cwd x i []++z):=by grind[Kz,cwd]
  rw[e];refine .refl _ (by simp[cwd]) fun b hb=>?_
  grind
 |l::ur,hu,hn,z,hz=>by
  obtain⟨l1,l2⟩:=hu l (by simp);have cP:∀b∈ur,i+1<=b/\b<x.zA.length:=by grind
  have cV:=qE h (uJ h (show i<l by omega) l2) hi;have cK:=zLC h hn6 (show i<l by omega) l2;rw[Hx]at hn ⊢
  have mQ:=zHq (by grind[zJi]) hn;have eS:∀b∈nw 0 (lcj x i l)++z,i<=b/\b<x.zA.length:=by grind
  have ih:=(Cl.move hn6 hi ha cP mQ eS).mono (M2:=a+1+37*(l::ur).length+z.length) (by grind);rw[show cwd x i (l::ur)++z=cwd x i ur++(nw 0 (lcj x i l)++z)from by simp[cwd]];have e1:ur.reverse++[l]++i::z=ur.reverse++l::i::z:=by simp
  rw[e1];refine .step (by simp;omega) (fun b hb=>?_) ?_ ih
  ·simp only[Jf,Jb,List.mem_reverse]at hb
   rcases hb with hb|hb|hb|hb|hb
   ·grind
   ·grind
   ·omega
   all_goals grind
  ·rw[zFf ha a (Je _) fun b hb=>?_,zU7 (by grind) (by omega) hn]
   ·rfl
   ·have:b∈ur.reverse++l::i::z:=by grind[Qt]
    cases e:ur.reverse with
    |nil=>grind
    |cons c t=>
     rw[e]at hb;simp only[Kc,Jah,Kt.injEq]at hb
     grind
end
section
variable {x:SPr} (h:Pres x) (hn:x.zA.length<=6)
 include h hn
theorem zLD{k M W L:Nat}(hk:k<x.zA.length)(P:∀v:List Nat,v.length<=W->(∀a∈v,k+1<=a/\a<x.zA.length)-> ∃tr y,Cl x (k+1) M v tr (nw (k+1) y)/\V (suf x (k+1)) y):∀(z:List Nat),z.length<=L->(∀a∈z,k<=a/\a<x.zA.length)-> ∀(a:Nat),a<yG x k-> ∀(v:List Nat),v.length+z.length<=W->1400+z.length<=W->(∀a∈v,k+1<=a/\a<x.zA.length)->
  ∃tr y,Cl x k (M+L+1500) (J1 a k++(v++z)) tr (nw k y)/\V (suf x k) y
 | [],_,_,a,ha,v,cD,_,hv=>by
  obtain⟨tr,y,c1,c2⟩:=P v (by omega) hv;have ho:=(kG h hk).2.2;have hc:=(Cl.ctx h hk ha (s:=[]) (by simp) c1).mono (M2:=M+L+1500) (by simp;omega);rw[show(fun q:Nat×List Nat=>(q.1,q.2++[]))=id from by grind,List.map_id,J9,J9]at hc;refine⟨tr,(a:Int)::y,?_,?_⟩
  ·grind[nw]
  ·rw[yC hk]
   refine⟨⟨by omega,?_⟩,c2⟩;show(a:Int)<at0 x.zA k
   grind
 |l::z,cX,hz,a,ha,v,cD,hW,hv=>by
  have ho:=(kG h hk).2.2;have hzl2:z.length+1<=L:=by omega
  have dH:v.length+(z.length+1)<=W:=by omega
  have hW2:1400+(z.length+1)<=W:=by omega
  have eS:∀b∈z,k<=b/\b<x.zA.length:=by grind
  obtain⟨l1,l2⟩:=hz l (by simp);rcases Jk k l with g|g
  ·obtain⟨tr,y,c1,c2⟩:=zLD (L:=L) hk P z (by omega) eS a ha (v++[l]) (by simp;omega) (by omega) (by grind)
   grind
  ·obtain rfl:l=k:=by omega
   obtain⟨tr1,y1,c1,c2⟩:=P v (by omega) hv;have gS:=zQM h (by omega) c2;have pz:∀b∈(nw (l+1) y1).reverse,l+1<=b/\b<x.zA.length:=by grind
   have fj:(nw (l+1) y1).length<=36:=by have:=zQX h (x.zA.length-(l+1)) (l+1) (by omega) y1 c2;omega
   have gy:(cwd x l (nw (l+1) y1).reverse).length<=1296:=by grind[zQY]
   have k1:=(Cl.ctx h hk ha (s:=l::z) hz c1).mono (M2:=M+L+1500) (by simp;omega);have k2:=(Cl.move h hn hk ha pz (by rw[K8];exact zGK h _ _ (by omega:l+1+(x.zA.length-(l+1))=x.zA.length) y1 c2) eS).mono (M2:=M+L+1500) (by grind);rw[K8]at k2;have pN:=zL2 h pz;rcases Jk (a+1) (yG x l)with g2|g2
   ·obtain⟨tr2,y2,d1,d2⟩:=zLD (L:=L) hk P z (by omega) eS (a+1) g2 (cwd x l (nw (l+1) y1).reverse) (by omega) (by omega) pN
    exact⟨_,y2,k1.trans (k2.trans d1),d2⟩
   ·have g4:a+1=yG x l:=by omega
    have pJ:=zAd h hk;have pL:=qE h pJ hk;have fP:=(zJr h hn pJ.1).2;have aY:∀b∈nw 0 (x.zJ.getD l [])++cwd x l (nw (l+1) y1).reverse,l+1<=b/\b<x.zA.length:=fun b hb=>by
     simp only[Jf]at hb;rcases hb with hb|hb
     ·grind
     grind
    obtain⟨tr2,y2,d1,d2⟩:=zLD (L:=L) hk P z (by omega) eS 0 (by omega) _ (by grind) (by omega) aY;rw[Hb,Jv,Jh]at d1;have k3:Cl x l (M+L+1500) (J1 (a+1) l++(cwd x l (nw (l+1) y1).reverse++z)) ((l,cwd x l (nw (l+1) y1).reverse++z)::tr2) (nw l y2):=by
     refine .step (by grind[J7,Ja]) (fun b hb=>?_) (by grind[yAh,zJi]) d1;simp only[Jf]at hb;rcases hb with hb|hb|hb
     ·grind
     ·grind
     grind
    exact⟨_,y2,k1.trans (k2.trans k3),d2⟩
def lnB:Nat->Nat->Nat
 |0,l=>l
 |d+1,l=>lnB d (l+1400)+l+1500
theorem yAt:∀(d k:Nat),k+d=x.zA.length-> ∀(L:Nat)(z:List Nat),z.length<=L->(∀a∈z,k<=a/\a<x.zA.length)-> ∃tr y,Cl x k (lnB d L) z tr (nw k y)/\V (suf x k) y
 |0,k,hk,L,z,_,hz=>by
  have:z=[]:=by
   cases z with
   |nil=>rfl
   |cons a z=>have:=hz a (by simp);omega
  subst this;exact⟨[],[],.refl _ (by simp) (by simp),by rw[vN (x:=x) (k:=k)];rfl⟩
 |d+1,k,hk,L,z,hl,hz=>by
  have ho:=zJi h (show k<x.zA.length by omega);obtain⟨tr,y,c1,c2⟩:=zLD h hn (M:=lnB d (L+1400)) (W:=L+1400) (L:=L) (by omega) (fun v hv hvm=>yAt d (k+1) (by omega) (L+1400) v hv hvm) z hl hz 0 (by omega) [] (by simp;omega) (by omega) (by simp)
  grind[lnB]
theorem zQZ{k L:Nat}(hk:k<=x.zA.length){z:List Nat}(hl:z.length<=L){tr:Trc}{y:Vec}(hc:sD x k z tr y)(hz:∀a∈z,k<=a/\a<x.zA.length):Cb x (lnB (x.zA.length-k) L) z tr (nw k y)/\stS x (nw k y)=iY:=by obtain⟨tr2,y2,c1,c2⟩:=yAt h hn (x.zA.length-k) k (by omega) L z hl hz;have n1:=zGK h (x.zA.length-k) k (by omega) y hc.v;have n2:=zGK h (x.zA.length-k) k (by omega) y2 c2;obtain⟨e1,e2⟩:=Col.det hc.col c1.col n1 n2;rw[e1,e2];exact⟨c1.cb,n2⟩
end
theorem yBV:∀d:Nat,d<7->lnB d 100<=60000:=by decide
structure PD.Ok (x:SPr) (d:PD):Prop where
 h1:hdS x (d.wd.drop 0)=iW (d.r1,d.s1,d.w1)
 ht:d.t<d.wd.length
 h2:∃q,hdS x (d.wd.drop d.t)=iW (d.r2,d.s2,q)/\d.w2=d.wd.take d.t++q
 l:d.wd.length<=14
 l1:d.w1.length<=100
 l2:d.w2.length<=100
 m1:∀a∈d.w1,d.k<=a/\a<x.zA.length
 m2:∀a∈d.w2,d.k<=a/\a<x.zA.length
section
variable {x:SPr} (h:Pres x) (hn:x.zA.length<=6)
 include h hn
theorem zRa{a b:Nat}{s:List Nat}(dz:b<a):hdS x (a::b::s)=iW (base x.zA.length b+(a-(b+1)),s,b::(nw 0 (lcj x b a)++s)):=by
 have _:=h;have _:=hn;unfold hdS;simp only[swp]
 grind
theorem zRb{a:Nat}{s:List Nat}(ha:a<x.zA.length):hdS x (J1 (yG x a) a++s)=iW (a,s,nw 0 (x.zJ.getD a [])++s):=by
 have _:=hn;obtain⟨q,hq⟩:∃q,yG x a=q+2:=⟨yG x a-2,by have:=(kG h ha).2.1;omega⟩;have e:swp x (J1 (yG x a) a++s)=iY:=by rw[hq,Jt,Jt];simp only[Kc,swp];simp
 unfold hdS;rw[e];have e2:J1 (yG x a) a++s=a::(J1 (q+1) a++s):=by grind
 have e3:(J1 (yG x a) a++s).take (yG x a)=J1 (yG x a) a:=by simp
 have e4:(J1 (yG x a) a++s).drop (yG x a)=s:=by simp
 rw[e2]at e3 e4;rw[e2];simp only[pws]
 grind
theorem zLE:∀d∈cps x,d.Ok x:=by
 have fw:∀i j,i<j->j<x.zA.length-> ∀a∈nw 0 (lcj x i j),i+1<=a/\a<x.zA.length:=fun i j hi hj=>(qE h (uJ h hi hj) (by omega)).2
 have fF:∀i,i<x.zA.length-> ∀a∈nw 0 (x.zJ.getD i []),i+1<=a/\a<x.zA.length:=fun i hi=>(qE h (zAd h hi) hi).2
 have lcon:∀i j,i<j->j<x.zA.length->(nw 0 (lcj x i j)).length<=36:=fun i j hi hj=>zLC h hn hi hj
 have lpow:∀i,i<x.zA.length->(nw 0 (x.zJ.getD i [])).length<=36:=fun i hi=>(zJr h hn (zAd h hi).1).2
 have od:∀i,i<x.zA.length->2<=yG x i/\yG x i<=7:=fun i hi=>(kG h hi).2
 refine zBZ.2 ⟨fun i j k h1 h2 h3=>?_,fun i j h1 h2=>?_,fun i j h1 h2=>?_,fun i h1=>?_⟩
 ·have c1:=lcon j k h2 h3
  have c2:=lcon i j h1 (by omega);refine⟨zRa h hn h2,by simp[pd2],⟨i::(nw 0 (lcj x i j)++[]),zRa h hn h1,by simp[pd2]⟩,by simp[pd2],by simp only[pd2,Jd,J7,K9];omega,by simp only[pd2,Jd];omega,fun a ha=>?_,fun a ha=>?_⟩
  ·simp only[pd2,Jb,Jf,Qh,or_false]at ha ⊢
   rcases ha with rfl|ha|rfl
   ·omega
   ·have:=fw j k (by omega) h3 a ha;omega
   ·omega
  ·simp only[pd2,Jb]at ha ⊢
   rcases ha with rfl|rfl|ha
   ·omega
   ·omega
   ·have:=fw i j (by omega) (by omega) a ha;omega
 ·have c1:=lpow j h2
  have c2:=lcon i j h1 h2;have o:=od j h2;have e:J1 (yG x j) j++[i]=J1 (yG x j-1) j++[j,i]:=by obtain⟨q,hq⟩:∃q,yG x j=q+1:=⟨yG x j-1,by omega⟩;rw[hq,Kz,Hy,Jh];rfl
  refine⟨zRb h hn h2,by simp only[pd1,J7,Ja,Jd,K9];omega,⟨i::(nw 0 (lcj x i j)++[]),?_,?_⟩,by simp only[pd1,J7,Ja,Jd,K9];omega,by simp only[pd1,Jd,J7,K9];omega,by simp only[pd1,J7,Ja,Jd];omega,fun a ha=>?_,fun a ha=>?_⟩
  ·show hdS x ((J1 (yG x j) j++[i]).drop (yG x j-1))=_
   rw[e,K4 (Ja)];exact zRa h hn h1
  ·show _=(J1 (yG x j) j++[i]).take (yG x j-1)++_
   rw[e,Jr (Ja),J9];rfl
  ·simp only[pd1,Jf,List.mem_singleton]at ha ⊢
   rcases ha with ha|rfl
   ·have:=fF j h2 a ha;omega
   ·omega
  ·simp only[pd1,Jf,Jb]at ha ⊢
   rcases ha with ha|rfl|ha
   ·have:=He ha;omega
   ·omega
   ·have:=fw i j h1 h2 a ha;omega
 ·have c1:=lpow i (by omega)
  have c2:=lcon i j h1 h2;have o:=od i (by omega);have e:J1 (yG x i) i=i::J1 (yG x i-1) i:=by obtain⟨q,hq⟩:∃q,yG x i=q+1:=⟨yG x i-1,by omega⟩;rw[hq,Jt,Hy]
  refine⟨?_,by simp only[pd4,Ja,Jd];omega,⟨nw 0 (x.zJ.getD i [])++[],?_,by simp[pd4]⟩,by simp only[pd4,Ja,Jd];omega,by simp only[pd4,Jd,J7,Ja];omega,by simp only[pd4,Jd];omega,fun a ha=>?_,fun a ha=>?_⟩
  ·show hdS x (j::J1 (yG x i) i)=_
   rw[e];exact zRa h hn h1
  ·show hdS x (J1 (yG x i) i)=_
   have:=zRb h hn (s:=[]) (show i<x.zA.length by omega);rw[J9]at this;exact this
  ·simp only[pd4,Jb,Jf]at ha ⊢
   rcases ha with rfl|ha|ha
   ·omega
   ·have:=fw i j h1 h2 a ha;omega
   ·have:=He ha;omega
  ·simp only[pd4,Jb]at ha ⊢
   rcases ha with rfl|ha
   ·omega
   ·have:=fF i (by omega) a ha;omega
 ·have c1:=lpow i h1
  have o:=od i h1;refine⟨?_,by simp only[pd3,Ja];omega,⟨nw 0 (x.zJ.getD i [])++[],?_,?_⟩,by simp only[pd3,Ja];omega,by simp only[pd3,Jd,J7,K9];omega,by simp only[pd3,Jd];omega,fun a ha=>?_,fun a ha=>?_⟩
  ·show hdS x (J1 (yG x i+1) i)=_
   rw[Kz];exact zRb h hn h1
  ·show hdS x ((J1 (yG x i+1) i).drop 1)=_
   rw[Jt,List.drop_succ_cons,Hq];have:=zRb h hn (s:=[]) h1;rw[J9]at this;exact this
  ·show i::nw 0 (x.zJ.getD i [])=(J1 (yG x i+1) i).take 1++_
   rw[Jt,J9];rfl
  ·simp only[pd3,Jf,List.mem_singleton]at ha ⊢
   rcases ha with ha|rfl
   ·have:=fF i h1 a ha;omega
   ·omega
  ·simp only[pd3,Jb]at ha ⊢
   rcases ha with rfl|ha
   ·omega
   ·have:=fF i h1 a ha;omega
end
section
variable {x:SPr}{m:zB}{D:Nat} (h:Pres x) (hn:x.zA.length<=6) (hD:MOk x.zA.length m D)
 include h hn hD
theorem zSg{d:PD}(hd:d∈cps x){t1 t2:Trc}(hb:d.B x t1 t2)(F:Nat->Nat->Nat->Int):
  ((f_F ⟨x,m,smx m.Prime D (base x.zA.length x.zA.length) F⟩ (enW d.wd) ((0:Nat):Int) 1).bind fun r=>(zH2 r.2 r.1 1).bind fun k2=>(f_F k2 (enW d.wd) (d.t:Int) (-1)).bind fun r3=>zH2 r3.2 r3.1 (-1))=
   iW ⟨x,m,smx m.Prime D (base x.zA.length x.zA.length) (zE3 m D (-1) (zE3 m D 1 F t1) t2)⟩:=by
 have ok:=zLE h hn d hd;obtain⟨hk,mE,_⟩:=zHL h hn d hd;obtain⟨⟨u1,y1,rfl,k1⟩,⟨u2,y2,rfl,k2⟩⟩:=hb;obtain⟨q,q1,q2⟩:=ok.h2;have hl:=ok.l;have ht:=ok.ht;obtain⟨c1,n1⟩:=zQZ h hn (by omega) ok.l1 k1 ok.m1;obtain⟨c2,n2⟩:=zQZ h hn (by omega) ok.l2 k2 ok.m2;have up:∀{w w':List Nat}{tr:Trc},Cb x (lnB (x.zA.length-d.k) 100) w tr w'->Cb x 60000 w tr w':=fun{w w' tr} hc=>by
  have hM:=yBV (x.zA.length-d.k) (by omega)
  generalize lnB (x.zA.length-d.k) 100=M at hc hM
  induction hc with
  |refl w hl hw=>exact .refl _ (by omega) hw
  |step hl hw hs _ ih=>exact .step (by omega) hw hs ih
 rw[zGN h hn hD mE (by omega) (by omega) ok.h1 (s:=1) (by omega) (F:=F),bs];simp only[Ki,Jv];rw[zFY h hn hD (by omega) (up c1) n1,bs,zGN h hn hD mE (by omega) ht q1 (s:=-1) (by omega),bs];simp only
 rw[<-q2,zFY h hn hD (by omega) (up c2) n2];rfl
end
theorem zUX{p:Int}{m:zB}{D r i:Nat}(hi:i<D){t1 t2:Trc}(hp:m.Prime=p):(mkv D fun j=>zE3 m D (-1) (zE3 m D 1 (fun _ _ _=>0) t1) t2 r i j%m.Prime)=prR p D m t1 t2 (r*D+i):=by grind[sX,prR,zQW]
theorem tE{α β:Type}{f:α->List β}{c:Nat}(hf:∀a,(f a).length<=c):∀l:List α,(l.flatMap f).length<=l.length*c
 | []=>by simp
 |a::l=>by
  have:=tE hf l
  grind[K7]
theorem zHM{x:SPr}(hn:x.zA.length<=6):(cps x).length<=300:=by
 have hu:∀i,(ups x.zA.length i).length<=6:=by grind[ups]
 have h1:=tE (c:=36) (f:=fun i=>(ups x.zA.length i).flatMap fun j=>(ups x.zA.length j).map fun k=>pd2 x i j k) (fun i=>by
  have:=tE (c:=6) (f:=fun j=>(ups x.zA.length j).map fun k=>pd2 x i j k) (by grind) (ups x.zA.length i)
  grind) (J8 x.zA.length)
 have h2:=tE (c:=6) (f:=fun i=>(ups x.zA.length i).map fun j=>pd1 x i j) (by grind) (J8 x.zA.length);have h3:=tE (c:=6) (f:=fun i=>(ups x.zA.length i).map fun j=>pd4 x i j) (by grind) (J8 x.zA.length)
 grind[cps]
section
variable {x:SPr}{m:zB}{D:Nat} (hx:sJ x) (hD:MOk x.zA.length m D)
 include hx hD
theorem zNz(h0:0<x.zA.length)(hc:xU (suf x 0))(hr:zC3 x m D){prs:List (Trc×Trc)}(hq:jO x (cps x) prs):∃K,f_s x m=iW K/\
  f_U m.Prime (gl (base x.zA.length x.zA.length*D) fun k=>zBe m.Prime D m prs k) ((prs.length*D:Nat):Int)=iW K:=by
 have h6:=hx.n6;have hp:=hD.p.pos;have hb:=xY x.zA.length (by omega);have h3:=hD.d3;have hB:base x.zA.length x.zA.length*D<=21*3:=Jp hb.2.1 h3;have hql:prs.length<=300:=by rw[<-hq.len];exact zHM h6
 have hqD:prs.length*D<=300*3:=Jp hql h3;obtain⟨K,pk,k1,k2,k3⟩:=zDS hx hD h0 hc hr;obtain⟨K2,pk2,_,j2,j3,j4⟩:=zGB hD.p (c:=prs.length*D) (N:=base x.zA.length x.zA.length*D) (A:=gl (base x.zA.length x.zA.length*D) fun k=>zBe m.Prime D m prs k) (by omega) (fun k hk=>by rw[xR hk];refine⟨zJo prs,fun j hj=>?_⟩;have aT:0<D:=hD.d1;have hi:j/D<prs.length:=(H1 aT).2 hj;have hm:j%D<D:=Hn _ aT;have e:=zFX (F:=fun q:Trc×Trc=>prR m.Prime D m q.1 q.2 k) (fun _=>zU _ _) prs (j/D) (j%D) hi hm;rw[show j/D*D+j%D=j from by grind[Lr]]at e;rw[zBe,e,prR,zT hm];exact⟨Kr _ (by omega),by have:=Ke (zCh m.Prime D m (prs[j/D]).1 (k/D) (k%D) (j%D)-zCh m.Prime D m (prs[j/D]).2 (k/D) (k%D) (j%D)) (show 0<m.Prime by omega);omega⟩) xI
 have key:∀y,Row m.Prime (base x.zA.length x.zA.length*D) y->(Sp m.Prime (base x.zA.length x.zA.length*D) K y↔Sp m.Prime (base x.zA.length x.zA.length*D) K2 y):=by grind[zUS]
 have e:K=K2:=Red.unique (by omega) k2 j3 ⟨fun i hi=>(key _ (k2.row i hi)).1 (qD hi),fun i hi=>(key _ (j3.row i hi)).2 (qD hi)⟩
 grind
end
section
variable {x:SPr}{m:zB}{D:Nat} (h0:x.zA.length=0) (hD:MOk x.zA.length m D)
 include h0 hD
theorem zSh{T:Mx}:zJC ⟨x,m,T⟩=iW []:=by
 have _:=hD;unfold zJC;rw[yR];unfold zK6
 grind
theorem zPe:∃K pk,f_s x m=iW K/\f_U m.Prime [] 0=iW K/\Red m.Prime 0 K pk:=by
 obtain⟨K,pk,k1,k2,k3,_⟩:=zGB hD.p (c:=0) (N:=0) (A:=[]) (by omega) (by simp) rfl;refine⟨K,pk,?_,k2,k3⟩;unfold f_s;have e1:=zJp hD (N:=0) (by omega);have e2:=zKz hD (B:=0) (L:=[]) (by omega) (by simp) (by simp);rw[Ud]at e1;rw[zCV h0,bs,hD.d,show base 0 0=0 from rfl,show((0:Nat):Int)*(D:Int)=((0:Nat):Int)from by simp,zG,bs,e1,bs,zSh h0 hD,bs,e2,bs,show((([]:Mx).length:Nat):Int)*(D:Int)=((0:Nat):Int)from by simp,zG,bs]
 grind
end
theorem yFu{v:Int}:f_n [v] 4=iW [v,v,v,v]:=by
 unfold f_n;have h:=zQ (body:=zDf) (r:=[v,v,v,v]) (fun i=>match i with|0=>([v,0,0,0],1)|1=>([v,v,0,0],2)|_=>([v,v,v,v],4)) 2 (fun i hi=>by
  match i,hi with
  |0,_=>rfl
  |1,_=>simp[zDf,zL,wP,rng,inR]) (by rfl)
 rw[show decide ((4:Int)<0)=ja from rfl,zM,zMV (by rfl),bs];have hl:yD (IntKind.wrap .i64 4)=iW 4:=by rfl
 simp only[hl,bs];rw[show decide ((0:Int)> 0)=ja from rfl,zM,show decide ((4:Int)> 9223372036854775807)=ja from by decide,zM]
 grind[wP]
theorem yFv{v:Int}:f_n [v] 6=iW [v,v,v,v,v,v]:=by
 unfold f_n;have h:=zQ (body:=zDf) (r:=[v,v,v,v,v,v]) (fun i=>match i with|0=>([v,0,0,0,0,0],1)|1=>([v,v,0,0,0,0],2)|2=>([v,v,v,v,0,0],4)|_=>([v,v,v,v,v,v],6)) 3 (fun i hi=>by
  match i,hi with
  |0,_=>rfl
  |1,_=>simp[zDf,zL,wP,rng,inR]
  |2,_=>rfl) (by rfl)
 rw[show decide ((6:Int)<0)=ja from rfl,zM,zMV (by rfl),bs];have hl:yD (IntKind.wrap .i64 6)=iW 6:=by rfl
 simp only[hl,bs];rw[show decide ((0:Int)> 0)=ja from rfl,zM,show decide ((6:Int)> 9223372036854775807)=ja from by decide,zM];have e2:wP (J1 6 (0:Int)) 0 (([v]:List Int).take ((J1 6 (0:Int)).length-0))=[v,0,0,0,0,0]:=by rfl
 grind
theorem yFw{v:Int}:f_n [v] 8=iW [v,v,v,v,v,v,v,v]:=by
 unfold f_n;have h:=zQ (body:=zDf) (r:=[v,v,v,v,v,v,v,v]) (fun i=>match i with|0=>([v,0,0,0,0,0,0,0],1)|1=>([v,v,0,0,0,0,0,0],2)|2=>([v,v,v,v,0,0,0,0],4)|_=>([v,v,v,v,v,v,v,v],8)) 3 (fun i hi=>by
  match i,hi with
  |0,_=>rfl
  |1,_=>simp[zDf,zL,wP,rng,inR]
  |2,_=>simp[zDf,zL,wP,rng,inR]) (by rfl)
 rw[show decide ((8:Int)<0)=ja from rfl,zM,zMV (by rfl),bs];have hl:yD (IntKind.wrap .i64 8)=iW 8:=by rfl
 simp only[hl,bs];rw[show decide ((0:Int)> 0)=ja from rfl,zM,show decide ((8:Int)> 9223372036854775807)=ja from by decide,zM];have e2:wP (J1 8 (0:Int)) 0 (([v]:List Int).take ((J1 8 (0:Int)).length-0))=[v,0,0,0,0,0,0,0]:=by rfl
 grind
theorem zCa{β:Type}{body:List β×Int->Option ((List β×Int)⊕List β)}(s n B:Nat)(F:Nat->List β)(a0:List β)(hB:a0.length+((Kk s n).flatMap F).length<=B)
  (h:∀i acc,s<=i->i<s+n->acc.length+(F i).length<=B->body (acc,((i+1:Nat):Int))=iW (.inl (acc++F i,((i+1+1:Nat):Int))))(he:∀acc,body (acc,((s+n+1:Nat):Int))=iW (.inr acc)):
  zH body (a0,((s+1:Nat):Int))=iW (a0++(Kk s n).flatMap F):=by
 have:=zQ (body:=body) (r:=a0++(Kk s n).flatMap F) (fun i=>(a0++(Kk s i).flatMap F,((s+i+1:Nat):Int))) n (fun i hi=>by
  have e:(Kk s (i+1)).flatMap F=(Kk s i).flatMap F++F (s+i):=by rw[List.range'_1_concat,Gm,L9,Ja2,J9]
  have eW:((Kk s (i+1)).flatMap F).length<=((Kk s n).flatMap F).length:=by
   obtain⟨k,rfl⟩:∃k,n=i+1+k:=⟨n-(i+1),by omega⟩;have e3:Kk s (i+1+k)=Kk s (i+1)++Kk (s+(i+1)) k:=Q4.symm
   grind
  grind) (he _)
 grind
def CPd(d:PD):zS:=⟨enW d.wd,enW d.w1,enW d.w2⟩
section
variable {x:SPr} (h:Pres x) (hn:x.zA.length<=6)
 include h
theorem zN0{v:Int}{a:Nat}(ha:a<x.zA.length):zP5 v ((yG x a:Nat):Int)=iW (J1 (yG x a) v):=by
 have hp:=h.os.2 a ha;have e:=(kG h ha).1;have e2:at0 x.zA a=((yG x a:Nat):Int):=by grind[yJ]
 grind[zP5,zDJ]
theorem zSi{v:Int}{a:Nat}(ha:a<x.zA.length):zP5 v (((yG x a+1:Nat)):Int)=iW (J1 (yG x a+1) v):=by
 have hp:=h.os.2 a ha;have e:=(kG h ha).1;have e2:at0 x.zA a=((yG x a:Nat):Int):=by grind[yJ]
 rw[e2]at hp;have:yG x a=2\/yG x a=3\/yG x a=5\/yG x a=7:=by rcases hp with g|g|g|g<;>omega
 unfold zP5;rcases this with g|g|g|g<;>rw[g]
 ·exact(congrArg (fun o=>Gs o _) (zDJ (v:=v) (o:=3) (.inr (.inl rfl)))).trans rfl
 ·exact(congrArg (fun o=>Gs o _) (yFu (v:=v))).trans rfl
 ·exact(congrArg (fun o=>Gs o _) (yFv (v:=v))).trans rfl
 ·exact(congrArg (fun o=>Gs o _) (yFw (v:=v))).trans rfl
 include hn
theorem zFZ{d:PD}(hd:d∈cps x){out:List zS}(ho:out.length<=100000):zSB (enW d.wd) (d.t:Int) out x=iW (out++[CPd d]):=by have ok:=zLE h hn d hd;obtain⟨_,mE,_⟩:=zHL h hn d hd;obtain⟨q,q1,q2⟩:=ok.h2;have hl:=ok.l;have ht:=ok.ht;unfold zSB;rw[show(0:Int)=((0:Nat):Int)from rfl,zDT h hn mE (by omega) (by omega) ok.h1,bs,zDT h hn mE (by omega) ht q1,bs,zX (by grind),bs];simp only[Ki,Jv];rw[<-q2];rfl
end
theorem zDe{α β:Type}{f:α->β}:∀l:List α,(l.flatMap fun a=>[f a])=l.map f
 | []=>rfl
 |a::l=>by rw[L9,zDe l];rfl
theorem zBy{N i:Nat}(hN:N<=6):(ups N i).length<=6:=by grind[ups]
section
variable {x:SPr} (h:Pres x) (hn:x.zA.length<=6)
 include h hn
theorem yEl{i j:Nat}(gR:i<j)(hj:j<x.zA.length){o1 o2 out:List zS}(ho:out.length<=3000):
  zH (zW2 x (o1,((i+1:Nat):Int)) (o2,((j+1:Nat):Int))) (out,((j+1+1:Nat):Int))=iW (out++(ups x.zA.length j).map fun k=>CPd (pd2 x i j k)):=by
 have hm:=((zBZ (x:=x) (φ:=fun d=>d∈cps x)).1 fun d hd=>hd).1;have hu:=zBy (i:=j) hn;have:=zCa (body:=zW2 x (o1,((i+1:Nat):Int)) (o2,((j+1:Nat):Int))) (j+1) (x.zA.length-(j+1)) 4000 (fun k=>[CPd (pd2 x i j k)]) out (by rw[zDe,Jg];grind) (fun k acc hk1 fd hb=>by
  unfold zW2;simp only
  have e:([((k+1:Nat):Int),((j+1:Nat):Int),((i+1:Nat):Int)])=enW (pd2 x i j k).wd:=by rfl
  rw[jc,zK,e,show(1:Int)=((pd2 x i j k).t:Int)from rfl,zFZ h hn (by grind) (by omega),bs,show((k+1:Nat):Int)+((pd2 x i j k).t:Int)=((k+1+1:Nat):Int)from rfl,zG,bs]) (fun acc=>by
  unfold zW2
  grind)
 rw[zDe]at this;exact this
theorem yEm{i:Nat}(hi:i<x.zA.length){o1 out:List zS}(ho:out.length<=2000):
  zH (zW3 x (o1,((i+1:Nat):Int))) (out,((i+1+1:Nat):Int))=iW (out++(ups x.zA.length i).flatMap fun j=>(ups x.zA.length j).map fun k=>CPd (pd2 x i j k)):=by
 have hu:=zBy (i:=i) hn;have hf:=tE (c:=6) (f:=fun j=>(ups x.zA.length j).map fun k=>CPd (pd2 x i j k)) (by grind[zBy]) (ups x.zA.length i);have:=zCa (body:=zW3 x (o1,((i+1:Nat):Int))) (i+1) (x.zA.length-(i+1)) 3000 (fun j=>(ups x.zA.length j).map fun k=>CPd (pd2 x i j k)) out (by grind[ups]) (fun j acc hj1 dn hb=>by
  unfold zW3;simp only
  rw[jc,zK,show((j+1:Nat):Int)+1=((j+1+1:Nat):Int)from by omega,zG,bs,yEl h hn (by omega) (by omega) (by omega),bs,bs]) (fun acc=>by
  unfold zW3
  grind)
 exact this
theorem yEn:zH (zW4 x) ([],1)=iW ((J8 x.zA.length).flatMap fun i=>(ups x.zA.length i).flatMap fun j=>(ups x.zA.length j).map fun k=>CPd (pd2 x i j k)):=by
 have hf:=tE (c:=36) (f:=fun i=>(ups x.zA.length i).flatMap fun j=>(ups x.zA.length j).map fun k=>CPd (pd2 x i j k)) (fun i=>by
  have:=tE (c:=6) (f:=fun j=>(ups x.zA.length j).map fun k=>CPd (pd2 x i j k)) (by grind[zBy]) (ups x.zA.length i)
  grind[zBy]) (J8 x.zA.length)
 rw[L8]at hf;have:=zCa (body:=zW4 x) 0 x.zA.length 2000 (fun i=>(ups x.zA.length i).flatMap fun j=>(ups x.zA.length j).map fun k=>CPd (pd2 x i j k)) [] (by grind[Kn]) (fun i acc aC fx hb=>by
  unfold zW4;simp only
  rw[jc,zK,show((i+1:Nat):Int)+1=((i+1+1:Nat):Int)from by omega,zG,bs,yEm h hn (by omega) (by omega),bs,bs]) (fun acc=>by
  unfold zW4
  grind)
 grind[Kn]
theorem yEo{i:Nat}(hi:i<x.zA.length){o1 out:List zS}(ho:out.length<=3000):
  zH (zW5 x (o1,((i+1:Nat):Int))) (out,((i+1+1:Nat):Int))=iW (out++(ups x.zA.length i).map fun j=>CPd (pd1 x i j)):=by
 have hm:=((zBZ (x:=x) (φ:=fun d=>d∈cps x)).1 fun d hd=>hd).2.1;have hu:=zBy (i:=i) hn;have:=zCa (body:=zW5 x (o1,((i+1:Nat):Int))) (i+1) (x.zA.length-(i+1)) 4000 (fun j=>[CPd (pd1 x i j)]) out (by rw[zDe,Jg];rw[ups]at hu;omega) (fun j acc hj1 dn hb=>by
  have ho:=kG h (show j<x.zA.length by omega);unfold zW5;simp only
  have e:J1 (yG x j) ((j+1:Nat):Int)++[((i+1:Nat):Int)]=enW (pd1 x i j).wd:=by show _=enW (J1 (yG x j) j++[i]);simp only[enW,Lu,List.map_replicate,Js,Gy];rfl
  have et:((yG x j:Nat):Int)-1=((pd1 x i j).t:Int):=by show _=((yG x j-1:Nat):Int);omega
  rw[jc,zK,show((j+1:Nat):Int)-1=(j:Int)from by omega,zG (n:=(j:Int)),bs,ho.1,bs,zN0 h (by omega),bs,zX (by simp only[Ja,Jd,K9];omega),bs,bs,ho.1,bs,zG (n:=((yG x j:Nat):Int)-1),bs,e,et,zFZ h hn (hm i j (by omega) (by omega)) (by simp only[Jd,K9]at hb;omega),bs,show((j+1:Nat):Int)+1=((j+1+1:Nat):Int)from by omega,zG,bs]) (fun acc=>by
  unfold zW5;simp only
  rw[jb (by omega),zM])
 rw[zDe]at this;exact this
theorem yEp{out:List zS}(ho:out.length<=1000):zH (zW6 x) (out,1)=iW (out++(J8 x.zA.length).flatMap fun i=>(ups x.zA.length i).map fun j=>CPd (pd1 x i j)):=by
 have hf:=tE (c:=6) (f:=fun i=>(ups x.zA.length i).map fun j=>CPd (pd1 x i j)) (by grind[zBy]) (J8 x.zA.length);rw[L8]at hf;have:=zCa (body:=zW6 x) 0 x.zA.length 2000 (fun i=>(ups x.zA.length i).map fun j=>CPd (pd1 x i j)) out (by grind[Kn]) (fun i acc aC fx hb=>by
  unfold zW6;simp only
  rw[jc,zK,show((i+1:Nat):Int)+1=((i+1+1:Nat):Int)from by omega,zG,bs,yEo h hn (by omega) (by omega),bs,bs]) (fun acc=>by
  unfold zW6
  grind)
 grind[Kn]
theorem yEq{i:Nat}(hi:i<x.zA.length){o1 out:List zS}(ho:out.length<=3000):
  zH (zW7 x (o1,((i+1:Nat):Int))) (out,((i+1+1:Nat):Int))=iW (out++(ups x.zA.length i).map fun j=>CPd (pd4 x i j)):=by
 have hm:=((zBZ (x:=x) (φ:=fun d=>d∈cps x)).1 fun d hd=>hd).2.2.1;have hu:=zBy (i:=i) hn;have ho:=kG h hi;have:=zCa (body:=zW7 x (o1,((i+1:Nat):Int))) (i+1) (x.zA.length-(i+1)) 4000 (fun j=>[CPd (pd4 x i j)]) out (by rw[zDe,Jg];grind) (fun j acc hj1 dn hb=>by
  unfold zW7;simp only
  have e:[((j+1:Nat):Int)]++J1 (yG x i) ((i+1:Nat):Int)=enW (pd4 x i j).wd:=by show _=enW (j::J1 (yG x i) i);simp
  rw[jc,zK,show((i+1:Nat):Int)-1=(i:Int)from by omega,zG (n:=(i:Int)),bs,ho.1,bs,zN0 h hi,bs,zX (by simp only[Ja,Jd,K9];omega),bs,e,show(1:Int)=((pd4 x i j).t:Int)from rfl,zFZ h hn (hm i j (by omega) (by omega)) (by simp only[Jd,K9]at hb;omega),bs,show((j+1:Nat):Int)+((pd4 x i j).t:Int)=((j+1+1:Nat):Int)from rfl,zG,bs]) (fun acc=>by
  unfold zW7
  grind)
 rw[zDe]at this;exact this
theorem yEr{out:List zS}(ho:out.length<=1000):zH (zW8 x) (out,1)=iW (out++(J8 x.zA.length).flatMap fun i=>(ups x.zA.length i).map fun j=>CPd (pd4 x i j)):=by
 have hf:=tE (c:=6) (f:=fun i=>(ups x.zA.length i).map fun j=>CPd (pd4 x i j)) (by grind[zBy]) (J8 x.zA.length);rw[L8]at hf;have:=zCa (body:=zW8 x) 0 x.zA.length 2000 (fun i=>(ups x.zA.length i).map fun j=>CPd (pd4 x i j)) out (by grind[Kn]) (fun i acc aC fx hb=>by
  unfold zW8;simp only
  rw[jc,zK,show((i+1:Nat):Int)+1=((i+1+1:Nat):Int)from by omega,zG,bs,yEq h hn (by omega) (by omega),bs,bs]) (fun acc=>by
  unfold zW8
  grind)
 grind[Kn]
theorem yEs{out:List zS}(ho:out.length<=1000):zH (zW9 x) (out,1)=iW (out++(J8 x.zA.length).map fun i=>CPd (pd3 x i)):=by
 have hm:=((zBZ (x:=x) (φ:=fun d=>d∈cps x)).1 fun d hd=>hd).2.2.2;have:=zCa (body:=zW9 x) 0 x.zA.length 2000 (fun i=>[CPd (pd3 x i)]) out (by rw[zDe,Jg,List.length_range'];omega) (fun i acc aC fx hb=>by
  have ho:=kG h (show i<x.zA.length by omega);unfold zW9;simp only
  have e:J1 (yG x i+1) ((i+1:Nat):Int)=enW (pd3 x i).wd:=by show _=enW (J1 (yG x i+1) i);simp
  rw[jc,zK,show((i+1:Nat):Int)-1=(i:Int)from by omega,zG (n:=(i:Int)),bs,ho.1,bs,show((yG x i:Nat):Int)+1=((yG x i+1:Nat):Int)from by omega,zG (n:=((yG x i+1:Nat):Int)),bs,zSi h (by omega),bs,e,show(1:Int)=((pd3 x i).t:Int)from rfl,zFZ h hn (hm i (by omega)) (by simp only[Jd,K9]at hb;omega),bs,show((i+1:Nat):Int)+((pd3 x i).t:Int)=((i+1+1:Nat):Int)from rfl,zG,bs]) (fun acc=>by
  unfold zW9
  grind)
 grind[zDe,Kn]
theorem zFh:f_g x=iW ((cps x).map CPd):=by
 have hl:=zHM (x:=x) hn;have em:(cps x).map CPd=((J8 x.zA.length).flatMap fun i=>(ups x.zA.length i).flatMap fun j=>(ups x.zA.length j).map fun k=>CPd (pd2 x i j k))++(((J8 x.zA.length).flatMap fun i=>(ups x.zA.length i).map fun j=>CPd (pd1 x i j))++(((J8 x.zA.length).flatMap fun i=>(ups x.zA.length i).map fun j=>CPd (pd4 x i j))++(J8 x.zA.length).map fun i=>CPd (pd3 x i))):=by simp only[cps,Lu,List.map_flatMap,Q6];rfl
 have mU:((cps x).map CPd).length<=300:=by grind
 rw[em]at mU;simp only[J7]at mU;unfold f_g;rw[yEn h hn,bs,yEp h hn (by omega),bs,yEr h hn (by grind),bs,yEs h hn (by simp only[J7];omega),bs,em];simp
end
theorem yFx:yE7=zP6:=rfl
theorem yFy:yE8=zP6:=rfl
theorem jO.get{x:SPr}:{ds:List PD}->{qs:List (Trc×Trc)}->jO x ds qs-> ∀k(h1:k<ds.length)(h2:k<qs.length),(ds[k]).B x (qs[k]).1 (qs[k]).2
 | [],[],_,k,h1,_=>by simp at h1
 |d::ds,q::qs,h,0,_,_=>h.1
 |d::ds,q::qs,h,k+1,h1,h2=>by simpa using jO.get h.2 k (by simpa using h1) (by simpa using h2)
 | [],_::_,h,_,_,_=>by grind
 |_::_,[],h,_,_,_=>by grind
theorem zSj{p:Int}{D:Nat}{m:zB}{prs:List (Trc×Trc)}{k q:Nat}(hk:k<prs.length):zBe p D m (prs.take (k+1)) q=zBe p D m (prs.take k) q++prR p D m (prs[k]).1 (prs[k]).2 q:=by grind[zBe,K1]
section
variable {x:SPr}{m:zB}{D:Nat} (hD:MOk x.zA.length m D)
 include hD
theorem yEt:zH (zWB ⟨m.Prime,(D:Int),idM D⟩) (idM D,0)=iW (gl D fun _=>mkv D fun _=>0):=by
 have h3:=hD.d3;have:=zQ (body:=zWB ⟨m.Prime,(D:Int),idM D⟩) (r:=gl D fun _=>mkv D fun _=>0) (fun i=>(gl D fun a=>mkv D fun j=>if j=a then(if a<i then 0 else 1)else 0,(i:Int))) D (fun i hi=>by
  unfold zWB;simp only
  rw[qC,yN hi,zK,zBV hi,bs,yJ (by grind[zU]),bs,zG,bs];simp only[J6];rw[zEX,qJ]
  grind) (by
  unfold zWB;simp only
  rw[qC,qT,zM]
  simp_all)
 have e:(gl D fun a=>mkv D fun j=>if j=a then(if a<0 then(0:Int)else 1)else 0)=idM D:=rfl
 grind
theorem yEu{N:Nat}(hN:N<=100):zH (zWC m (N:Int)) ([],0)=iW (smx m.Prime D N fun _ _ _=>0):=by
 refine(uX (body:=zWC m (N:Int)) N (fun _=>zN.mk m.Prime (D:Int) (gl D fun _=>mkv D fun _=>0)) (fun i acc hi ha=>?_) (fun acc=>?_)).trans ?_
 ·unfold zWC
  simp only
  rw[yN hi,zK,hD.d,zEC hD.p (by have:=hD.d3;omega),bs]
  grind[yEt,zX,zG]
 ·unfold zWC
  simp
 ·rfl
section
variable {N:Nat}{G:Nat->Nat->Nat->Int}{R:Nat->List Int}
abbrev zGa(p:Int)(D:Nat)(G:Nat->Nat->Nat->Int)(R:Nat->List Int)(k:Nat):List Int:=R k++mkv D fun j=>G (k/D) (k%D) j%p
theorem yEv(hN:N<=100)(hR:∀k,(R k).length<=100000){r:Nat}(hr:r<N){z:Mx}:
  zH (zWD m (z,(r:Int)) ⟨m.Prime,(D:Int),gl D fun i=>mkv D fun j=>G r i j%m.Prime⟩) (gl (N*D) fun k=>if k<r*D then zGa m.Prime D G R k else R k,0)=iW (gl (N*D) fun k=>if k<(r+1)*D then zGa m.Prime D G R k else R k):=by
 have h3:=hD.d3;have h1:=hD.d1;have hb:(r+1)*D<=N*D:=Jw D (by omega);have pO:N*D<=100*3:=Jp hN h3;rw[K7]at hb;have:=zQ (body:=zWD m (z,(r:Int)) ⟨m.Prime,(D:Int),gl D fun i=>mkv D fun j=>G r i j%m.Prime⟩) (r:=gl (N*D) fun k=>if k<(r+1)*D then zGa m.Prime D G R k else R k) (fun i=>(gl (N*D) fun k=>if k<r*D+i then zGa m.Prime D G R k else R k,(i:Int))) D (fun i hi=>by
  obtain⟨e1,e2⟩:=sX (q:=r) hi;unfold zWD;simp only
  rw[xI,yN hi,zK,zBV hi,bs,hD.d,<-Uh,zG,bs,<-H0,zG,bs,zBV,bs,if_neg (by omega),zX (by rw[zU];have:=hR (r*D+i);omega),bs,zG,bs];simp only[J6];rw[zEX]
  grind) (by
  unfold zWD
  grind)
 exact this
theorem yEw(hN:N<=100)(hR:∀k,(R k).length<=100000):zH (zP6 m ⟨x,m,smx m.Prime D N G⟩) (gl (N*D) R,0)=iW (gl (N*D) (zGa m.Prime D G R)):=by
 have gn:(smx m.Prime D N G).length=N:=xI;have:=zQ (body:=zP6 m ⟨x,m,smx m.Prime D N G⟩) (r:=gl (N*D) (zGa m.Prime D G R)) (fun i=>(gl (N*D) fun k=>if k<i*D then zGa m.Prime D G R k else R k,(i:Int))) N (fun i hi=>by
  unfold zP6;simp only
  rw[gn,yN hi,zK,smx,zBV hi,bs,yEv hD hN hR hi,bs,zG,bs];rfl) (by
  unfold zP6
  simp_all)
 grind
end
end
theorem yEx{x:SPr}(h:Pres x):∀d∈cps x,2<=d.wd.length/\((d.wd.getD 0 0=d.wd.getD 1 0/\d.wd.getD (d.wd.length-1) 0≠d.wd.getD 0 0/\d.t=d.wd.length-2)\/(d.wd.getD 0 0=d.wd.getD 1 0/\d.wd.getD (d.wd.length-1) 0=d.wd.getD 0 0/\d.t=1)\/(d.wd.getD 0 0≠d.wd.getD 1 0/\d.t=1)):=by
 refine zBZ.2 ⟨fun i j k h1 h2 h3=>?_,fun i j h1 h2=>?_,fun i j h1 h2=>?_,fun i h1=>?_⟩
 ·refine⟨by simp[pd2],.inr (.inr ⟨?_,rfl⟩)⟩
  show k≠j;omega
 ·have o:=(kG h h2).2
  obtain⟨q,hq⟩:∃q,yG x j=q+2:=⟨yG x j-2,by omega⟩;simp only[pd1,hq,J7,Ja,Jd,K9];refine⟨by omega,.inl ⟨rfl,?_,by omega⟩⟩;have:(J1 (q+2) j++[i]).getD (q+2+(0+1)-1) 0=i:=by simp
  grind
 ·have o:=(kG h (show i<x.zA.length by omega)).2
  obtain⟨q,hq⟩:∃q,yG x i=q+2:=⟨yG x i-2,by omega⟩;simp only[pd4,hq,Ja,Jd]
  grind
 ·have o:=(kG h h1).2
  obtain⟨q,hq⟩:∃q,yG x i=q+2:=⟨yG x i-2,by omega⟩;simp only[pd3,hq,Ja];simp
section
variable {x:SPr}{m:zB}{D:Nat} (h:Pres x) (hn:x.zA.length<=6) (hD:MOk x.zA.length m D)
 include h hn hD
theorem zYm{prs:List (Trc×Trc)}(hq:jO x (cps x) prs){k:Nat}(hk:k<(cps x).length){N:Nat}(hN:N=base x.zA.length x.zA.length):
  zWE x m (N:Int) ((cps x).map CPd) (gl (N*D) (fun q=>zBe m.Prime D m (prs.take k) q),(k:Int))=iW (.inl (gl (N*D) (fun q=>zBe m.Prime D m (prs.take (k+1)) q),((k+1:Nat):Int))):=by
 subst hN;have hl:=hq.len;have hd:=K3 hk;have fd:k<prs.length:=by omega
 have eO:=xY x.zA.length (by omega);have h3:=hD.d3;have h1:=hD.d1;have gy:=zHM (x:=x) hn;have fX:=zSg h hn hD hd (hq.get k hk fd) (fun _ _ _=>0);obtain⟨w2,ht⟩:=yEx h _ hd;have hlw:=(zLE h hn _ hd).l;have fa:=(zLE h hn _ hd).ht;have hR:∀q,(zBe m.Prime D m (prs.take k) q).length<=100000:=fun q=>by rw[zJo,Kf];have:min k prs.length*D<=300*3:=Jp (by omega) h3;omega
 have cu:=yEw (x:=x) (G:=zE3 m D (-1) (zE3 m D 1 (fun _ _ _=>0) (prs[k]).1) (prs[k]).2) hD (show base x.zA.length x.zA.length<=100 by omega) hR;have erow:gl (base x.zA.length x.zA.length*D) (zGa m.Prime D (zE3 m D (-1) (zE3 m D 1 (fun _ _ _=>0) (prs[k]).1) (prs[k]).2) (fun q=>zBe m.Prime D m (prs.take k) q))=gl (base x.zA.length x.zA.length*D) fun q=>zBe m.Prime D m (prs.take (k+1)) q:=zAX fun q _=>by have hm:q%D<D:=Hn _ (by omega);rw[zSj fd,zGa,zUX hm rfl,show q/D*D+q%D=q from by grind[Lr]]
 rw[erow]at cu;have dp:ixO ((cps x).map CPd) (k:Int)=iW (CPd (cps x)[k]):=by grind[zAK]
 generalize (cps x)[k]=d at*
 have key:∀K:wV->Option ((Mx×Int)⊕Mx),((f_F ⟨x,m,smx m.Prime D (base x.zA.length x.zA.length) fun _ _ _=>0⟩ (enW d.wd) 0 1).bind fun r=>(zH2 r.2 r.1 1).bind fun k2=>(f_F k2 (enW d.wd) (d.t:Int) (-1)).bind fun r3=>(zH2 r3.2 r3.1 (-1)).bind K)=K ⟨x,m,smx m.Prime D (base x.zA.length x.zA.length) (zE3 m D (-1) (zE3 m D 1 (fun _ _ _=>0) (prs[k]).1) (prs[k]).2)⟩:=fun K=>by have e:=congrArg (fun o=>Gs o K) fX;simp only[Option.bind_assoc,bs]at e;exact e
 unfold zWE;simp only
 rw[Jg,yN hk,zK,dp,bs,yEu hD (by omega),bs];simp only[CPd];have i0:=sO (w:=d.wd) (t:=0);have i1:=sO (w:=d.wd) (t:=1);have il:=sO (w:=d.wd) (t:=d.wd.length-1);rw[show((0:Nat):Int)=0 from rfl]at i0;rw[show((1:Nat):Int)=1 from rfl]at i1;rw[i0,bs,i1,bs,Jg];rcases ht with⟨t1,t2,t3⟩|⟨t1,t2,t3⟩|⟨t1,t3⟩
 ·rw[show((((d.wd.getD 0 0:Nat):Int)+1)==(((d.wd.getD 1 0:Nat):Int)+1))=iZ from by grind,zK,zG,bs,show(d.wd.length:Int)-1=((d.wd.length-1:Nat):Int)from by omega,il,bs,show((((d.wd.getD (d.wd.length-1) 0:Nat):Int)+1) != (((d.wd.getD 0 0:Nat):Int)+1))=iZ from by rw[bne_iff_ne];omega,zK,zG,bs,show(d.wd.length:Int)-2=(d.t:Int)from by omega,key,cu,bs,zG,bs]
  rfl
 ·rw[show((((d.wd.getD 0 0:Nat):Int)+1)==(((d.wd.getD 1 0:Nat):Int)+1))=iZ from by grind,zK,zG,bs,show(d.wd.length:Int)-1=((d.wd.length-1:Nat):Int)from by omega,il,bs,show((((d.wd.getD (d.wd.length-1) 0:Nat):Int)+1) != (((d.wd.getD 0 0:Nat):Int)+1))=ja from by rw[t2];exact bne_self_eq_false _,zM]
  rw[t3]at key;rw[show(1:Int)=((1:Nat):Int)from rfl]at*
  rw[key,yFx,cu,bs,zG,bs];rfl
 ·rw[show((((d.wd.getD 0 0:Nat):Int)+1)==(((d.wd.getD 1 0:Nat):Int)+1))=ja from by grind,zM]
  rw[t3]at key;rw[show(1:Int)=((1:Nat):Int)from rfl]at*
  rw[key,yFy,cu,bs,zG,bs];rfl
end
section
variable {x:SPr}{m:zB}{D:Nat} (hx:sJ x) (hD:MOk x.zA.length m D)
 include hx hD
theorem zJ6(hc:xU (suf x 0))(hr:zC3 x m D):∃K pk,f_s x m=iW K/\f_j x m=iW K/\Red m.Prime (base x.zA.length x.zA.length*D) K pk:=by
 have h6:=hx.n6;have h3:=hD.d3;have h1:=hD.d1;have eO:=xY x.zA.length (by omega);have hbD:base x.zA.length x.zA.length*D<=21*3:=Jp eO.2.1 h3;obtain⟨prs,hq⟩:=yBU hx hD;have hl:=hq.len;have gy:=zHM (x:=x) h6;have fK:=zQ (body:=zWE x m ((base x.zA.length x.zA.length:Nat):Int) ((cps x).map CPd)) (r:=gl (base x.zA.length x.zA.length*D) (fun q=>zBe m.Prime D m prs q)) (fun k=>(gl (base x.zA.length x.zA.length*D) (fun q=>zBe m.Prime D m (prs.take k) q),(k:Int))) (cps x).length (fun k hk=>zYm hx.toPres h6 hD hq hk rfl) (by
  unfold zWE
  grind)
 have e0:gl (base x.zA.length x.zA.length*D) (fun q=>zBe m.Prime D m (prs.take 0) q)=J1 (base x.zA.length x.zA.length*D) ([]:List Int):=by simp only[Ki,zBe,Gy,Up];rw[List.eq_replicate_iff];simp
 rw[e0]at fK;have fW:f_j x m=cond (decide (((gl (base x.zA.length x.zA.length*D) (fun q=>zBe m.Prime D m prs q)).length:Int)> 0)) (
   (ixO (gl (base x.zA.length x.zA.length*D) (fun q=>zBe m.Prime D m prs q)) 0).bind fun v32=>(f_U m.Prime (gl (base x.zA.length x.zA.length*D) (fun q=>zBe m.Prime D m prs q)) (v32.length:Int)).bind fun r33=>iW r33) (
   (f_U m.Prime (gl (base x.zA.length x.zA.length*D) (fun q=>zBe m.Prime D m prs q)) 0).bind fun r34=>iW r34):=by
  unfold f_j;rw[zIQ rfl h6,bs,hD.d,<-Uh,zG,bs,yP,bs,zFh hx.toPres h6,bs]
  grind
 rcases Jb7 x.zA.length with h0|h0
 ·obtain⟨K,pk,k1,k2,k3⟩:=zPe h0 hD
  grind
 ·obtain⟨K,pk,k1,k2,_⟩:=zDS hx hD h0 hc hr
  obtain⟨K2,j1,j2⟩:=zNz hx hD h0 hc hr hq;rw[k1]at j1;cases j1;refine⟨K,pk,k1,?_,k2⟩;have fY:0<base x.zA.length x.zA.length*D:=Nat.mul_pos (by omega) h1;rw[fW,xI,jc,zK,show(0:Int)=((0:Nat):Int)from rfl,zBV fY,bs,zJo,j2,bs]
end
theorem zUY{n D:Nat}{v:List Int}(hD:1<=D)(hl:v.length=n*D):(zAh n D v).flatten=v:=by
 have hF:∀i:Nat,(mkv D fun j=>at0 v (i*D+j)).length=D:=fun i=>zU _ _
 have h1:(zAh n D v).flatten.length=n*D:=by have:=zGM (F:=fun i=>mkv D fun j=>at0 v (i*D+j)) hF (J8 n);rw[L8]at this;exact this
 refine(wI h1).trans (((zV fun k hk=>?_)).trans (wI hl).symm);have hi:k/D<n:=(H1 (by omega)).2 hk;have hm:k%D<D:=Hn _ (by omega);have e:=zFX (F:=fun i=>mkv D fun j=>at0 v (i*D+j)) hF (J8 n) (k/D) (k%D) (by grind) hm;rw[show k/D*D+k%D=k from by grind[Lr]]at e;rw[List.getElem_range,zT hm,show k/D*D+k%D=k from by grind[Lr]]at e;exact e
variable {x:SPr}{w:Pres x/\xU (suf x 0)}
end Go.Pl

namespace Go.Pl
open Go Go.Ab Go.Wk Go.Pc
variable {x:SPr}{w:Pres x/\xU (suf x 0)}
end Go.Pl

namespace Go.Pl
open Go Go.Ab Go.Wk Go.Pc
theorem zRc{x:SPr}(h:Pres x)(h6:x.zA.length<=6):∀b,b<=x.zA.length->x.zA.length+((J8 b).flatMap (R2 x)).length=base x.zA.length b
 |0,_=>by simp[base]
 |b+1,hb=>by
  have ih:=zRc h h6 b (by omega);have:=(h.tl b (by omega)).2.1;have e:((J8 (b+1)).flatMap (R2 x)).length=((J8 b).flatMap (R2 x)).length+(x.zC.getD b []).length:=by rw[Lb,Gm,J7];simp only[L9,Ja2,J9,R2,Jg,L8]
  rw[zKr _ (by omega) b (by omega),<-ih,e];omega
theorem zUZ{x:SPr}{a:Nat}(ha:a<x.zA.length):(xL x).getD a ([],[])=r1 x a:=by rw[xL,J2,K0 (by simp;exact ha)];simp[ha]
theorem zVa{x:SPr}(h:Pres x)(h6:x.zA.length<=6){b j:Nat}(hb:b<x.zA.length:=by omega)(hj:b+j+1<x.zA.length:=by omega):(xL x).getD (base x.zA.length b+j) ([],[])=r2 x b j:=by
 have hf:=zRc h h6 b (by omega);have hl:=(h.tl b hb).2.1;have e:J8 x.zA.length=J8 b++b::Kk (b+1) (x.zA.length-(b+1)):=by have a1:=@Q4 0 b (x.zA.length-b);rw[Jc,show b+(x.zA.length-b)=x.zA.length by omega,show x.zA.length-b=x.zA.length-(b+1)+1 by omega,Uw]at a1;rw[Kn,Kn,<-a1]
 have e2:(J8 x.zA.length).flatMap (R2 x)=(J8 b).flatMap (R2 x)++(R2 x b++(Kk (b+1) (x.zA.length-(b+1))).flatMap (R2 x)):=by rw[e,Gm,L9]
 have l1:((J8 x.zA.length).map (r1 x)).length=x.zA.length:=by simp
 have l2:(R2 x b).length=(x.zC.getD b []).length:=by simp only[R2,Jg,L8]
 have ei:base x.zA.length b+j-((J8 x.zA.length).map (r1 x)++(J8 b).flatMap (R2 x)).length=j:=by rw[J7,l1];omega
 rw[xL,e2,<-Jh,J2,Ji (by rw[J7,l1];omega),ei,K0 (by omega),R2,Jx,List.getElem?_range (by omega)];rfl
end Go.Pl

namespace Go.Pl
open Go Go.Ab
def Le{α:Type}(a b:Option α):Prop:=∀r,a=iW r->b=iW r
class LeC {α:Type} (a b:Option α):Prop where
 h:Le a b
theorem Le.rf{α:Type}{a:Option α}:Le a a:=fun _ h=>h
theorem Le.bd{α β:Type}{a b:Option α}{f g:α->Option β}(h:Le a b)(k:∀x,Le (f x) (g x)):Le (a.bind f) (b.bind g):=by
 intro r hr;cases ha:a with
 |none=>rw[ha]at hr;cases hr
 |some x=>rw[ha]at hr;rw[h x ha];exact k x r hr
theorem Le.cd{α:Type}{c:Bool}{a b a' b':Option α}(h:Le a b)(k:Le a' b'):Le (cond c a a') (cond c b b'):=by
 cases c
 ·exact k
 ·exact h
theorem Le.lp{σ ρ:Type}{e f:σ->Option (σ⊕ρ)}{n:Nat}{s:σ}(h:∀s,Le (e s) (f s)):Le (xJ e n s) (zH f s):=by
 intro r hr;rw[zCI];refine⟨n,?_⟩
 induction n generalizing s with
 |zero=>cases hr
 |succ n ih=>
  simp only[xJ]at hr ⊢
  cases he:e s with
  |none=>rw[he]at hr;cases hr
  |some x=>
   rw[he]at hr;rw[h s x he];cases x with
   |inl s'=>exact ih hr
   |inr r'=>exact hr
theorem leS{α:Type}{a b:Option α}(h:Le a b:=by
 repeat' first
  |with_reducible exact Le.rf
  |exact LeC.h
  |with_reducible refine Le.bd ?_ fun _=>?_
  |with_reducible refine Le.cd ?_ ?_
  |with_reducible refine Le.lp fun _=>?_
  |(rename_i x;cases x using Sum.casesOn<;>dsimp only)
  |fail):Le a b:=h
theorem Le.fu{α:Type}{g:Nat->Option α}{n:Nat}(h:∀n,Le (g n) (g (n+1))):Le (g n) (zDj g):=fun r hr=>
 zBA n fun m hm=>by
  induction m with
  |zero=>rw[show 0=n from by omega];exact hr
  |succ m ih=>
   rcases Nat.eq_or_lt_of_le hm with e|e
   ·rw[<-e];exact hr
   ·exact h m r (ih (by omega))
end Go.Pl

namespace Go.Wk
open Go Go.Ab Go.Pl
noncomputable def sE (x0:List Int):Option Int:=
 (xJ (zSm x0) 400 (1,0)).bind fun r5=>
 iW r5
noncomputable def uY (x0:List Int) (x1:List Int) (x2:Int):Option Bool:=
 cond ((x1.length:Int) != (x0.length:Int)) (
  iW ja) (
  (xJ (zN5 x0 x1 x2) 400 0).bind fun r6=>
  match r6 with
  |(.inl _)=>
   iW iZ
  |(.inr r6)=>
   iW r6)
noncomputable def tQ (x0:SPr) (s7:Int) (s8:Int):Option (Int⊕(Unit⊕Bool)):=
 (ixO x0.zC s7).bind fun v11=>
 cond (decide (s8<(v11.length:Int))) (
  (ixO x0.zC s7).bind fun v12=>
  (ixO v12 s8).bind fun v13=>
  (uY x0.zA v13 s7).bind fun r14=>
  cond (!r14) (
   iW (.inr (.inr ja))) (
   (rng (s8+1)).bind fun v15=>
   iW (.inl v15))) (
  iW (.inr (.inl ())))
noncomputable def tR (x0:SPr) (s7:Int):Option (Int⊕(Unit⊕Bool)):=
 cond (decide (s7<(x0.zA.length:Int))) (
  (ixO x0.zJ s7).bind fun v6=>
  (uY x0.zA v6 s7).bind fun r7=>
  cond (!r7) (
   iW (.inr (.inr ja))) (
   (ixO x0.zC s7).bind fun v8=>
   (rng ((x0.zA.length:Int)-1)).bind fun v9=>
   (rng (v9-s7)).bind fun v10=>
   cond ((v8.length:Int) != v10) (
    iW (.inr (.inr ja))) (
    (xJ (tQ x0 s7) 400 0).bind fun r16=>
    match r16 with
    |(.inl _)=>
     (rng (s7+1)).bind fun v17=>
     iW (.inl v17)
    |(.inr r16)=>
     iW (.inr (.inr r16))))) (
  iW (.inr (.inl ())))
noncomputable def sF (x0:SPr):Option Bool:=
 cond (decide ((x0.zA.length:Int)> 6)) (
  iW ja) (
  cond ((x0.zJ.length:Int) != (x0.zA.length:Int)) (
   iW ja) (
   cond ((x0.zC.length:Int) != (x0.zA.length:Int)) (
    iW ja) (
    (xJ (zSn x0) 400 0).bind fun r4=>
    match r4 with
    |(.inl _)=>
     (sE x0.zA).bind fun r5=>
     cond (decide (r5> 729)) (
      iW ja) (
      (xJ (tR x0) 400 0).bind fun r18=>
      match r18 with
      |(.inl _)=>
       iW iZ
      |(.inr r18)=>
       iW r18)
    |(.inr r4)=>
     iW r4)))
noncomputable def zBf (x0:List Int) (x1:List Int):Option Bool:=
 cond ((x0.length:Int) != (x1.length:Int)) (
  iW ja) (
  (xJ (zVq x0 x1) 400 0).bind fun r4=>
  match r4 with
  |(.inl _)=>
   iW iZ
  |(.inr r4)=>
   iW r4)
noncomputable def zAe (x0:Int) (x1:List Int) (x2:List (List Int)) (s5:(List Int)×Int):Option (((List Int)×Int)⊕(List Int)):=
 cond (decide (s5.2<(x1.length:Int))) (
  cond (decide (s5.2<(x2.length:Int))) (
   (xJ (zSp x0 x1 x2 s5) 400 (s5.1,0)).bind fun r12=>
   (rng (s5.2+1)).bind fun v13=>
   iW (.inl (r12,v13))) (
   iW (.inr s5.1))) (
  iW (.inr s5.1))
noncomputable def zA2 (x0:Int) (x1:List Int) (x2:List (List Int)) (x3:Int):Option (List Int):=
 (yD x3).bind fun m1=>
 (xJ (zAe x0 x1 x2) 400 (J1 m1 (0:Int),0)).bind fun r14=>
 iW r14
noncomputable def qU (x0:Int) (x1:List (List Int)) (x2:List (List Int)) (x3:Int) (s1:(List (List Int))×Int):Option (((List (List Int))×Int)⊕(List (List Int))):=
 cond (decide (s1.2<(x1.length:Int))) (
  (ixO x1 s1.2).bind fun v1=>
  (zA2 x0 v1 x2 x3).bind fun r2=>
  (yE s1.1 [r2]).bind fun v3=>
  (rng (s1.2+1)).bind fun v4=>
  iW (.inl (v3,v4))) (
  iW (.inr s1.1))
noncomputable def kH (x0:Int) (x1:List (List Int)) (x2:List (List Int)) (x3:Int):Option (List (List Int)):=
 (xJ (qU x0 x1 x2 x3) 400 ([],0)).bind fun r5=>
 iW r5
noncomputable def zBg (x0:List Int):Option Bool:=
 (xJ (zWg x0) 400 0).bind fun r3=>
 match r3 with
 |(.inl _)=>
  iW iZ
 |(.inr r3)=>
  iW r3
noncomputable def sK (x0:List (List Int)):Option (List (List Int)):=
 (xJ (zK7 x0) 400 ([],0)).bind fun r5=>
 iW r5
noncomputable def qV (x0:List Int) (s5:(List (List Int))×(List (List (List Int)))×Int):Option (((List (List Int))×(List (List (List Int)))×Int)⊕((List (List Int))×(List (List (List Int))))):=
 cond (decide (s5.2.2<(x0.length:Int))) (
  (yD (x0.length:Int)).bind fun m2=>
  (yE s5.1 [J1 m2 (0:Int)]).bind fun v3=>
  (rng (s5.2.2+1)).bind fun v4=>
  (xJ (zSE x0) 400 ([],v4)).bind fun r8=>
  (yE s5.2.1 [r8]).bind fun v9=>
  (rng (s5.2.2+1)).bind fun v10=>
  iW (.inl (v3,v9,v10))) (
  iW (.inr (s5.1,s5.2.1)))
noncomputable def wX (x0:List Int):Option SPr:=
 (f_q x0).bind fun r1=>
 (xJ (qV x0) 400 ([],[],0)).bind fun r11=>
 iW (SPr.mk r1 r11.1 r11.2)
noncomputable def qW (s5:Int×(List Int)×Int):Option ((Int×(List Int)×Int)⊕(Int×(List Int))):=
 cond (decide (s5.2.2<=7)) (
  (xJ (zWG s5) 400 (s5.1,s5.2.1)).bind fun r5=>
  (rng (s5.2.2+1)).bind fun v6=>
  iW (.inl (r5.1,r5.2,v6))) (
  iW (.inr (s5.1,s5.2.1)))
noncomputable def vP (x0:Int):Option ((List Int)×Bool):=
 (xJ qW 400 (x0,[],2)).bind fun r7=>
 iW (r7.2,(r7.1==1))
noncomputable def vE (x0:Int):Option (SPr×Int):=
 (zJ7 x0 1 729).bind fun r1=>
 cond (!r1) (
  iW ((SPr.mk [] [] []),2)) (
  (vP x0).bind fun r2=>
  cond (!r2.2) (
   iW ((SPr.mk [] [] []),2)) (
   cond (decide ((r2.1.length:Int)> 6)) (
    iW ((SPr.mk [] [] []),3)) (
    (wX r2.1).bind fun r3=>
    (xJ (zRt r2) 400 (r3.zJ,0)).bind fun r9=>
    iW ((SPr.mk r3.zA r9 r3.zC),0))))
noncomputable def uZ (x0:List Int) (x1:Int) (x2:Int):Option (List Int):=
 (yD (x0.length:Int)).bind fun m1=>
 (xJ (zWH x0) 400 (x2,J1 m1 (0:Int),x1)).bind fun r8=>
 iW r8
noncomputable def qL (x0:Int) (x1:Int) (x2:Int):Option Int:=
 (xC 1 x2).bind fun v1=>
 (xJ (zWI x2) 400 (x0,x1,v1)).bind fun r11=>
 iW r11
noncomputable def zA3 (v4:List Int) (s7:(List (List (List Int)))×Int×Int) (s8:(List (List (List Int)))×Int):Option (((List (List (List Int)))×Int)⊕(List (List (List Int)))):=
 cond (decide (s8.2<(v4.length:Int))) (
  (ixO s8.1 s7.2.2).bind fun v18=>
  (rng (s8.2-s7.2.2)).bind fun v19=>
  (rng (v19-1)).bind fun v20=>
  (uZ v4 s8.2 s7.2.1).bind fun r21=>
  (ixO v18 v20).bind fun _=>
  (rng (s8.2+1)).bind fun v23=>
  iW (.inl (s8.1.set s7.2.2.toNat (v18.set v20.toNat r21),v23))) (
  iW (.inr s8.1))
noncomputable def zA4 (x1:Int) (r1:(List Int)×Bool) (v4:List Int) (s7:(List (List (List Int)))×Int×Int):Option (((List (List (List Int)))×Int×Int)⊕(List (List (List Int)))):=
 cond (decide (s7.2.2<(r1.1.length:Int))) (
  (xJ (zA3 v4 s7) 400 (s7.1,(r1.1.length:Int))).bind fun r24=>
  (ixO r1.1 s7.2.2).bind fun v25=>
  (qL s7.2.1 v25 x1).bind fun r26=>
  (rng (s7.2.2+1)).bind fun v27=>
  iW (.inl (r24,r26,v27))) (
  iW (.inr s7.1))
noncomputable def zA5 (v4:List Int) (s15:(List (List (List Int)))×Int×Int) (s16:(List (List (List Int)))×Int):Option (((List (List (List Int)))×Int)⊕(List (List (List Int)))):=
 cond (decide (s16.2<(v4.length:Int))) (
  (ixO s16.1 s15.2.2).bind fun v30=>
  (rng (s16.2-s15.2.2)).bind fun v31=>
  (rng (v31-1)).bind fun v32=>
  (uZ v4 s16.2 s15.2.1).bind fun r33=>
  (ixO v30 v32).bind fun _=>
  (rng (s16.2+1)).bind fun v35=>
  iW (.inl (s16.1.set s15.2.2.toNat (v30.set v32.toNat r33),v35))) (
  iW (.inr s16.1))
noncomputable def zA6 (x1:Int) (r1:(List Int)×Bool) (v4:List Int) (s15:(List (List (List Int)))×Int×Int):Option (((List (List (List Int)))×Int×Int)⊕(List (List (List Int)))):=
 cond (decide (s15.2.2<(r1.1.length:Int))) (
  (xJ (zA5 v4 s15) 400 (s15.1,(r1.1.length:Int))).bind fun r36=>
  (ixO r1.1 s15.2.2).bind fun v37=>
  (qL s15.2.1 v37 x1).bind fun r38=>
  (rng (s15.2.2+1)).bind fun v39=>
  iW (.inl (r36,r38,v39))) (
  iW (.inr s15.1))
noncomputable def wJ (x0:Int) (x1:Int) (x2:Int) (x3:Int):Option SPr:=
 (vP x0).bind fun r1=>
 (vP x1).bind fun r2=>
 (f_q r1.1).bind fun r3=>
 (yE r3 r2.1).bind fun v4=>
 (wX v4).bind fun r5=>
 (xJ (zYQ r1 v4) 400 (r5.zJ,0)).bind fun r13=>
 cond (decide ((r1.1.length:Int)> 0)) (
  (rng ((r1.1.length:Int)-1)).bind fun v14=>
  (uZ v4 (r1.1.length:Int) x3).bind fun r15=>
  (ixO r13 v14).bind fun _=>
  (xC x2 x1).bind fun v17=>
  (xJ (zA4 x1 r1 v4) 400 (r5.zC,v17,0)).bind fun r28=>
  iW (SPr.mk r5.zA (r13.set v14.toNat r15) r28)) (
  (xC x2 x1).bind fun v29=>
  (xJ (zA6 x1 r1 v4) 400 (r5.zC,v29,0)).bind fun r40=>
  iW (SPr.mk r5.zA r13 r40))
noncomputable def kI (x0:Int) (x1:List (List Int)) (r1:(List Int)×Bool) (s13:(List (List (List Int)))×(List (List Int))×Int) (s16:(List (List Int))×Int):Option (((List (List Int))×Int)⊕(List (List Int))):=
 (ixO r1.1 s13.2.2).bind fun v23=>
 cond (decide (s16.2<v23)) (
  (kH x0 s16.1 s13.2.1 (x1.length:Int)).bind fun r24=>
  (rng (s16.2+1)).bind fun v25=>
  iW (.inl (r24,v25))) (
  iW (.inr s16.1))
noncomputable def kJ (x0:Int) (x1:List (List Int)) (r1:(List Int)×Bool) (s13:(List (List (List Int)))×(List (List Int))×Int):Option (((List (List (List Int)))×(List (List Int))×Int)⊕(List (List (List Int)))):=
 cond (decide (s13.2.2<(r1.1.length:Int))) (
  (xJ (zYT x1 r1 s13) 400 (s13.1,0)).bind fun r22=>
  (xJ (kI x0 x1 r1 s13) 400 (s13.2.1,1)).bind fun r26=>
  (rng (s13.2.2+1)).bind fun v27=>
  iW (.inl (r22,r26,v27))) (
  iW (.inr s13.1))
noncomputable def wR (x0:Int) (x1:List (List Int)) (x2:Int):Option SPr:=
 (vP x2).bind fun r1=>
 (f_q r1.1).bind fun r2=>
 (xJ (yCs x0 x1) 400 (r2,0)).bind fun r5=>
 (wX r5).bind fun r6=>
 (xJ (zYS r1 r5) 400 (r6.zJ,0)).bind fun r12=>
 (sK x1).bind fun r13=>
 (xJ (kJ x0 x1 r1) 400 (r6.zC,r13,0)).bind fun r28=>
 iW (SPr.mk r6.zA r12 r28)
noncomputable def tS (x0:ByteArray) (x1:Int):Option (List ByteArray):=
 (xJ (zWP x0 x1) 400 ([],0,0)).bind fun r7=>
 (zH0 x0 r7.2 (x0.size:Int)).bind fun v8=>
 (yE r7.1 [v8]).bind fun v9=>
 iW v9
noncomputable def zA7 (x0:ByteArray):Option Int:=
 cond ((x0.size:Int)==0) (
  iW (-1)) (
  cond (decide ((x0.size:Int)> 6)) (
   iW (-1)) (
   cond (decide ((x0.size:Int)> 1)) (
    (zBO x0 0).bind fun v1=>
    cond (v1==48) (
     iW (-1)) (
     (xJ (zWQ x0) 400 (0,0)).bind fun r8=>
     match r8 with
     |(.inl r8)=>
      iW r8
     |(.inr r8)=>
      iW r8)) (
    (xJ (zWR x0) 400 (0,0)).bind fun r15=>
    match r15 with
    |(.inl r15)=>
     iW r15
    |(.inr r15)=>
     iW r15)))
noncomputable def kK (r1:(List ByteArray)) (s1:(List Int)×Int):Option (((List Int)×Int)⊕((List Int)⊕((List Int)×Bool))):=
 cond (decide (s1.2<(r1.length:Int))) (
  (ixO r1 s1.2).bind fun v2=>
  (zA7 v2).bind fun r3=>
  (zPf r3).bind fun r4=>
  cond (!r4) (
   iW (.inr (.inr ([],ja)))) (
   cond (decide (s1.2>=6)) (
    iW (.inr (.inr ([],ja)))) (
    (yE s1.1 [r3]).bind fun v5=>
    (rng (s1.2+1)).bind fun v6=>
    iW (.inl (v5,v6))))) (
  iW (.inr (.inl s1.1)))
noncomputable def zAf (x0:ByteArray):Option ((List Int)×Bool):=
 cond (zEy x0 (ByteArray.mk #[49])) (
  iW ([],iZ)) (
  (tS x0 32).bind fun r1=>
  (xJ (kK r1) 400 ([],0)).bind fun r7=>
  match r7 with
  |(.inl r7)=>
   (sE r7).bind fun r8=>
   iW (r7,decide (r8<=729))
  |(.inr r7)=>
   iW r7)
noncomputable def zA8 (x0:Int) (x1:ByteArray):Option ((List Int)×Bool):=
 cond (zEy x1 (ByteArray.mk #[49])) (
  iW ([],iZ)) (
  (xJ (zWS x0 x1) 400 ([],0)).bind fun r14=>
  match r14 with
  |(.inl r14)=>
   iW (r14,decide ((r14.length:Int)> 0))
  |(.inr r14)=>
   iW r14)
noncomputable def zAg (x0:Int) (x1:List Int):Option ((List Int)×Bool):=
 (yD x0).bind fun m1=>
 (xJ (zWT x1) 400 (J1 m1 (0:Int),0)).bind fun r11=>
 match r11 with
 |(.inl r11)=>
  iW (r11,iZ)
 |(.inr r11)=>
  iW r11
noncomputable def zBh (x0:SPr) (s1:(List (List (List Int)))×Int):Option (((List (List (List Int)))×Int)⊕(List (List (List Int)))):=
 cond (decide (s1.2<(x0.zC.length:Int))) (
  (ixO x0.zC s1.2).bind fun v3=>
  (sK v3).bind fun r4=>
  (yE s1.1 [r4]).bind fun v5=>
  (rng (s1.2+1)).bind fun v6=>
  iW (.inl (v5,v6))) (
  iW (.inr s1.1))
noncomputable def zBJ (x0:SPr):Option SPr:=
 (f_q x0.zA).bind fun r1=>
 (sK x0.zJ).bind fun r2=>
 (xJ (zBh x0) 400 ([],0)).bind fun r7=>
 iW (SPr.mk r1 r2 r7)
noncomputable def qF (x0:Int):Option ByteArray:=zLO 40 x0
noncomputable def qX (x0:SPr) (x1:ByteArray):Option (SPr×Bool):=
 (tS x1 61).bind fun r1=>
 cond ((r1.length:Int) != 2) (
  iW (x0,ja)) (
  (ixO r1 0).bind fun v2=>
  cond ((v2.size:Int) != 4) (
   iW (x0,ja)) (
   (ixO r1 0).bind fun v3=>
   (zBO v3 0).bind fun v4=>
   cond (v4 != 32) (
    iW (x0,ja)) (
    (ixO r1 0).bind fun v5=>
    (zBO v5 2).bind fun v6=>
    cond (v6 != 94) (
     iW (x0,ja)) (
     (ixO r1 1).bind fun v7=>
     (zA8 (x0.zA.length:Int) v7).bind fun r8=>
     cond (!r8.2) (
      iW (x0,ja)) (
      (zAg (x0.zA.length:Int) r8.1).bind fun r9=>
      (ixO r1 0).bind fun v10=>
      (zBO v10 1).bind fun v11=>
      (rng ((IntKind.wrap .i64 v11)-97)).bind fun v12=>
      (ixO r1 0).bind fun v13=>
      (zBO v13 3).bind fun v14=>
      (rng ((IntKind.wrap .i64 v14)-97)).bind fun v15=>
      cond (!r9.2) (
       iW (x0,ja)) (
       cond (decide (v12<0)) (
        iW (x0,ja)) (
        cond (decide (v12>=(x0.zA.length:Int))) (
         iW (x0,ja)) (
         (zBJ x0).bind fun r16=>
         (ixO r1 0).bind fun v17=>
         (zH0 v17 3 (v17.size:Int)).bind fun v18=>
         (ixO x0.zA v12).bind fun v19=>
         (qF v19).bind fun r20=>
         cond (zEy v18 r20) (
          (ixO r16.zJ v12).bind fun _=>
          iW ((SPr.mk r16.zA (r16.zJ.set v12.toNat r9.1) r16.zC),iZ)) (
          cond (decide (v15<0)) (
           iW (x0,ja)) (
           cond (decide (v15>=v12)) (
            iW (x0,ja)) (
            (ixO r16.zC v15).bind fun v22=>
            (rng (v12-v15)).bind fun v23=>
            (rng (v23-1)).bind fun v24=>
            (ixO v22 v24).bind fun _=>
            iW ((SPr.mk r16.zA r16.zJ (r16.zC.set v15.toNat (v22.set v24.toNat r9.1))),iZ))))))))))))
noncomputable def sL (x0:List Int):Option ByteArray:=
 cond ((x0.length:Int)==0) (
  iW (ByteArray.mk #[49])) (
  (xJ (zWU x0) 400 ([],0)).bind fun r12=>
  iW (b2s r12))
noncomputable def tC (x0:Int):Option ByteArray:=
 (rng (x0+1)).bind fun v1=>
 (sL [v1]).bind fun r2=>
 iW r2
noncomputable def zA9 (x0:List Int) (s5:(List Int)×Int):Option (((List Int)×Int)⊕(List Int)):=
 cond (decide (s5.2<(x0.length:Int))) (
  (xJ (zWV x0 s5) 400 (s5.1,0)).bind fun r5=>
  (rng (s5.2+1)).bind fun v6=>
  iW (.inl (r5,v6))) (
  iW (.inr s5.1))
noncomputable def jV (x0:List Int):Option (List Int):=
 (xJ (zA9 x0) 400 ([],0)).bind fun r7=>
 iW r7
noncomputable def zAA (x0:SPr) (s1:ByteArray×Int):Option ((ByteArray×Int)⊕ByteArray):=
 cond (decide (s1.2<(x0.zA.length:Int))) (
  cond (decide (s1.2> 0)) (
   (vY s1.1 (ByteArray.mk #[32])).bind fun v1=>
   (ixO x0.zA s1.2).bind fun v2=>
   (qF v2).bind fun r3=>
   (vY v1 r3).bind fun v4=>
   (rng (s1.2+1)).bind fun v5=>
   iW (.inl (v4,v5))) (
   (ixO x0.zA s1.2).bind fun v6=>
   (qF v6).bind fun r7=>
   (vY s1.1 r7).bind fun v8=>
   (rng (s1.2+1)).bind fun v9=>
   iW (.inl (v8,v9)))) (
  iW (.inr s1.1))
noncomputable def zAB (x0:SPr) (s3:ByteArray×Int):Option ((ByteArray×Int)⊕ByteArray):=
 cond (decide (s3.2<(x0.zA.length:Int))) (
  (ixO x0.zJ s3.2).bind fun v11=>
  (zBg v11).bind fun r12=>
  cond (!r12) (
   (vY s3.1 (ByteArray.mk #[59,32])).bind fun v13=>
   (tC s3.2).bind fun r14=>
   (vY v13 r14).bind fun v15=>
   (vY v15 (ByteArray.mk #[94])).bind fun v16=>
   (ixO x0.zA s3.2).bind fun v17=>
   (qF v17).bind fun r18=>
   (vY v16 r18).bind fun v19=>
   (vY v19 (ByteArray.mk #[61])).bind fun v20=>
   (ixO x0.zJ s3.2).bind fun v21=>
   (jV v21).bind fun r22=>
   (sL r22).bind fun r23=>
   (vY v20 r23).bind fun v24=>
   (rng (s3.2+1)).bind fun v25=>
   iW (.inl (v24,v25))) (
   (rng (s3.2+1)).bind fun v26=>
   iW (.inl (s3.1,v26)))) (
  iW (.inr s3.1))
noncomputable def zAC (x0:SPr) (s9:ByteArray×Int) (s10:ByteArray×Int):Option ((ByteArray×Int)⊕ByteArray):=
 cond (decide (s10.2<(x0.zA.length:Int))) (
  (ixO x0.zC s9.2).bind fun v29=>
  (rng (s10.2-s9.2)).bind fun v30=>
  (rng (v30-1)).bind fun v31=>
  (ixO v29 v31).bind fun v32=>
  (zJs (x0.zA.length:Int) s10.2).bind fun r33=>
  (zBf v32 r33).bind fun r34=>
  cond (!r34) (
   (vY s10.1 (ByteArray.mk #[59,32])).bind fun v35=>
   (tC s10.2).bind fun r36=>
   (vY v35 r36).bind fun v37=>
   (vY v37 (ByteArray.mk #[94])).bind fun v38=>
   (tC s9.2).bind fun r39=>
   (vY v38 r39).bind fun v40=>
   (vY v40 (ByteArray.mk #[61])).bind fun v41=>
   (ixO x0.zC s9.2).bind fun v42=>
   (rng (s10.2-s9.2)).bind fun v43=>
   (rng (v43-1)).bind fun v44=>
   (ixO v42 v44).bind fun v45=>
   (jV v45).bind fun r46=>
   (sL r46).bind fun r47=>
   (vY v41 r47).bind fun v48=>
   (rng (s10.2+1)).bind fun v49=>
   iW (.inl (v48,v49))) (
   (rng (s10.2+1)).bind fun v50=>
   iW (.inl (s10.1,v50)))) (
  iW (.inr s10.1))
noncomputable def zAD (x0:SPr) (s9:ByteArray×Int):Option ((ByteArray×Int)⊕ByteArray):=
 cond (decide (s9.2<(x0.zA.length:Int))) (
  (rng (s9.2+1)).bind fun v28=>
  (xJ (zAC x0 s9) 400 (s9.1,v28)).bind fun r51=>
  (rng (s9.2+1)).bind fun v52=>
  iW (.inl (r51,v52))) (
  iW (.inr s9.1))
noncomputable def zBi (x0:SPr):Option ByteArray:=
 cond ((x0.zA.length:Int)==0) (
  iW (ByteArray.mk #[49])) (
  (xJ (zAA x0) 400 ((ByteArray.mk #[]),0)).bind fun r10=>
  (xJ (zAB x0) 400 (r10,0)).bind fun r27=>
  (xJ (zAD x0) 400 (r27,0)).bind fun r53=>
  iW r53)
noncomputable def uK (r1:(List ByteArray)) (s1:(List Int)×(List (List Int))×(List (List (List Int)))×Int):Option (((List Int)×(List (List Int))×(List (List (List Int)))×Int)⊕(((List Int)×(List (List Int))×(List (List (List Int))))⊕(SPr×Int))):=
 cond (decide (s1.2.2.2<(r1.length:Int))) (
  (ixO r1 s1.2.2.2).bind fun v5=>
  (qX (SPr.mk s1.1 s1.2.1 s1.2.2.1) v5).bind fun r6=>
  cond (!r6.2) (
   iW (.inr (.inr ((SPr.mk [] [] []),6)))) (
   (rng (s1.2.2.2+1)).bind fun v7=>
   iW (.inl (r6.1.zA,r6.1.zJ,r6.1.zC,v7)))) (
  iW (.inr (.inl (s1.1,s1.2.1,s1.2.2.1))))
noncomputable def uR (x0:ByteArray):Option (SPr×Int):=
 (tS x0 59).bind fun r1=>
 (ixO r1 0).bind fun v2=>
 (zAf v2).bind fun r3=>
 cond (!r3.2) (
  iW ((SPr.mk [] [] []),6)) (
  (wX r3.1).bind fun r4=>
  (xJ (uK r1) 400 (r4.zA,r4.zJ,r4.zC,1)).bind fun r8=>
  match r8 with
  |(.inl r8)=>
   (sF (SPr.mk r8.1 r8.2.1 r8.2.2)).bind fun r9=>
   cond (!r9) (
    iW ((SPr.mk [] [] []),6)) (
    (zBi (SPr.mk r8.1 r8.2.1 r8.2.2)).bind fun r10=>
    cond (!zEy r10 x0) (
     iW ((SPr.mk [] [] []),6)) (
     iW ((SPr.mk r8.1 r8.2.1 r8.2.2),0)))
  |(.inr r8)=>
   iW r8)
noncomputable def zAE (x0:Int):Option SPr:=
 (xC x0 10).bind fun v1=>
 (ixO [(ByteArray.mk #[49]),(ByteArray.mk #[50]),(ByteArray.mk #[50,32,50,59,32,97,94,50,61,98]),(ByteArray.mk #[50,32,51,59,32,98,94,97,61,98,98]),(ByteArray.mk #[51,32,50,32,50,59,32,98,94,97,61,99,59,32,99,94,97,61,98,99]),(ByteArray.mk #[50,32,51,32,50,32,50,59,32,98,94,97,61,98,98,59,32,99,94,97,61,100,59,32,100,94,97,61,99,59,32,99,94,98,61,100,59,32,100,94,98,61,99,100]),(ByteArray.mk #[51,32,50,32,50,32,50,59,32,98,94,50,61,100,59,32,99,94,50,61,100,59,32,98,94,97,61,99,59,32,99,94,97,61,98,99,59,32,99,94,98,61,99,100]),(ByteArray.mk #[50,32,50,32,50,59,32,97,94,50,61,99,59,32,98,94,50,61,99,59,32,98,94,97,61,98,99]),(ByteArray.mk #[50,32,50,32,50,59,32,98,94,97,61,98,99]),(ByteArray.mk #[50,32,50,32,50,32,50,59,32,99,94,97,61,99,100,59,32,99,94,98,61,99,100])] v1).bind fun v2=>
 (uR v2).bind fun r3=>
 cond (r3.2 != 0) (
  (wX [2]).bind fun r4=>
  iW r4) (
  iW r3.1)
instance m_f_spec_l07Product(x0:List Int):LeC (sE x0) (f_Y x0):=⟨by unfold sE f_Y;exact leS⟩
instance m_f_spec_l07Exponents(x0:List Int)(x1:List Int)(x2:Int):LeC (uY x0 x1 x2) (zPg x0 x1 x2):=⟨by unfold uY zPg;exact leS⟩
instance m_l2_spec_IsPresentation(x0:SPr)(s7:Int)(s8:Int):LeC (tQ x0 s7 s8) (zPh x0 s7 s8):=⟨by unfold tQ zPh;exact leS⟩
instance m_l3_spec_IsPresentation(x0:SPr)(s7:Int):LeC (tR x0 s7) (zLG x0 s7):=⟨by unfold tR zLG;exact leS⟩
instance m_f_spec_IsPresentation(x0:SPr):LeC (sF x0) (f_p x0):=⟨by unfold sF f_p;exact leS⟩
instance m_f_spec_l01Same(x0:List Int)(x1:List Int):LeC (zBf x0 x1) (zGU x0 x1):=⟨by unfold zBf zGU;exact leS⟩
instance m_l2_spec_l02Times(x0:Int)(x1:List Int)(x2:List (List Int))(s5:(List Int)×Int):LeC (zAe x0 x1 x2 s5) (zPk x0 x1 x2 s5):=⟨by unfold zAe zPk;exact leS⟩
instance m_f_spec_l02Times(x0:Int)(x1:List Int)(x2:List (List Int))(x3:Int):LeC (zA2 x0 x1 x2 x3) (f_K x0 x1 x2 x3):=⟨by unfold zA2 f_K;exact leS⟩
instance m_l1_spec_l02Product(x0:Int)(x1:List (List Int))(x2:List (List Int))(x3:Int)(s1:(List (List Int))×Int):LeC (qU x0 x1 x2 x3 s1) (zPl x0 x1 x2 x3 s1):=⟨by unfold qU zPl;exact leS⟩
instance m_f_spec_l02Product(x0:Int)(x1:List (List Int))(x2:List (List Int))(x3:Int):LeC (kH x0 x1 x2 x3) (f_W x0 x1 x2 x3):=⟨by unfold kH f_W;exact leS⟩
instance m_f_spec_l01Zero(x0:List Int):LeC (zBg x0) (zJu x0):=⟨by unfold zBg zJu;exact leS⟩
instance m_f_spec_l01Own2(x0:List (List Int)):LeC (sK x0) (zLM x0):=⟨by unfold sK zLM;exact leS⟩
instance m_l2_spec_l07Trivial(x0:List Int)(s5:(List (List Int))×(List (List (List Int)))×Int):LeC (qV x0 s5) (zLN x0 s5):=⟨by unfold qV zLN;exact leS⟩
instance m_f_spec_l07Trivial(x0:List Int):LeC (wX x0) (f_x x0):=⟨by unfold wX f_x;exact leS⟩
instance m_l2_spec_l07Factors(s5:Int×(List Int)×Int):LeC (qW s5) (zRs s5):=⟨by unfold qW zRs;exact leS⟩
instance m_f_spec_l07Factors(x0:Int):LeC (vP x0) (zP7 x0):=⟨by unfold vP zP7;exact leS⟩
instance m_f_spec_CyclicPresentation(x0:Int):LeC (vE x0) (zYP x0):=⟨by unfold vE zYP;exact leS⟩
instance m_f_spec_l07Digits(x0:List Int)(x1:Int)(x2:Int):LeC (uZ x0 x1 x2) (zSF x0 x1 x2):=⟨by unfold uZ zSF;exact leS⟩
instance m_f_spec_l01Power(x0:Int)(x1:Int)(x2:Int):LeC (qL x0 x1 x2) (zWJ x0 x1 x2):=⟨by unfold qL zWJ;exact leS⟩
instance m_l2_spec_l07Meta(v4:List Int)(s7:(List (List (List Int)))×Int×Int)(s8:(List (List (List Int)))×Int):LeC (zA3 v4 s7 s8) (zWK v4 s7 s8):=⟨by unfold zA3 zWK;exact leS⟩
instance m_l3_spec_l07Meta(x1:Int)(r1:(List Int)×Bool)(v4:List Int)(s7:(List (List (List Int)))×Int×Int):LeC (zA4 x1 r1 v4 s7) (zWL x1 r1 v4 s7):=⟨by unfold zA4 zWL;exact leS⟩
instance m_l4_spec_l07Meta(v4:List Int)(s15:(List (List (List Int)))×Int×Int)(s16:(List (List (List Int)))×Int):LeC (zA5 v4 s15 s16) (zWM v4 s15 s16):=⟨by unfold zA5 zWM;exact leS⟩
instance m_l5_spec_l07Meta(x1:Int)(r1:(List Int)×Bool)(v4:List Int)(s15:(List (List (List Int)))×Int×Int):LeC (zA6 x1 r1 v4 s15) (zWN x1 r1 v4 s15):=⟨by unfold zA6 zWN;exact leS⟩
instance m_f_spec_l07Meta(x0:Int)(x1:Int)(x2:Int)(x3:Int):LeC (wJ x0 x1 x2 x3) (f_m x0 x1 x2 x3):=⟨by unfold wJ f_m;exact leS⟩
instance m_l4_spec_l07Affine(x0:Int)(x1:List (List Int))(r1:(List Int)×Bool)(s13:(List (List (List Int)))×(List (List Int))×Int)(s16:(List (List Int))×Int):LeC (kI x0 x1 r1 s13 s16) (zYU x0 x1 r1 s13 s16):=⟨by unfold kI zYU;exact leS⟩
instance m_l5_spec_l07Affine(x0:Int)(x1:List (List Int))(r1:(List Int)×Bool)(s13:(List (List (List Int)))×(List (List Int))×Int):LeC (kJ x0 x1 r1 s13) (zWO x0 x1 r1 s13):=⟨by unfold kJ zWO;exact leS⟩
instance m_f_spec_l07Affine(x0:Int)(x1:List (List Int))(x2:Int):LeC (wR x0 x1 x2) (f_w x0 x1 x2):=⟨by unfold wR f_w;exact leS⟩
instance m_f_spec_l01Split(x0:ByteArray)(x1:Int):LeC (tS x0 x1) (zSG x0 x1):=⟨by unfold tS zSG;exact leS⟩
instance m_f_spec_l01Value(x0:ByteArray):LeC (zA7 x0) (zYV x0):=⟨by unfold zA7 zYV;exact leS⟩
instance m_l1_spec_l07Orders(r1:(List ByteArray))(s1:(List Int)×Int):LeC (kK r1 s1) (zRu r1 s1):=⟨by unfold kK zRu;exact leS⟩
instance m_f_spec_l07Orders(x0:ByteArray):LeC (zAf x0) (zYW x0):=⟨by unfold zAf zYW;exact leS⟩
instance m_f_spec_l06Parse(x0:Int)(x1:ByteArray):LeC (zA8 x0 x1) (zYX x0 x1):=⟨by unfold zA8 zYX;exact leS⟩
instance m_f_spec_l07Vector(x0:Int)(x1:List Int):LeC (zAg x0 x1) (zYY x0 x1):=⟨by unfold zAg zYY;exact leS⟩
instance m_l1_spec_l07Own(x0:SPr)(s1:(List (List (List Int)))×Int):LeC (zBh x0 s1) (zHt x0 s1):=⟨by unfold zBh zHt;exact leS⟩
instance m_f_spec_l07Own(x0:SPr):LeC (zBJ x0) (zOf x0):=⟨by unfold zBJ zOf;exact leS⟩
instance m_f_spec_l01Dec(x0:Int):LeC (qF x0) (f_k x0):=⟨Le.fu (n:=40) (g:=fun n=>zLO n x0) fun n=>by
 induction n generalizing x0 with
 |zero=>intro r h;cases h
 |succ n ih=>
  have:=fun x0=>LeC.mk (ih x0)
  show Le (b_k (zLO n) x0) (b_k (zLO (n+1)) x0);unfold b_k;exact leS⟩
instance m_f_spec_l07Relation(x0:SPr)(x1:ByteArray):LeC (qX x0 x1) (zYZ x0 x1):=⟨by unfold qX zYZ;exact leS⟩
instance m_f_spec_l06Text(x0:List Int):LeC (sL x0) (zSH x0):=⟨by unfold sL zSH;exact leS⟩
instance m_f_spec_l07Letter(x0:Int):LeC (tC x0) (zSI x0):=⟨by unfold tC zSI;exact leS⟩
instance m_l2_spec_l07Word(x0:List Int)(s5:(List Int)×Int):LeC (zA9 x0 s5) (zRv x0 s5):=⟨by unfold zA9 zRv;exact leS⟩
instance m_f_spec_l07Word(x0:List Int):LeC (jV x0) (zWW x0):=⟨by unfold jV zWW;exact leS⟩
instance m_l1_spec_l07Text(x0:SPr)(s1:ByteArray×Int):LeC (zAA x0 s1) (zZa x0 s1):=⟨by unfold zAA zZa;exact leS⟩
instance m_l2_spec_l07Text(x0:SPr)(s3:ByteArray×Int):LeC (zAB x0 s3) (zZb x0 s3):=⟨by unfold zAB zZb;exact leS⟩
instance m_l3_spec_l07Text(x0:SPr)(s9:ByteArray×Int)(s10:ByteArray×Int):LeC (zAC x0 s9 s10) (zZc x0 s9 s10):=⟨by unfold zAC zZc;exact leS⟩
instance m_l4_spec_l07Text(x0:SPr)(s9:ByteArray×Int):LeC (zAD x0 s9) (zZd x0 s9):=⟨by unfold zAD zZd;exact leS⟩
instance m_f_spec_l07Text(x0:SPr):LeC (zBi x0) (f_I x0):=⟨by unfold zBi f_I;exact leS⟩
instance m_l1_spec_ParsePresentation(r1:(List ByteArray))(s1:(List Int)×(List (List Int))×(List (List (List Int)))×Int):LeC (uK r1 s1) (zRw r1 s1):=⟨by unfold uK zRw;exact leS⟩
instance m_f_spec_ParsePresentation(x0:ByteArray):LeC (uR x0) (zZe x0):=⟨by unfold uR zZe;exact leS⟩
instance m_f_spec_l07Table(x0:Int):LeC (zAE x0) (zZf x0):=⟨by unfold zAE zZf;exact leS⟩
end Go.Wk
namespace Go.Pl
open Go Go.Ab Go.Wk
def shB(p:SPr):Bool:=decide (p.zA.length<=6)&&(p.zJ.length==p.zA.length)&&p.zJ.all (fun v=>v.length==p.zA.length)&&(p.zC.length==p.zA.length)&&(J8 p.zA.length).all fun i=>decide ((p.zC.getD i []).length<=p.zA.length-1-i)&&(p.zC.getD i []).all fun v=>v.length==p.zA.length
def okP(o:Option SPr):Bool:=match o with|some p=>shB p|none=>ja
theorem okP.of{a b:Option SPr}[h:LeC a b](k:okP a=iZ):∃p,b=iW p/\shB p=iZ:=by
 cases a with
 |none=>cases k
 |some p=>exact⟨p,h.h p rfl,k⟩
theorem yEy{m:Int}(h:m∈[3,4,5,6,7,8,9,12]):okP (wJ 2 m (m-1) 0)=iZ:=by revert m;decide+kernel
theorem yEz{m:Int}(h:m∈[4,6,8,12]):okP (wJ 2 m (m-1) (m.tdiv 2))=iZ:=by revert m;decide+kernel
theorem yE0:(okP (wJ 3 7 2 0)&&okP (wJ 4 5 2 0)&&okP (wJ 2 8 3 0)&&okP (wJ 2 8 5 0)&&okP (wJ 4 4 3 0)&&okP (wJ 3 9 4 0))=iZ:=by decide+kernel
theorem aff:(okP (wR 3 [[2,0],[0,2]] 2)&&okP (wR 3 [[0,1],[2,0]] 4)&&okP (wR 2 [[0,1,0],[0,0,1],[1,1,0]] 7)&&okP (wR 2 [[1,1,0],[0,1,1],[0,0,1]] 4)&&okP (wR 2 [[0,1,0,0],[1,0,0,0],[0,0,0,1],[0,0,1,0]] 2)&&okP (wR 5 [[0,1],[4,4]] 3))=iZ:=by decide+kernel
theorem cyc{n:Int}(h:n∈[1,4,6,8,9,12,5,7,27,25,36]):okP ((vE n).map (·.1))=iZ:=by revert n;decide+kernel
theorem zVb:(J8 10).all (fun k=>okP (zAE k))=iZ:=by decide+kernel
end Go.Pl

namespace Go.Pl
open Go Go.Ab Go.Wk Go.Pc
def Ans{α:Type}(o:Option α)(P:α->Prop):Prop:=∃r,o=iW r/\P r
theorem Ans.rt{α:Type}{P:α->Prop}{r:α}(h:P r):Ans (iW r) P:=⟨r,rfl,h⟩
theorem Ans.bd{α β:Type}{P:α->Prop}{Q:β->Prop}{o:Option α}{f:α->Option β}(h:Ans o P)(k:∀r,P r->Ans (f r) Q):Ans (o.bind f) Q:=by obtain⟨r,h1,h2⟩:=h;rw[h1,bs];exact k r h2
theorem Ans.mp{α:Type}{P Q:α->Prop}{o:Option α}(h:Ans o P)(k:∀r,P r->Q r):Ans o Q:=by obtain⟨r,h1,h2⟩:=h;exact⟨r,h1,k r h2⟩
theorem Ans.cd{α:Type}{Q:α->Prop}{c:Bool}{a b:Option α}(h:c=iZ->Ans a Q)(k:c=ja->Ans b Q):Ans (cond c a b) Q:=by
 cases c
 ·exact k rfl
 ·exact h rfl
theorem Ans.rg{β:Type}{Q:β->Prop}{n:Int}{f:Int->Option β}(h:-9223372036854775808<=n/\n<=9223372036854775807)(k:Ans (f n) Q):Ans ((rng n).bind f) Q:=by rw[zG h.1 h.2,bs];exact k
abbrev Ei{α β:Type}(P:α->Prop)(Q:β->Prop)(x:α⊕β):Prop:=match x with|.inl a=>P a|.inr b=>Q b
theorem Ans.lp{σ ρ:Type}{body:σ->Option (σ⊕ρ)}{Q:ρ->Prop}{s:σ}(I:Nat->σ->Prop)(n:Nat)(h0:I 0 s)
  (h:∀i s,i<=n->I i s->Ans (body s) (Ei (fun s'=>i<n/\I (i+1) s') Q)):Ans (zH body s) Q:=by
 refine uU I n (fun i s hi hs=>?_) (fun s hs=>?_) h0
 ·obtain⟨x,h1,h2⟩:=h i s (by omega) hs
  rcases x with s'|r
  ·exact .inl ⟨s',h1,h2.2⟩
  ·exact .inr ⟨r,h1,h2⟩
 ·obtain⟨x,h1,h2⟩:=h n s (by omega) hs
  rcases x with s'|r
  ·omega
  ·exact⟨r,h1,h2⟩
theorem Ans.jn{σ ρ:Type}{body:σ->Option (σ⊕ρ)}{Q:ρ->Prop}{s:σ}(h:Ans (body s) (Ei (fun _=>False) Q)):Ans (zH body s) Q:=by
 obtain⟨x,h1,h2⟩:=h;rcases x with s'|r
 ·exact h2.elim
 ·exact⟨r,by rw[yR,h1],h2⟩
structure Src (s:zE):Prop where
 b:∀i(h:i<s.code.length),0<=s.code[i]/\s.code[i]<=255
 l:s.code.length<=68719476736
 a:0<=s.at_/\s.at_<=s.code.length
 s:0<=s.seed/\s.seed<2147483647
theorem wr{n:Int}(h:0<=n/\n<=255):IntKind.wrap .i64 n=n:=zCt (by simp[inR];omega)
theorem zHN{m n:Int}(hn:0<n:=by omega)(hm:0<=m:=by omega):Ans (xC m n) fun r=>0<=r/\r<n:=by unfold xC;rw[if_neg (by omega)];exact .rt ⟨Int.tmod_nonneg _ hm,Jae _ hn⟩
theorem yV{s:zE}(hs:Src s){n:Int}(hn:n<=68719476736:=by omega):Ans (f_h s n) fun r=>Src r.2/\0<=r.1/\(r.1<n\/n<=1/\r.1=0):=by
 have h1:=hs.s;have h2:=hs.a;have hl:=hs.l;unfold f_h;refine .cd (fun h=>.rt ⟨hs,by omega,.inr ⟨by simpa using h,rfl⟩⟩) fun h=>?_
 have hn:1<n:=by simpa using h
 refine .rg (by omega) (.rg (by omega) (.bd (zHN) fun v hv=>?_));have:xV v 47=iW (v.tdiv 47):=by
  have h3:=Ja9 hv.1 (show(0:Int)<=47 by omega);have h4:v.tdiv 47<=v:=by rw[Gf hv.1];omega
  unfold xV;rw[if_neg (by omega),zG]
 rw[this,bs];have h3:=Ja9 hv.1 (show(0:Int)<=47 by omega);have h4:v.tdiv 47<=v:=by rw[Gf hv.1];omega
 have key:∀{x:Int}{s':zE},0<=x->Src s'->Ans ((xC x n).bind fun v=>iW (v,s')) fun r=>Src r.2/\0<=r.1/\(r.1<n\/n<=1/\r.1=0):=fun hx gU=>
  .bd (zHN (by omega) hx) fun v hv=>.rt ⟨gU,hv.1,.inl hv.2⟩
 refine .cd (fun h=>?_) fun h=>?_
 ·have h:s.at_<s.code.length:=by simpa using h
  obtain⟨i,hi⟩:∃i:Nat,s.at_=i:=⟨s.at_.toNat,by omega⟩;have hb:=hs.b i (by omega);rw[hi,zAK,bs,wr hb];refine .rg (by omega) (.rg (by omega) ?_);have hS:Src (zE.mk s.code (i+1) v):=⟨hs.b,hs.l,by simp only;omega,hv⟩;refine .cd (fun h=>.bd (zHN) fun w hw=>.cd (fun h=>.rg (by omega) ?_) fun h=>key (by omega) hS) fun h=>key (by omega) hS
  rw[show((i:Int)+1-1)=i from by omega,zAK,bs,wr hb];exact key hb.1 hS
 ·exact key h3 ⟨hs.b,hs.l,hs.a,hv⟩
theorem zBz{s:zE}(hs:Src s){l:List Int}(h0:0<l.length)(hl:l.length<=1000):Ans (zFk s l) fun r=>Src r.2/\r.1∈l:=by
 unfold zFk;refine .bd (yV hs) fun r hr=>?_
 obtain⟨i,hi⟩:∃i:Nat,r.1=i:=⟨r.1.toNat,by omega⟩;rw[hi,zAK,bs];exact .rt ⟨hr.1,K3 _⟩
theorem zYn{c:List Int}(hb:∀i(h:i<c.length),0<=c[i]/\c[i]<=255)(hl:c.length<=68719476736:=by omega):Ans (zSD c) Src:=by
 unfold zSD;refine .bd (P:=fun r=>0<=r/\r<2147483647) (.lp (fun i s=>s.2=i/\0<=s.1/\s.1<2147483647) 64 ⟨rfl,by simp,by simp⟩ fun i s hi hs=>?_) fun r hr=>.rt ⟨hb,hl,⟨Int.le_refl _,by simp only;omega⟩,hr⟩
 unfold zWF;refine .cd (fun h=>.cd (fun h'=>.rg (by omega) ?_) fun _=>.rt hs.2) fun _=>.rt hs.2
 simp only[decide_eq_true_eq]at h h';have:=hb i (by omega);rw[hs.1,zAK,bs,wr this];refine .rg (by omega) (.bd (zHN) fun v hv=>.rg (by omega) (.rt ⟨by omega,by simp only;omega,hv⟩))
theorem yAu{D k:Nat}(hk:k<D:=by omega)(hD:D<=1000000:=by omega):zJs (D:Int) (k:Int)=iW (tV D k):=zBd hk hD
def trv(os:List Int):SPr:=⟨os,gl os.length fun _=>J1 os.length 0,gl os.length fun i=>gl (os.length-1-i) fun j=>tV os.length (i+1+j)⟩
theorem zAF{os:List Int}(h:os.length<=1000000:=by omega):f_x os=iW (trv os):=by
 unfold f_x;rw[wZ h,bs];have gS:∀i:Nat,i<os.length->zH (zSE os) ([],((i+1:Nat):Int))=iW (gl (os.length-1-i) fun j=>tV os.length (i+1+j)):=fun i hi=>by
  refine zQ (fun j=>(gl j fun j=>tV os.length (i+1+j),((i+1+j:Nat):Int))) (os.length-1-i) (fun j hj=>?_) ?_
  ·unfold zSE
   simp only
   rw[yN,zK,yAu (by omega) h,bs,zX (by rw[xI];simp;omega),bs,zG,bs,cs,jR];rfl
  ·unfold zSE
   simp only
   rw[show decide (((i+1+(os.length-1-i):Nat):Int)<os.length)=ja from by simp;omega,zM]
 have:=zQ (body:=zLN os) (r:=((trv os).zJ,(trv os).zC)) (fun i=>(gl i fun _=>J1 os.length 0,(gl i fun i=>gl (os.length-1-i) fun j=>tV os.length (i+1+j)),(i:Int))) os.length (fun i hi=>by
  unfold zLN;simp only
  rw[yN hi,zK,yP,bs,zX (by rw[xI];simp;omega),bs,zG,bs,cs,gS i hi,bs,zX (by rw[xI];simp;omega),bs,bs,jR,jR (F:=fun i=>gl (os.length-1-i) fun j=>tV os.length (i+1+j))]) (by
  unfold zLN;simp only
  rw[qT,zM];rfl)
 rw[show zH (zLN os) ([],[],0)=iW ((trv os).zJ,(trv os).zC)from this,bs];rfl
structure ShF (p:SPr):Prop where
 n:p.zA.length<=6
 pl:p.zJ.length=p.zA.length
 pr:∀v∈p.zJ,v.length=p.zA.length
 cl:p.zC.length=p.zA.length
 c:∀i,i<p.zA.length->(p.zC.getD i []).length<=p.zA.length-1-i
 cr:∀i,i<p.zA.length-> ∀v∈p.zC.getD i [],v.length=p.zA.length
theorem shB.iff{p:SPr}(h:shB p=iZ):ShF p:=by simp only[shB,J3,decide_eq_true_eq,beq_iff_eq,Ka,Ll]at h;exact⟨h.1.1.1.1,h.1.1.1.2,h.1.1.2,h.1.2,fun i hi=>(h.2 i hi).1,fun i hi=>(h.2 i hi).2⟩
theorem okP.sh{a b:Option SPr}[h:LeC a b](k:okP a=iZ):Ans b ShF:=by obtain⟨p,h1,h2⟩:=okP.of (b:=b) k;exact⟨p,h1,shB.iff h2⟩
theorem yBW{os:List Int}(h:os.length<=6:=by omega):ShF (trv os):=by
 refine⟨h,xI,fun v hv=>?_,xI,fun i hi=>?_,fun i hi v hv=>?_⟩
 ·simp[trv,gl]at hv;rw[<-hv.2];simp[trv]
 ·have hi:i<os.length:=hi
  simp[trv,gl,hi]
 ·have hi:i<os.length:=hi
  simp[trv,gl,hi]at hv;obtain⟨_,_,rfl⟩:=hv;exact zU _ _
structure ShC (N:Nat) (c:List (List (List Int))):Prop where
 l:c.length=N
 r:∀i,i<N->(c.getD i []).length=N-1-i
theorem ShC.set{N:Nat}{c:List (List (List Int))}(h:ShC N c){i j:Nat}(hi:i<N){v:List Int}:ShC N (c.set i ((c.getD i []).set j v)):=by
 refine⟨by rw[Lz,h.l],fun k hk=>?_⟩;have:=h.l
 by_cases e:k=i
 ·subst e;have:=h.r k hk;grind
 ·have:=h.r k hk;grind
theorem zYo{os:List Int}:ShC os.length (trv os).zC:=⟨xI,fun i hi=>by simp[trv,gl,hi]⟩
theorem zGb{a b:Nat}{v:List Int}(ha:a<=1000:=by omega)(hb:b<=1000:=by omega)(hv:v.length<=1000:=by omega):zOe a v b=iW (J1 a 0++v++J1 b 0):=by unfold zOe;rw[yP,bs,zX (by simp;omega),bs];unfold yT;rw[if_pos (by simp;omega),bs];simp
theorem zFi{α:Type}{v:List α}{d:α}{i:Nat}(h:i<v.length:=by omega):v.getD i d∈v:=by grind
theorem zYp{a b:SPr}(ha:ShF a)(hb:ShF b):Ans (f_J a b) fun p=>p.zA.length<=12:=by
 have h1:=ha.n;have h2:=hb.n;unfold f_J;rw[wZ,bs,zX,bs,zAF (by rw[J7];omega),bs]
 generalize hN:(a.zA++b.zA).length=N
 have hN':N=a.zA.length+b.zA.length:=by rw[<-hN,J7]
 have hC:ShC N (trv (a.zA++b.zA)).zC:=hN▸zYo;have hP:(trv (a.zA++b.zA)).zJ.length=N:=hN▸xI;refine .bd (P:=fun r=>r.1.length=N/\ShC N r.2) (.lp (fun i s=>s.2.2=i/\i<=a.zA.length/\s.1.length=N/\ShC N s.2.1) a.zA.length ⟨rfl,by omega,hP,hC⟩ fun i s hi hs=>?_) fun r hr=>?_
 ·obtain⟨e,_,pe,pd⟩:=hs
  unfold zZh;rw[e];refine .cd (fun h=>?_) fun h=>.rt ⟨pe,pd⟩
  simp only[decide_eq_true_eq]at h;have hv:=ha.pr (a.zJ.getD i []) (zFi (by have:=ha.pl;omega));rw[zY [] (by have:=ha.pl;omega),bs,show(0:Int)=((0:Nat):Int)from rfl,zGb,bs,zY [],bs];have iK:=ha.c i (by omega);refine .bd (P:=ShC N) (.lp (fun j t=>t.2=j/\ShC N t.1) (a.zC.getD i []).length ⟨rfl,pd⟩ fun j t hj ht=>?_) fun c hc=>.rg (by omega) (.rt ⟨by omega,by simp only;omega,by omega,by simp only[Lz];omega,hc⟩)
  unfold zZg;rw[e,ht.1,zY [] (by have:=ha.cl;omega),bs];refine .cd (fun h=>?_) fun h=>.rt ht.2
  simp only[decide_eq_true_eq]at h;have hv:=ha.cr i (by omega) ((a.zC.getD i []).getD j []) (zFi);have hr:=ht.2.r i (by omega);rw[zY [] (by have:=ht.2.l;omega),bs,bs,zY [],bs,show(0:Int)=((0:Nat):Int)from rfl,zGb,bs,zY [],bs];exact .rg (by omega) (.rt ⟨by omega,by simp only;omega,ht.2.set (by omega)⟩)
 refine .bd (P:=fun r=>True) (.lp (fun i s=>s.2.2=i/\i<=b.zA.length/\s.1.length=N/\ShC N s.2.1) b.zA.length ⟨rfl,by omega,hr⟩ fun i s hi hs=>?_) fun r hr=>.rt (show(trv _).zA.length<=12 by simp only[trv];omega)
 obtain⟨e,_,pe,pd⟩:=hs;unfold zZj;rw[e];refine .cd (fun h=>.rg (by omega) ?_) fun h=>.rt trivial
 simp only[decide_eq_true_eq]at h;have hv:=hb.pr (b.zJ.getD i []) (zFi (by have:=hb.pl;omega));rw[zY [] (by have:=hb.pl;omega),bs,show(0:Int)=((0:Nat):Int)from rfl,zGb,bs,show(a.zA.length:Int)+(i:Int)=((a.zA.length+i:Nat):Int)from by omega,zY [],bs];have iK:=hb.c i (by omega);refine .bd (P:=ShC N) (.lp (fun j t=>t.2=j/\ShC N t.1) (b.zC.getD i []).length ⟨rfl,pd⟩ fun j t hj ht=>?_) fun c hc=>.rg (by omega) (.rt ⟨by omega,by simp only;omega,by omega,by simp only[Lz];omega,hc⟩)
 unfold zZi;rw[e,ht.1,zY [] (by have:=hb.cl;omega),bs];refine .cd (fun h=>.rg (by omega) ?_) fun h=>.rt ht.2
 simp only[decide_eq_true_eq]at h;have hv:=hb.cr i (by omega) ((b.zC.getD i []).getD j []) (zFi);have hr:=ht.2.r (a.zA.length+i) (by omega);rw[show(a.zA.length:Int)+(i:Int)=((a.zA.length+i:Nat):Int)from by omega,zY [] (by have:=ht.2.l;omega),bs,bs,zY [],bs,show(0:Int)=((0:Nat):Int)from rfl,zGb,bs,zY [],bs];exact .rg (by omega) (.rt ⟨by omega,by simp only;omega,ht.2.set (by omega)⟩)
theorem zYq{s:zE}(hs:Src s){p:Int}(hp:p<=1000:=by omega):Ans (zYR s p) fun r=>ShF r.1/\Src r.2:=by
 unfold zYR;rw[zAF (by simp),bs];have e:trv [p,p,p]=⟨[p,p,p],[[0,0,0],[0,0,0],[0,0,0]],[[[0,1,0],[0,0,1]],[[0,0,1]],[]]⟩:=rfl;rw[e];have key:∀{x y:List Int}{t:zE},x.length=3->y.length=3->Src t->Ans (iW ((SPr.mk [p,p,p] [x,y,[0,0,0]] [[[0,1,1],[0,0,1]],[[0,0,1]],[]]),t)) fun r=>ShF r.1/\Src r.2:=fun hx hy ht=>.rt ⟨shB.iff (by simp[shB,hx,hy,Lb]),ht⟩
 rw[show ixO (SPr.mk [p,p,p] [[0,0,0],[0,0,0],[0,0,0]] [[[0,1,0],[0,0,1]],[[0,0,1]],[]]).zC 0=iW [[0,1,0],[0,0,1]]from rfl,bs,show ixO [[(0:Int),1,0],[0,0,1]] 0=iW [0,1,0]from rfl,bs];refine .bd (yV hs) fun r hr=>.cd (fun _=>.bd (yV hr.1) fun r1 gK=>?_) fun _=>key rfl rfl hr.1
 rw[show ixO (SPr.mk [p,p,p] [[0,0,0],[0,0,0],[0,0,0]] [[[0,1,0],[0,0,1]],[[0,0,1]],[]]).zJ 0=iW [0,0,0]from rfl,bs];refine .bd (yV gK.1) fun r2 gF=>?_
 rw[show ixO ((SPr.mk [p,p,p] [[0,0,0],[0,0,0],[0,0,0]] [[[0,1,0],[0,0,1]],[[0,0,1]],[]]).zJ.set (0:Int).toNat [0,0,r1.1]) 1=iW [0,0,0]from rfl,bs];exact key rfl rfl gF.1
theorem zK1{s:zE}(hs:Src s):Ans (zWY s) fun r=>ShF r.1/\Src r.2:=by
 have pair:∀{o:Option SPr}{t:zE},Ans o ShF->Src t->Ans (o.bind fun p=>iW (p,t)) fun r=>ShF r.1/\Src r.2:=fun h ht=>.bd h fun p hp=>.rt ⟨hp,ht⟩
 unfold zWY;refine .bd (yV hs) fun r hr=>.cd (fun _=>.bd (yV hr.1) fun r2 gF=>?_) fun _=>.cd (fun _=>.bd (zBz hr.1 (by simp) (by simp)) fun r2 gF=>?_) fun _=>.cd (fun _=>.bd (zBz hr.1 (by simp) (by simp)) fun r2 gF=>?_) fun _=>
  .cd (fun _=>.bd (zBz hr.1 (by simp) (by simp)) fun r2 gF=>?_) fun _=>.cd (fun _=>.bd (yV hr.1) fun r2 gF=>?_) fun _=>.cd (fun _=>.bd (zBz hr.1 (by simp) (by simp)) fun r2 gF=>?_) fun _=>.cd (fun _=>.bd (yV hr.1) fun r2 gF=>?_) fun _=>.bd (yV hr.1) fun r2 gF=>?_
 ·refine .bd (P:=fun t=>Src ⟨t.1,t.2.1,t.2.2.1⟩/\t.2.2.2.length<=5) (.lp (fun i t=>t.2.2.2.2=r2.1-i/\Src ⟨t.1,t.2.1,t.2.2.1⟩/\t.2.2.2.1.length=i) r2.1.toNat ⟨by simp,gF.1,rfl⟩ fun i t hi ht=>?_) fun t ht=>pair ⟨_,zAF,yBW⟩ ht.1
  unfold zWX;refine .cd (fun h=>.bd (zBz ht.2.1 (by simp) (by simp)) fun r3 eE=>?_) fun h=>.rt ⟨ht.2.1,by simp only;omega⟩
  simp only[decide_eq_true_eq]at h;rw[zX (by simp;omega),bs];exact .rg (by omega) (.rt ⟨by omega,by simp only;omega,eE.1,by simp[ht.2.2]⟩)
 ·refine .bd (P:=fun t=>ShF t.1) ?_ fun t ht=>.rt ⟨ht,gF.1⟩
  have h:=cyc gF.2;cases e:vE r2.1 with
  |none=>rw[e]at h;cases h
  |some x=>exact⟨x,(m_f_spec_CyclicPresentation _).h x e,shB.iff (by rw[e]at h;exact h)⟩
 ·have:r2.1<=12/\3<=r2.1:=by have:=gF.2;simp at this;omega
  exact .rg (by omega) (pair (okP.sh (yEy gF.2)) gF.1)
 ·have:r2.1<=12/\3<=r2.1:=by have:=gF.2;simp at this;omega
  have e:xV r2.1 2=iW (r2.1.tdiv 2):=by have:=Gf (show 0<=r2.1 by omega) (b:=2);unfold xV;rw[if_neg (by omega),zG]
  refine .rg (by omega) ?_;rw[e,bs];exact pair (okP.sh (yEz gF.2)) gF.1
 ·have h:=yE0
  simp only[J3]at h;obtain⟨⟨⟨⟨⟨h1,h2⟩,h3⟩,h4⟩,h5⟩,h6⟩:=h;exact .cd (fun _=>pair (okP.sh h1) gF.1) fun _=>.cd (fun _=>pair (okP.sh h2) gF.1) fun _=>.cd (fun _=>pair (okP.sh h3) gF.1) fun _=>.cd (fun _=>pair (okP.sh h4) gF.1) fun _=>.cd (fun _=>pair (okP.sh h5) gF.1) fun _=>pair (okP.sh h6) gF.1
 ·have:r2.1<=5:=by have:=gF.2;simp at this;omega
  exact .bd (zYq gF.1) fun r hr=>.rt hr
 ·have h:=aff
  simp only[J3]at h;obtain⟨⟨⟨⟨⟨h1,h2⟩,h3⟩,h4⟩,h5⟩,h6⟩:=h;exact .cd (fun _=>pair (okP.sh h1) gF.1) fun _=>.cd (fun _=>pair (okP.sh h2) gF.1) fun _=>.cd (fun _=>pair (okP.sh h3) gF.1) fun _=>.cd (fun _=>pair (okP.sh h4) gF.1) fun _=>.cd (fun _=>pair (okP.sh h5) gF.1) fun _=>pair (okP.sh h6) gF.1
 ·have h:=zVb
  rw[Ka]at h;have:=h r2.1.toNat (Ll.2 (by omega));rw[show((r2.1.toNat:Nat):Int)=r2.1 from by omega]at this;exact pair (okP.sh this) gF.1
theorem zN1{s:zE}(hs:Src s){n:Int}:Ans (zXa s n) fun r=>sJ r.1/\Src r.2:=by
 unfold zXa;refine .bd (P:=Ei (fun t=>Src ⟨t.1,t.2.1,t.2.2⟩) fun r=>sJ r.1/\Src r.2) (.lp (fun i t=>t.2.2.2=i/\Src ⟨t.1,t.2.1,t.2.2.1⟩) 12 ⟨rfl,hs⟩ fun i t hi ht=>?_) fun x hx=>?_
 ·unfold zWZ
  refine .cd (fun h=>?_) fun h=>.rt ht.2
  simp only[decide_eq_true_eq]at h;have key:∀{p:SPr}{t':zE},p.zA.length<=12->Src t'->Ans ((f_p p).bind fun r5=>
   cond r5 (
    (f_Y p.zA).bind fun r6=>
    cond (decide (r6<=n)) (
     iW (.inr (.inr (p,t')))) (
     (rng (t.2.2.2+1)).bind fun v7=>
     iW (.inl (t'.code,t'.at_,t'.seed,v7)))) (
    (rng (t.2.2.2+1)).bind fun v8=>
    iW (.inl (t'.code,t'.at_,t'.seed,v8)))) (Ei (fun s':(List Int)×Int×Int×Int=>i<12/\s'.2.2.2=((i+1:Nat):Int)/\Src ⟨s'.1,s'.2.1,s'.2.2.1⟩) (Ei (fun t:(List Int)×Int×Int=>Src ⟨t.1,t.2.1,t.2.2⟩) fun r:SPr×zE=>sJ r.1/\Src r.2)):=fun{p t'} hp pb=>by
   rcases tH (x:=p)with⟨h1,h2⟩|⟨h1,h2⟩
   ·rw[h1,bs,zK,zF6 h2.os,bs]
    refine .cd (fun _=>.rt ⟨h2,pb⟩) fun _=>.rg (by omega) (.rt ⟨by omega,by simp only;omega,pb⟩)
   ·rw[h1,bs,zM]
    exact .rg (by omega) (.rt ⟨by omega,by simp only;omega,pb⟩)
  refine .bd (zK1 ht.2) fun r1 gK=>.bd (yV gK.2) fun r2 gF=>.cd (fun _=>.bd (zK1 gF.1) fun r3 eE=>.bd (zYp gK.1 eE.1) fun r4 ac=>key ac eE.2) fun _=>key (p:=r1.1) (by have:=gK.1.n;omega) gF.1
 ·rcases x with t|r
  ·dsimp only
   rw[zAF (by simp),bs];refine .rt ⟨?_,hx⟩;rcases tH (x:=trv [2]) (by simp[trv])with⟨h1,h2⟩|⟨h1,h2⟩
   ·exact h2
   ·have:=(m_f_spec_IsPresentation (trv [2])).h iZ (by decide+kernel)
    rw[this]at h1;cases h1
  ·exact .rt hx
theorem yAv{D:Nat}(hD:D<=1000:=by omega):f_E (D:Int)=iW (idM D):=by
 unfold f_E;rw[uX (body:=zJt (D:Int)) D (fun i=>mkv D fun j=>if j=i then 1 else 0) (fun i acc hi ha=>by
  unfold zJt;simp only
  rw[yN hi,zK,yP,bs,uG,Km,if_pos hi,bs,J6,uB,qJ,zX (by grind),bs,zG,bs];rfl) (fun acc=>by
  unfold zJt;simp),bs]
 rfl
theorem zVc{x:SPr}{q:Int}{D:Nat}(h6:x.zA.length<=1000:=by omega)(hD:D<=1000:=by omega):zSC x q (D:Int)=iW ⟨q,D,gl x.zA.length fun _=>idM D⟩:=by
 unfold zSC;rw[uX (body:=zKB x (D:Int)) x.zA.length (fun _=>idM D) (fun i acc hi ha=>by
  unfold zKB;simp only
  rw[yN hi,zK,yAv hD,bs,zX (by grind),bs,zG,bs];rfl) (fun acc=>by
  unfold zKB;simp),bs]
theorem zDU{α:Type}{v:List α}{a b:Nat}(h:a<=b:=by omega)(k:b<=v.length:=by omega):zL v (a:Int) (b:Int)=iW ((v.drop a).take (b-a)):=by unfold zL;exact if_pos (by omega)
structure DrP (p:SPr):Prop where
 n:p.zA.length<=7
 o:∀o∈p.zA,-100<=o/\o<=100
structure DrM (m:zB):Prop where
 p:-100<=m.Prime/\m.Prime<=100
 d:1<=m.Dim/\m.Dim<=4
 l:m.zF.length<=100
structure DrE (m:zB):Prop where
 p:-100<=m.Prime/\m.Prime<=100
 d:1<=m.Dim/\m.Dim<=3
 l:m.zF.length<=20
 a:∀A∈m.zF,(A.getD 0 []).length≠0
theorem sJ.drp{p:SPr}(h:sJ p):DrP p:=⟨by have:=h.n6;omega,fun o ho=>by obtain⟨i,hi,rfl⟩:=Jz.1 ho;have:=(h.os.2 i hi).pos;rw[at0,J2,J5 hi]at this;simp at this;omega⟩
section
variable {x:SPr} (h:Pres x)
 include h
theorem zFj{i:Nat}(hi:i<x.zA.length):(x.zJ.getD i []).length=x.zA.length:=(h.tl i hi).1.1.1
theorem zGO{i:Nat}(hi:i<x.zA.length):(x.zC.getD i []).length+i+1=x.zA.length:=(h.tl i hi).2.1
theorem zGP{i j:Nat}(hi:i<x.zA.length)(hj:j+i+1<x.zA.length):((x.zC.getD i []).getD j []).length=x.zA.length:=((h.tl i hi).2.2 j (by have:=(h.tl i hi).2.1;omega)).1.1
theorem zVd{β:Type}{Q:β->Prop}{i j:Nat}{f:List Int->Option β}(hi:i<j)(hj:j<x.zA.length)(k:∀v,v.length=x.zA.length->Ans (f v) Q):
  Ans ((ixO x.zC (i:Int)).bind fun v1=>(rng ((j:Int)-(i:Int))).bind fun v2=>(rng (v2-1)).bind fun v3=>(ixO v1 v3).bind f) Q:=by
 have h6:=h.os.1;rw[zY [] (by have:=h.cl;omega),bs];refine .rg (by omega) (.rg (by omega) ?_);rw[show(j:Int)-(i:Int)-1=((j-i-1:Nat):Int)from by omega,zY [] (by have:=zGO h (show i<x.zA.length by omega);omega),bs];exact k _ (zGP h (by omega) (by omega))
theorem zK2{k:Nat}(hk:k<=x.zA.length):Ans (zXd x k) fun _=>True:=by
 have h6:=h.os.1;unfold zXd;refine .bd (P:=fun _=>True) (.lp (fun i s=>s=i) k rfl fun i s hi hs=>?_) fun r _=>by rcases r with _|_<;>exact .rt trivial
 unfold zXc;refine .cd (fun hl=>?_) fun _=>.rt trivial
 simp only[decide_eq_true_eq]at hl;subst hs;refine .bd (P:=fun _=>True) (.lp (fun j t=>t=((k+j:Nat):Int)) (x.zA.length-k) rfl fun j t hj ht=>?_) fun r _=>by
  rcases r with _|_
  ·exact .rg (by omega) (.rt ⟨by omega,by omega⟩)
  ·exact .rt trivial
 unfold zXb;refine .cd (fun hl=>?_) fun _=>.rt trivial
 simp only[decide_eq_true_eq]at hl;subst ht;refine zVd h (by omega) (by omega) fun v hv=>?_
 rw[show(0:Int)=((0:Nat):Int)from rfl,zDU,bs];rcases zAv (v:=(v.drop 0).take (k-0)) (by grind)with⟨e,_⟩|⟨e,_⟩
 ·rw[e,bs,Jq,zM];exact .rg (by omega) (.rt ⟨by omega,by omega⟩)
 ·rw[e,bs,Kb,zK];exact .rt trivial
theorem zYr(hx:sJ x){k:Nat}(hk:k<=x.zA.length):Ans (zZk x k) fun r=>DrP r.1:=by
 have h6:=h.os.1;have emp:∀{c:Int},Ans (iW (SPr.mk [] [] [],c)) fun r=>DrP r.1:=.rt ⟨by simp,by simp⟩
 unfold zZk yCt;refine .bd (P:=fun _=>True) (.bd (P:=fun _=>True) ?_ fun r _=>.cd (fun _=>.rt trivial) fun _=>?_) fun r _=>.cd (fun _=>emp) fun _=>.bd (zK2 h hk) fun r _=>.cd (fun _=>emp) fun _=>?_
 ·rcases zIE (x:=x)with⟨e,_⟩|⟨e,_⟩<;>exact⟨_,e,trivial⟩
 ·rcases zBT k 0 x.zA.length with⟨e,_⟩|⟨e,_⟩
  ·rw[e,bs];exact .rt trivial
  ·rw[e,bs];exact .rt trivial
 rw[show(0:Int)=((0:Nat):Int)from rfl,zDU,bs,wZ (by grind),bs];refine .bd (P:=fun _=>True) (.lp (fun i s=>s.2.2=i/\s.1.length=i/\s.2.1.length=i) k ⟨rfl,rfl,rfl⟩ fun i s hi hs=>?_) fun r _=>.rt ⟨by have:=hx.n6;simp only;grind,fun o ho=>hx.drp.o o (by grind)⟩
 unfold zRx;refine .cd (fun hl=>?_) fun _=>.rt trivial
 simp only[decide_eq_true_eq]at hl;have:=zFj h (show i<x.zA.length by omega);rw[hs.1,zY [] (by have:=h.pl;omega),bs,show(0:Int)=((0:Nat):Int)from rfl,zDU,bs,wZ (by grind),bs,zX (by simp;omega),bs];refine .bd (P:=fun _=>True) (.lp (fun j t=>t.2=j/\t.1.length=j) (k-1-i) ⟨rfl,rfl⟩ fun j t hj ht=>?_) fun r _=>?_
 ·unfold zXe
  rw[hs.1,ht.1];refine .rg (by omega) (.rg (by omega) (.cd (fun hl=>?_) fun _=>.rt trivial));simp only[decide_eq_true_eq]at hl;have hc:=zGO h (show i<x.zA.length by omega);have hr:=zGP h (show i<x.zA.length by omega) (show j+i+1<x.zA.length by omega);rw[zY [] (by have:=h.cl;omega),bs,zY [],bs,show(0:Int)=((0:Nat):Int)from rfl,zDU,bs,wZ (by grind),bs,zX (by simp;omega),bs];exact .rg (by omega) (.rt ⟨by omega,by simp only;omega,by simp[ht.2]⟩)
 ·rw[zX (by simp;omega),bs]
  exact .rg (by omega) (.rt ⟨by omega,by simp only;omega,by simp[hs.2.1],by simp[hs.2.2]⟩)
theorem yBX{i:Nat}(hi:i<x.zA.length):Ans (zH (zXf x i) ([],0)) fun r=>r.length<=20/\ ∀A∈r,(A.getD 0 []).length≠0:=by
 have h6:=h.os.1;refine .mp (.lp (Q:=fun r=>r.length<=i/\ ∀A∈r,(A.getD 0 []).length≠0) (fun q s=>s.2=q/\s.1.length=q/\q<=i/\ ∀A∈s.1,(A.getD 0 []).length≠0) i ⟨rfl,rfl,by omega,by simp⟩ fun q s hq hs=>?_) fun r hr=>⟨by omega,hr.2⟩
 unfold zXf;refine .cd (fun hl=>?_) fun _=>.rt ⟨by omega,hs.2.2.2⟩
 simp only[decide_eq_true_eq]at hl;refine .bd (P:=fun A=>(A.getD 0 []).length≠0) (.lp (fun j t=>t.2=((i+j:Nat):Int)/\t.1.length=j/\ ∀v∈t.1,v.length≠0) (x.zA.length-i) ⟨rfl,rfl,by simp⟩ fun j t hj ht=>?_) fun A hA=>?_
 ·unfold yCv
  rw[ht.1,hs.1];refine .cd (fun hl=>?_) fun hl=>.rt ?_
  ·simp only[decide_eq_true_eq]at hl
   refine zVd h (by omega) (by omega) fun v hv=>?_
   rw[zDU,bs,wZ (by grind),bs,zX (by simp;omega),bs];exact .rg (by omega) (.rt ⟨by omega,by simp only;omega,by simp[ht.2.1],by grind⟩)
  ·simp only[decide_eq_false_iff_not]at hl
   exact ht.2.2 _ (zFi)
 ·rw[zX (by simp;omega),bs]
  exact .rg (by omega) (.rt ⟨by omega,by simp only;omega,by simp[hs.2.1],by omega,by grind⟩)
end
theorem zVe{s:zE}{x:SPr}(hs:Src s)(hx:sJ x):Ans (f_l s x) fun r=>Src r.2.2.2/\(r.2.2.1=iZ->DrP r.1/\DrE r.2.1):=by
 have h6:=hx.n6;have h:=hx.toPres;unfold f_l;have all:∀{i:Nat}{b:Bool},i<x.zA.length->Ans (zH (zZn x i) (b,(i:Int))) fun _=>True:=fun{i b} hi=>by
  refine .lp (fun q t=>t.2=((i+q:Nat):Int)) (x.zA.length-i) rfl fun q t hq ht=>?_
  unfold zZn;rw[ht];refine .cd (fun hl=>?_) fun _=>.rt trivial
  simp only[decide_eq_true_eq]at hl;refine .bd (P:=fun _=>True) (.jn ?_) fun b _=>.rg (by omega) (.bd (P:=fun _=>True) ?_ fun _ _=>.rg (by omega) (.rt ⟨by omega,by simp only;omega⟩))
  ·unfold zZm
   rw[ht];refine .cd (fun _=>?_) fun _=>.rt trivial
   rw[yJ,bs,yJ hi,bs];refine .cd (fun _=>?_) fun _=>.rt trivial
   rw[zY [] (by have:=h.pl;omega),bs];rcases zAv (v:=x.zJ.getD (i+q) []) (by have:=zFj h (show i+q<x.zA.length by omega);omega)with⟨e,_⟩|⟨e,_⟩<;>(rw[e,bs];exact .rt trivial)
  ·refine .lp (fun q' t=>t.2=((i+q+1+q':Nat):Int)) (x.zA.length-(i+q+1)) rfl fun q' t' hq' pb=>?_
   unfold yCu;rw[pb,ht];refine .cd (fun hl=>?_) fun _=>.rt trivial
   simp only[decide_eq_true_eq]at hl;refine .cd (fun _=>zVd h (by omega) (by omega) fun v hv=>?_) fun _=>.rg (by omega) (.rt ⟨by omega,by simp only;omega⟩)
   rw[yAu,bs,zG3,bs];exact .rg (by omega) (.rt ⟨by omega,by simp only;omega⟩)
 refine .bd (P:=Ei (fun t=>Src ⟨t.1,t.2.1,t.2.2⟩) fun r=>Src r.2.2.2/\(r.2.2.1=iZ->DrP r.1/\DrE r.2.1)) (.lp (fun q t=>t.2.2.2=((1+q:Nat):Int)/\Src ⟨t.1,t.2.1,t.2.2.1⟩) 3 ⟨rfl,hs⟩ fun q t hq ht=>?_) fun y hy=>?_
 ·unfold yCw
  refine .bd (P:=fun b=>b=iZ->1+q<x.zA.length/\q<3) (.jn ?_) fun b hb=>.cd (fun e=>?_) fun _=>.rt ht.2
  ·unfold zZl
   rw[ht.1];refine .cd (fun hl=>.rt fun e=>?_) fun _=>.rt fun e=>by cases e
   simp only[decide_eq_true_eq]at hl e;omega
  obtain⟨hl,hq3⟩:=hb e;rw[ht.1];refine .rg (by omega) ?_;rw[show(x.zA.length:Int)-((1+q:Nat):Int)=((x.zA.length-(1+q):Nat):Int)from by omega]
  generalize hi:x.zA.length-(1+q)=i
  refine .bd (zK2 h (by omega)) fun b _=>.bd (all (by omega)) fun b _=>.bd (P:=fun r=>Src ⟨r.1,r.2.1,r.2.2.1⟩) (.jn ?_) fun u hu=>.cd (fun _=>?_) fun _=>.rg (by omega) (.rt ⟨by omega,by simp only;omega,hu⟩)
  ·unfold zZo
   exact .cd (fun _=>.cd (fun _=>.rt ht.2) fun _=>.bd (yV ht.2) fun r hr=>.cd (fun _=>.rt hr.1) fun _=>.rg (by omega) (.rt hr.1)) fun _=>.rt ht.2
  refine .bd (zYr h hx (by omega)) fun r hr=>?_
  rw[yJ,bs];refine .bd (yBX h (by omega)) fun A hA=>.rt ⟨hu,fun _=>⟨hr,?_,⟨by simp only;omega,by simp only;omega⟩,hA.1,hA.2⟩⟩
  have:=(h.os.2 i (by omega)).pos;exact⟨by simp only;omega,by simp only;omega⟩
 ·rcases y with t|r
  ·exact .rt ⟨hy,fun e=>by cases e⟩
  ·exact .rt hy
structure AL (n D:Nat) (c:List (List (List Int))):Prop where
 l:c.length=n
 d:∀i,i<n->(c.getD i []).length=D/\ ∀j,j<D->((c.getD i []).getD j []).length=D
theorem AL.set{n D:Nat}{c:List (List (List Int))}(h:AL n D c){i j k:Nat}{z:Int}(hi:i<n)(hj:j<D):AL n D (c.set i ((c.getD i []).set j (((c.getD i []).getD j []).set k z))):=by
 have hn:=h.l;refine⟨by rw[Lz,hn],fun q hq=>?_⟩
 by_cases e:q=i
 ·subst e
  have:=h.d q hq;rw[show(c.set q ((c.getD q []).set j (((c.getD q []).getD j []).set k z))).getD q []=(c.getD q []).set j (((c.getD q []).getD j []).set k z)from by grind];refine⟨by rw[Lz,this.1],fun w hw=>?_⟩
  by_cases e:w=j
  ·subst e;have:=this.2 w hw;grind
  ·have:=this.2 w hw;grind
 ·have:=h.d q hq;grind
theorem zVf{n D:Nat}:AL n D (gl n fun _=>idM D):=⟨xI,fun i hi=>by rw[show(gl n fun _=>idM D).getD i []=idM D from by simp[gl,hi]];exact⟨by simp[idM],fun j hj=>by simp[idM,hj,mkv]⟩⟩
theorem AL.dre{n D:Nat}{q:Int}{c:List (List (List Int))}(h:AL n D c)(hn:n<=7)(h1:1<=D)(h3:D<=3)(hq:-100<=q/\q<=100):DrE ⟨q,D,c⟩:=⟨hq,⟨by simp only;omega,by simp only;omega⟩,by have:=h.l;simp only;omega,fun A hA=>by
 obtain⟨i,hi,rfl⟩:=Jz.1 hA;have:=(h.d i (by rw[<-h.l];exact hi)).2 0 (by omega);rw[show c.getD i []=c[i]from by grind]at this;exact fun e=>by have e:(c[i].getD 0 []).length=0:=e;omega⟩
section
variable {x:SPr}{D:Nat}
theorem zYs{r6:(List Int)×Int×Int×Int}{d r:Int×zE}{m:zB}{i:Nat}{n:Nat}(hm:m.Dim=(D:Int))(hi:r.1=(i:Int))(gS:i<n)(hq:-100<=r6.2.2.2/\r6.2.2.2<=100)(hD:D<=3)(hs:Src r.2)(ha:AL n D m.zF):
  Ans (zH (zZt r6 m r) (r.2.code,r.2.at_,r.2.seed,m.zF,0)) fun t=>Src ⟨t.1,t.2.1,t.2.2.1⟩/\AL n D t.2.2.2:=by
 have _:=d;refine .lp (fun k t=>t.2.2.2.2=k/\Src ⟨t.1,t.2.1,t.2.2.1⟩/\AL n D t.2.2.2.1) D ⟨rfl,hs,ha⟩ fun k t hk ht=>?_
 unfold zZt;rw[ht.1,hi];refine .cd (fun hl=>?_) fun _=>.rt ht.2
 simp only[decide_eq_true_eq,hm]at hl;have h1:=ht.2.2.d i gS;have h2:=h1.2 k (by omega);rw[zY [] (by have:=ht.2.2.l;omega),bs,zY [],bs];refine .rg (by omega) (.bd (yV ht.2.1) fun r1 gK=>.rg (by omega) ?_);rw[yJ,bs];have aR:AL n D (t.2.2.2.1.set (i:Int).toNat ((t.2.2.2.1.getD i []).set (k:Int).toNat (((t.2.2.2.1.getD i []).getD k []).set (k:Int).toNat (1+r1.1)))):=ht.2.2.set gS (by omega)
 generalize t.2.2.2.1.set (i:Int).toNat ((t.2.2.2.1.getD i []).set (k:Int).toNat (((t.2.2.2.1.getD i []).getD k []).set (k:Int).toNat (1+r1.1)))=c at aR ⊢
 refine .bd (P:=fun u=>Src ⟨u.1,u.2.1,u.2.2.1⟩/\(u.2.2.2=iZ->0<k)) (.jn ?_) fun u hu=>.cd (fun eK=>?_) fun _=>.rg (by omega) (.rt ⟨by omega,by simp only;omega,hu.1,aR⟩)
 ·unfold zZs
  rw[ht.1];refine .cd (fun eK=>.bd (yV gK.1) fun r2 gF=>.rt ⟨gF.1,fun _=>?_⟩) fun _=>.rt ⟨gK.1,fun e=>by cases e⟩
  simp only[decide_eq_true_eq]at eK;omega
 have eK:=hu.2 eK;have h3:=aR.d i gS;have h4:=h3.2 k (by omega);rw[zY [] (by have:=aR.l;omega),bs,zY [],bs];refine .rg (by omega) (.bd (yV hu.1) fun r3 eE=>?_);rw[show(k:Int)-1=((k-1:Nat):Int)from by omega,yJ,bs];exact .rg (by omega) (.rt ⟨by omega,by simp only;omega,eE.1,aR.set gS (by omega)⟩)
theorem zVg{r6:(List Int)×Int×Int×Int}{s:zE}{m:zB}(hx:sJ x)(hq:-100<=r6.2.2.2/\r6.2.2.2<=100)(hs:Src s)(hm:DrE m):Ans ((zH (zZu x r6) (s.code,s.at_,s.seed,m.Prime,m.Dim,m.zF,0)).bind fun r33=>
     match r33 with
     |(.inl r33)=>
      iW ((zB.mk r33.2.2.2.1 r33.2.2.2.2.1 r33.2.2.2.2.2),(zE.mk r33.1 r33.2.1 r33.2.2.1))
     |(.inr r33)=>
      iW r33) fun r=>Src r.2/\DrE r.1:=by
 refine .bd (P:=Ei (fun t=>Src ⟨t.1,t.2.1,t.2.2.1⟩/\DrE ⟨t.2.2.2.1,t.2.2.2.2.1,t.2.2.2.2.2⟩) fun r=>Src r.2/\DrE r.1) (.lp (fun i t=>t.2.2.2.2.2.2=i/\Src ⟨t.1,t.2.1,t.2.2.1⟩/\DrE ⟨t.2.2.2.1,t.2.2.2.2.1,t.2.2.2.2.2.1⟩) 8 ⟨rfl,hs,hm⟩ fun i t hi ht=>?_) fun y hy=>?_
 ·unfold zZu
  refine .cd (fun hl=>.bd (yV ht.2.1) fun r1 gK=>.rg (by omega) ?_) fun _=>.rt ht.2
  simp only[decide_eq_true_eq]at hl;have h6:=hx.n6;obtain⟨D,hD⟩:∃D:Nat,1+r1.1=(D:Int):=⟨(1+r1.1).toNat,by omega⟩;rw[hD,zVc,bs];refine .bd (yV gK.1) fun r2 gF=>.cd (fun _=>.rt ⟨gF.1,ht.2.2⟩) fun mU=>?_
  simp only[decide_eq_false_iff_not]at mU;obtain⟨k,hk⟩:∃k:Nat,r2.1=(k:Int):=⟨r2.1.toNat,by omega⟩;refine .bd (zYs (d:=r2) (n:=x.zA.length) rfl hk (by omega) hq (by omega) gF.1 zVf) fun t' pb=>?_
  have dj:=pb.2.dre (q:=r6.2.2.2) (by omega) (by omega) (by omega) hq;rcases zIL (m:=⟨r6.2.2.2,D,t'.2.2.2⟩) hx.toPres with⟨e,_⟩|⟨e,_⟩
  ·rw[e,bs,zK];exact .rg (by omega) (.rt ⟨by omega,by simp only;omega,pb.1,dj⟩)
  ·rw[e,bs,zM];exact .rg (by omega) (.rt ⟨by omega,by simp only;omega,pb.1,ht.2.2⟩)
 ·rcases y with t|r
  ·exact .rt hy
  ·exact .rt hy
end
theorem zRd{s:zE}{x:SPr}(hs:Src s)(hx:DrP x):Ans (f_t s x) fun r=>Src r.2/\DrE r.1:=by
 have h7:=hx.n;unfold f_t;refine .bd (zBz hs (by simp) (by simp)) fun r1 gK=>?_
 have hq:-100<=r1.1/\r1.1<=100:=by have:=gK.2;simp at this;omega
 refine .bd (P:=fun t=>Src ⟨t.1,t.2.1,t.2.2.1⟩/\ -100<=t.2.2.2/\t.2.2.2<=100) (.jn ?_) fun t ht=>.bd (yV ht.1) fun r2 gF=>.rg (by omega) ?_
 ·unfold zZq
  refine .bd (P:=fun u=>Src ⟨u.1,u.2.1,u.2.2.1⟩/\(u.2.2.2=iZ->0<x.zA.length)) (.jn ?_) fun u hu=>.cd (fun e=>.bd (yV hu.1) fun r3 eE=>?_) fun _=>.rt ⟨hu.1,hq⟩
  ·unfold zZp
   refine .cd (fun hl=>.bd (yV gK.1) fun r2 gF=>.rt ⟨gF.1,fun _=>?_⟩) fun _=>.rt ⟨gK.1,fun e=>by cases e⟩
   simp only[decide_eq_true_eq]at hl;omega
  ·have hl:=hu.2 e
   obtain⟨k,hk⟩:∃k:Nat,r3.1=(k:Int):=⟨r3.1.toNat,by omega⟩;rw[hk,yJ,bs];exact .rt ⟨eE.1,hx.o _ (zFi)⟩
 obtain⟨D,hD⟩:∃D:Nat,1+r2.1=(D:Int):=⟨(1+r2.1).toNat,by omega⟩;rw[hD,zVc,bs];have dj:=(zVf (n:=x.zA.length) (D:=D)).dre (q:=t.2.2.2) h7 (by omega) (by omega) ht.2;refine .bd (P:=fun u=>Src ⟨u.1,u.2.1,u.2.2.1⟩/\(u.2.2.2=ja->sJ x)) (.jn ?_) fun u hu=>.cd (fun _=>.rt ⟨hu.1,dj⟩) fun e=>zVg (hu.2 e) ht.2 hu.1 dj
 unfold zZr;refine .bd (yV gF.1) fun r3 eE=>.cd (fun _=>.rt ⟨eE.1,fun e=>by cases e⟩) fun _=>?_
 rcases tH (x:=x)with⟨e,h⟩|⟨e,_⟩
 ·rw[e,bs];exact .rt ⟨eE.1,fun _=>h⟩
 ·rw[e,bs];exact .rt ⟨eE.1,fun e=>by cases e⟩
theorem yE1{x:SPr}(hx:sJ x):zOf x=iW x:=by
 have h6:=hx.n6;unfold zOf;rw[wZ,bs,zG9 (by have:=hx.pl;omega) (fun i hi=>by have:=zFj hx.toPres (show i<x.zA.length by have:=hx.pl;omega);omega),bs];rw[uX (body:=zHt x) x.zC.length (fun i=>x.zC.getD i []) (fun i acc hi ha=>by
  have ex:i<x.zA.length:=by have:=hx.cl;omega
  have hc:=zGO hx.toPres ex;have:=hx.cl;unfold zHt;simp only
  rw[yN hi,zK,zY [] hi,bs,zG9 (by omega) (fun j hj=>by have:=zGP hx.toPres ex (show j+i+1<x.zA.length by omega);omega),bs,zX (by simp;omega),bs,zG,bs,cs]) (fun acc=>by
  unfold zHt;simp),bs]
 congr 2
 exact Hj (by simp) fun i h1 h2=>by simp at h1 ⊢;grind
theorem zGc{o:List Int}{p:List (List Int)}{c:List (List (List Int))}(h:o.length<=7)(k:∀x∈o,-100<=x/\x<=100):DrP ⟨o,p,c⟩:=⟨h,k⟩
theorem zYt{s:zE}{x:SPr}(hs:Src s)(hx:sJ x):Ans (zZv s x) fun r=>DrP r.1/\Src r.2:=by
 have h6:=hx.n6;have ho:=hx.drp.o;have h7:=hx.drp.n;have fP:=hx.pl;have gy:=hx.cl;unfold zZv;rw[yE1 hx,bs];refine .bd (yV hs) fun r hr=>.cd (fun _=>?_) fun _=>.cd (fun _=>.cd (fun hl=>.bd (zBz hr.1 (by simp) (by simp)) fun r1 gK=>?_) fun _=>.rt ⟨hx.drp,hr.1⟩) fun _=>.cd (fun _=>.cd (fun hl=>?_) fun _=>.rt ⟨hx.drp,hr.1⟩) fun _=>
  .cd (fun _=>.cd (fun hl=>?_) fun _=>.rt ⟨hx.drp,hr.1⟩) fun _=>.cd (fun _=>.cd (fun hl=>?_) fun _=>.rt ⟨hx.drp,hr.1⟩) fun _=>?_
 ·rw[zX (by simp;omega),bs]
  refine .rt ⟨zGc (by simp;omega) fun y hy=>?_,hr.1⟩;rcases Jf.1 hy with hy|hy
  ·exact ho y hy
  ·simp at hy;omega
 ·simp only[decide_eq_true_eq]at hl
  rw[show(0:Int)=((0:Nat):Int)from rfl,yJ,bs];refine .rt ⟨zGc (by simpa using h7) fun y hy=>?_,gK.1⟩;rcases List.mem_or_eq_of_mem_set hy with hy|hy
  ·exact ho y hy
  ·have:=gK.2;simp at this;omega
 ·simp only[decide_eq_true_eq]at hl
  have:=zFj hx.toPres (show 0<x.zA.length by omega);rw[show(0:Int)=((0:Nat):Int)from rfl,zY [],bs,wZ,bs,zX (by rw[Ku];omega),bs,bs];exact .rt ⟨zGc h7 ho,hr.1⟩
 ·simp only[decide_eq_true_eq]at hl
  have:=zFj hx.toPres (show 0<x.zA.length by omega);rw[show(0:Int)=((0:Nat):Int)from rfl,zY [],bs];refine .cd (fun _=>?_) fun _=>.rt ⟨hx.drp,hr.1⟩
  rw[bs,yJ,bs];exact .rt ⟨zGc h7 ho,hr.1⟩
 ·simp only[decide_eq_true_eq]at hl
  have hc:=zGO hx.toPres (show 0<x.zA.length by omega);rw[show(0:Int)=((0:Nat):Int)from rfl,zY [],bs,zG9 (by omega) (fun j hj=>by have:=zGP hx.toPres (show 0<x.zA.length by omega) (show j+0+1<x.zA.length by omega);omega),bs,yP,bs,zX (by rw[Ku];omega),bs,bs];exact .rt ⟨zGc h7 ho,hr.1⟩
 ·rw[zAF (by simp),bs]
  refine .bd (yV hr.1) fun r1 gK=>.cd (fun _=>?_) fun _=>.rt ⟨zGc (by simp) (by simp),gK.1⟩
  rw[zAF (by simp),bs];exact .rt ⟨zGc (by simp) (by simp),gK.1⟩
theorem zRe{s:zE}{x:SPr}(hs:Src s)(hx:sJ x):Ans (zXg s x) fun r=>DrP r.1/\Src r.2:=by
 have h6:=hx.n6;have ho:=hx.drp.o;have h7:=hx.drp.n;have fP:=hx.pl;have gy:=hx.cl;unfold zXg;rw[yE1 hx,bs];refine .bd (yV hs) fun r hr=>.rg (by omega) (.rg (by omega) (.rg (by omega) (.bd (yV hr.1) fun r1 gK=>.rg (by omega) (.cd (fun _=>.rt ⟨hx.drp,gK.1⟩) fun hl=>.bd (yV gK.1) fun r2 gF=>?_))))
 simp only[decide_eq_false_iff_not]at hl;obtain⟨i,hi⟩:∃i:Nat,r.1=i:=⟨r.1.toNat,by omega⟩;obtain⟨j,hj⟩:∃j:Nat,r.1+1+r1.1=j:=⟨(r.1+1+r1.1).toNat,by omega⟩;rw[hj,hi];have ib:=(hx.os.2 j (by omega)).pos;refine .cd (fun _=>?_) fun _=>.rg (by omega) (.rg (by omega) (.rg (by omega) (.bd (yV gF.1) fun r3 eE=>.rg (by omega) ?_)))
 ·have:=zFj hx.toPres (show i<x.zA.length by omega)
  rw[zY [],bs,yJ,bs];refine .bd (yV gF.1) fun r3 eE=>?_
  rw[yJ,bs];exact .rt ⟨zGc h7 ho,eE.1⟩
 ·obtain⟨k,hk⟩:∃k:Nat,(i:Int)+1+r3.1=k:=⟨((i:Int)+1+r3.1).toNat,by omega⟩
  rw[hk];have hc:=zGO hx.toPres (show i<x.zA.length by omega);have hr:=zGP hx.toPres (show i<x.zA.length by omega) (show k-i-1+i+1<x.zA.length by omega);rw[zY [],bs];refine .rg (by omega) (.rg (by omega) ?_);rw[show(k:Int)-i-1=((k-i-1:Nat):Int)from by omega,zY [],bs,yJ,bs];refine .bd (yV eE.1) fun r4 ac=>?_
  rw[yJ,bs];exact .rt ⟨zGc h7 ho,ac.1⟩
theorem zYu{s:zE}(hs:Src s){n:Int}:Ans (zP8 s n) fun r=>DrP r.1/\Src r.2:=by unfold zP8;refine .bd (zN1 hs) fun r hr=>.bd (yV hr.2) fun r1 gK=>.cd (fun _=>.bd (zYt gK.1 hr.1) fun r2 gF=>.rt gF) fun _=>.cd (fun _=>.cd (fun _=>.bd (zRe gK.1 hr.1) fun r2 gF=>.rt gF) fun _=>.rt ⟨hr.1.drp,gK.1⟩) fun _=>.cd (fun _=>.bd (zRe gK.1 hr.1) fun r2 gF=>.rt gF) fun _=>.rt ⟨hr.1.drp,gK.1⟩
theorem DrE.drm{m:zB}(h:DrE m):DrM m:=⟨h.p,by have:=h.d;omega,by have:=h.l;omega⟩
theorem zVh{s:zE}(hs:Src s){n:Int}:Ans (zZw s n) fun r=>DrP r.1/\DrM r.2.1/\Src r.2.2:=by
 have fin:∀{s:zE}{x:SPr}{m:zB},Src s->DrP x->DrE m->Ans (
   (f_h s 30).bind fun r4=>
   cond (r4.1==0) (
    (rng (m.Dim+1)).bind fun v5=>
    iW (x,(zB.mk m.Prime v5 m.zF),r4.2)) (
    cond (r4.1==1) (
     (zFk r4.2 [2,3,4,11]).bind fun r6=>
     iW (x,(zB.mk r6.1 m.Dim m.zF),r6.2)) (
     cond (r4.1==2) (
      (f_E m.Dim).bind fun r7=>
      (yE m.zF [r7]).bind fun v8=>
      iW (x,(zB.mk m.Prime m.Dim v8),r4.2)) (
      cond (r4.1==3) (
       (zP8 r4.2 n).bind fun r9=>
       iW (r9.1,m,r9.2)) (
       cond (r4.1==4) (
        cond (decide ((m.zF.length:Int)> 0)) (
         (ixO m.zF 0).bind fun v10=>
         (ixO v10 0).bind fun v11=>
         (f_h r4.2 m.Prime).bind fun r12=>
         (ixO v11 0).bind fun _=>
         iW (x,(zB.mk m.Prime m.Dim (m.zF.set (0:Int).toNat (v10.set (0:Int).toNat (v11.set (0:Int).toNat r12.1)))),r12.2)) (
         iW (x,m,r4.2))) (
        iW (x,m,r4.2))))))) fun r=>DrP r.1/\DrM r.2.1/\Src r.2.2:=fun{s x m} hs hx hm=>by
  have hp:=hm.p;have hd:=hm.d;have hl:=hm.l;refine .bd (yV hs) fun r hr=>.cd (fun _=>.rg (by omega) (.rt ⟨hx,⟨hp,by simp only;omega,by simp only;omega⟩,hr.1⟩)) fun _=>.cd (fun _=>.bd (zBz hr.1 (by simp) (by simp)) fun r1 gK=>.rt ⟨hx,⟨by have:=gK.2;simp at this;simp only;omega,by simp only;omega,by simp only;omega⟩,gK.1⟩) fun _=>
   .cd (fun _=>?_) fun _=>.cd (fun _=>.bd (zYu hr.1) fun r1 gK=>.rt ⟨gK.1,hm.drm,gK.2⟩) fun _=>.cd (fun _=>.cd (fun hl=>?_) fun _=>.rt ⟨hx,hm.drm,hr.1⟩) fun _=>.rt ⟨hx,hm.drm,hr.1⟩
  ·obtain⟨D,hD⟩:∃D:Nat,m.Dim=(D:Int):=⟨m.Dim.toNat,by omega⟩
   rw[hD,yAv,bs,zX (by simp;omega),bs];exact .rt ⟨hx,⟨hp,by simp only;omega,by simp;omega⟩,hr.1⟩
  ·simp only[decide_eq_true_eq]at hl
   have h0:=hm.a (m.zF.getD 0 []) (zFi);have h1:0<(m.zF.getD 0 []).length:=by
    rcases Jb7 (m.zF.getD 0 []).length with e|e
    ·exact absurd (by rw[List.length_eq_zero_iff.1 e];rfl) h0
    ·exact e
   rw[show(0:Int)=((0:Nat):Int)from rfl,zY [],bs,zY [],bs];refine .bd (yV hr.1) fun r1 gK=>?_
   rw[yJ,bs];exact .rt ⟨hx,⟨hp,by simp only;omega,by simp;omega⟩,gK.1⟩
 unfold zZw;refine .bd (zN1 hs) fun r hr=>.bd (zVe hr.2 hr.1) fun r1 gK=>.cd (fun e=>.bd (yV gK.1) fun r2 gF=>.cd (fun _=>fin gF.1 (gK.2 e).1 (gK.2 e).2) fun _=>.bd (zRd gF.1 hr.1.drp) fun r3 eE=>fin eE.1 hr.1.drp eE.2) fun _=>.bd (zRd gK.1 hr.1.drp) fun r3 eE=>fin eE.1 hr.1.drp eE.2
abbrev VU(n:Int):Prop:=(Lit.int .u8 n).wf=iZ
theorem vu{c:List Int}(h:VL VU c)(i:Nat)(hi:i<c.length):0<=c[i]/\c[i]<=255:=by have:=h.2 c[i] (K3 hi);simp only[VU,Lit.wf,J3,IntKind.min,IntKind.max,IntKind.signed,IntKind.bits]at this;simpa using this
theorem yBY{c:List Int}:zYO c=iW (decide ((c.length:Int)> 4096)):=rfl
theorem zVi{α:Type}{c:List Int}{P:α->Prop}{o:Option α}{k:α->Option Bool}(hb:∀i(h:i<c.length),0<=c[i]/\c[i]<=255)(ho:(∀s,Src s->zSD c=iW s->Ans o P))(hk:∀r,P r->k r=iW iZ):
  ((zYO c).bind fun r1=>cond r1 (iW iZ) (o.bind k))=iW iZ:=by
 rw[yBY,bs]
 by_cases h:(c.length:Int)> 4096
 ·rw[jc h,zK]
 ·rw[jb h,zM]
  obtain⟨s,h1,h2⟩:=zYn hb;obtain⟨r,h3,h4⟩:=ho s h2 h1;rw[h3,bs];exact hk r h4
theorem zN2{a b:List Int}(h:a.length<=1000000):zZ0 a b=iW (a==b):=zG3 h
theorem zN3{A B:Mx}(hA:A.length<=1000000)(h:∀r∈A,r.length<=1000000):zLP A B=iW (A==B):=
 zQw (t:=zZ0) (body:=zXl A B) rfl (fun _=>rfl) (by omega) (by grind[zN2])
structure IsM (x:SPr) (m:zB) (D:Nat):Prop where
 gr:zBB x
 ok:MOk x.zA.length m D
 rel:zC3 x m D
section
variable {x:SPr}{m:zB}{D:Nat} (h:IsM x m D)
 include h
theorem IsM.sp:zN9 x m=iW iZ:=by
 have h6:=h.gr.1.os.1;rcases zCf (x:=x) (m:=m)with⟨e,_⟩|⟨_,k⟩
 ·exact e
 ·exact absurd ⟨h.gr,D,h.ok,h.rel⟩ k
end
theorem zRf{s:zE}{m:zB}(hs:Src s)(hm:DrM m):Ans (zSJ s m) fun r=>Src r.2/\r.1.length<=100/\r.1.length≠0:=by
 have hd:=hm.d;have hp:=hm.p;unfold zSJ;refine .bd (P:=fun t=>Src ⟨t.1,t.2.1,t.2.2.1⟩/\t.2.2.2.length<=10/\t.2.2.2.length≠0) (.lp (fun i t=>t.2.2.2.2=i/\Src ⟨t.1,t.2.1,t.2.2.1⟩/\t.2.2.2.1.length=i) m.Dim.toNat ⟨rfl,hs,rfl⟩ fun i t hi ht=>?_) fun t ht=>.bd (yV ht.1) fun r hr=>.cd (fun _=>?_) fun _=>.rt ⟨hr.1,by simp only;omega,ht.2.2⟩
 ·unfold zXh
  refine .cd (fun hl=>.bd (yV ht.2.1) fun r hr=>?_) fun hl=>.rt ⟨ht.2.1,by simp only;omega,by simp only[decide_eq_false_iff_not]at hl;simp only;omega⟩
  simp only[decide_eq_true_eq]at hl;rw[zX (by simp;omega),bs];exact .rg (by omega) (.rt ⟨by omega,by simp only;omega,hr.1,by simp[ht.2.2]⟩)
 ·rw[zX (by simp;omega),bs]
  exact .rt ⟨hr.1,by simp;omega,by simp⟩
theorem zGQ{x:SPr}{m:zB}(hx:DrP x)(hm:DrM m):(∃D,IsM x m D)\/(zN9 x m=iW ja/\f_Q x m=iW ja):=by
 have hn:=hx.n;have hl:=hm.l;rcases(zCf (x:=x) (m:=m)).both (zEE)with⟨_,_,c,D,hD,hr⟩|⟨s1,i1,_⟩
 ·exact .inl ⟨D,c,hD,hr⟩
 ·exact .inr ⟨s1,i1⟩
theorem zVj{x:SPr}(hx:DrP x):∃k:Nat,zLK x=iW (k:Int)/\k<=28:=by
 have hn:=hx.n;have key:∀n:Nat,n<8->((rng ((n:Int)-1)).bind fun v1=>(rng ((n:Int)*v1)).bind fun v2=>(xV v2 2).bind fun v3=>(rng ((n:Int)+v3)).bind fun v4=>iW v4)=iW (((n*(n+1)/2:Nat)):Int)/\n*(n+1)/2<=28:=by decide+kernel
 exact⟨_,(key x.zA.length (by omega)).1,(key x.zA.length (by omega)).2⟩
theorem zVk{s:zE}(hs:Src s):Ans (zZx s) fun r=>DrP r.1/\DrM r.2.1/\Src r.2.2:=by
 unfold zZx;refine .bd (zBz hs (by simp) (by simp)) fun r0 df=>.bd (zVh df.1) fun r hr=>.bd (yV hr.2.2) fun r1 gK=>.cd (fun _=>.cd (fun _=>.cd (fun _=>?_) fun _=>.rt ⟨hr.1,hr.2.1,gK.1⟩) fun _=>.rt ⟨hr.1,hr.2.1,gK.1⟩) fun _=>.rt ⟨hr.1,hr.2.1,gK.1⟩
 have hn:=hr.1.n;rw[show(1:Int)=((1:Nat):Int)from rfl,zVc,bs];exact .rt ⟨hr.1,⟨hr.2.1.p,by simp only;omega,by simp only[xI];omega⟩,gK.1⟩
theorem zRg{s:zE}{x:SPr}{m:zB}{D:Nat}(hs:Src s)(h:IsM x m D):Ans (zXj s x m) fun r=>Src r.2/\VOk (base x.zA.length x.zA.length) m.Prime D r.1:=by
 have h3:=h.ok.d3;have h1:=h.ok.d1;have h6:=h.gr.2.2.n6;have h7:=h.ok.p.pos;have eO:=xY x.zA.length (by omega);have hbD:base x.zA.length x.zA.length*D<=21*3:=Jp eO.2.1 h3;obtain⟨K,pk,k1,_,k3⟩:=zJ6 h.gr.2.2 h.ok h.gr.2.1 h.rel;have hK:=k3.len_le;unfold zXj;rw[zCV rfl h6,bs,h.ok.d,show((base x.zA.length x.zA.length:Nat):Int)*(D:Int)=((base x.zA.length x.zA.length*D:Nat):Int)from by simp,zG,bs,yP,bs,k1,bs];refine .bd (P:=fun t=>Src ⟨t.1,t.2.1,t.2.2.1⟩/\Row m.Prime (base x.zA.length x.zA.length*D) t.2.2.2) (.lp (fun i t=>t.2.2.2.2=i/\Src ⟨t.1,t.2.1,t.2.2.1⟩/\Row m.Prime (base x.zA.length x.zA.length*D) t.2.2.2.1) K.length ⟨rfl,hs,zBD⟩ fun i t hi ht=>?_) fun t ht=>?_
 ·unfold zXi
  rw[ht.1];refine .cd (fun hl=>.bd (yV ht.2.1) fun v hv=>?_) fun hl=>.rt ⟨ht.2.1,ht.2.2⟩
  simp only[decide_eq_true_eq]at hl;rw[zY [],bs,vJ h.ok.p ht.2.2 (k3.row i (by omega)) (by omega) (by omega),bs];exact .rg (by omega) (.rt ⟨by omega,by simp only;omega,hv.1,uC h.ok.p⟩)
 ·rw[zC6 h1 (by omega) ht.2.1,bs]
  exact .rt ⟨ht.1,zIS ht.2⟩
theorem zVl{s:zE}(hs:Src s):Ans (zZy s) fun r=>DrP r.1/\DrM r.2.1/\(r.2.2.1.length<=1000/\ ∀v∈r.2.2.1,v.length≠0/\v.length<=1000)/\Src r.2.2.2:=by
 unfold zZy;refine .bd (zVk hs) fun r hr=>?_
 obtain⟨x,m,t⟩:=r;obtain⟨hx,hm,ht⟩:=hr;simp only at hx hm ht;have hn:=hx.n;obtain⟨k,hk,fd⟩:=zVj hx;have any:∀{s:zE},Src s->Ans (zH (zRy (x,m,t)) (s.code,s.at_,s.seed,[],0)) fun u=>Src ⟨u.1,u.2.1,u.2.2.1⟩/\u.2.2.2.length<=100/\ ∀v∈u.2.2.2,v.length≠0/\v.length<=1000:=fun hs=>by
  refine .lp (fun i u=>u.2.2.2.2=i/\Src ⟨u.1,u.2.1,u.2.2.1⟩/\u.2.2.2.1.length=i/\ ∀v∈u.2.2.2.1,v.length≠0/\v.length<=1000) k ⟨rfl,hs,rfl,by simp⟩ fun i u hi hu=>?_
  unfold zRy;rw[hk,bs];refine .cd (fun hl=>.bd (zRf hu.2.1 hm) fun v hv=>?_) fun hl=>.rt ⟨hu.2.1,by simp only;omega,hu.2.2.2⟩
  simp only[decide_eq_true_eq]at hl;rw[zX (by simp;omega),bs];refine .rg (by omega) (.rt ⟨by omega,by simp only;omega,hv.1,by simp[hu.2.2.1],fun w hw=>?_⟩);rcases Jf.1 hw with hw|hw
  ·exact hu.2.2.2 w hw
  ·rw[List.mem_singleton.1 hw];exact⟨hv.2.2,by omega⟩
 rcases zGQ hx hm with⟨D,h⟩|⟨s1,_⟩
 ·have h3:=h.ok.d3
  have h1:=h.ok.d1;have h7:=h.ok.p.pos;have h6:=h.gr.2.2.n6;have eO:=xY x.zA.length (by omega);rw[h.sp,bs,Jq,zM];refine .bd (yV ht) fun r hr=>.cd (fun _=>.bd (any hr.1) fun u hu=>.rt ⟨hx,hm,⟨by simp only;omega,hu.2.2⟩,hu.1⟩) fun _=>.bd (yV hr.1) fun r1 gK=>.cd (fun _=>?_) fun _=>.bd (zRg gK.1 h) fun v hv=>.bd (yV hv.1) fun r2 gF=>.cd (fun _=>?_) fun _=>.rt ⟨hx,hm,⟨by have:v.1.length=base x.zA.length x.zA.length:=hv.2.1;simp only;omega,fun w hw=>?_⟩,gF.1⟩
  ·refine .bd (P:=fun u=>Src ⟨u.1,u.2.1,u.2.2.1⟩/\VOk x.zA.length m.Prime D u.2.2.2) (.lp (fun i u=>u.2.2.2.2=i/\Src ⟨u.1,u.2.1,u.2.2.1⟩/\i<=x.zA.length/\VOk i m.Prime D u.2.2.2.1) x.zA.length ⟨rfl,gK.1,by omega,rfl,fun i hi=>by omega⟩ fun i u hi hu=>?_) fun u hu=>?_
   ·unfold zXk
    refine .cd (fun hl=>.bd (zRf hu.2.1 hm) fun v hv=>?_) fun hl=>.rt ⟨hu.2.1,?_⟩
    ·simp only[decide_eq_true_eq]at hl
     have eQ:=hu.2.2.2.1;have snoc:∀{w:List Int},Row m.Prime D w->VOk (i+1) m.Prime D (u.2.2.2.1++[w]):=fun{w} hw=>⟨by simp[eQ],fun j hj=>by
      by_cases e:j<i
      ·rw[show(u.2.2.2.1++[w]).getD j []=u.2.2.2.1.getD j []from by grind];exact hu.2.2.2.2 j e
      ·rw[show(u.2.2.2.1++[w]).getD j []=w from by grind];exact hw⟩
     simp only[h.ok.d];rcases zDK (r:=v.1) (D:=D) h.ok.p with⟨e,hR⟩|⟨e,_⟩
     ·rw[e,bs,Jq,zM,zX (by rw[Ku];omega),bs]
      exact .rg (by omega) (.rt ⟨by omega,by simp only;omega,hv.1,by omega,snoc hR⟩)
     ·rw[e,bs,Kb,zK,yP,bs,zX (by rw[Ku];omega),bs]
      exact .rg (by omega) (.rt ⟨by omega,by simp only;omega,hv.1,by omega,snoc (zBD)⟩)
    ·simp only[decide_eq_false_iff_not]at hl
     rw[show x.zA.length=i from by omega];exact hu.2.2.2
   ·have:=zHC h.gr.1 h.ok hu.2
    rw[zEZ h.gr.1 h.ok hu.2,bs];refine .rt ⟨hx,hm,⟨by simp only[Jg];omega,fun w hw=>?_⟩,hu.1⟩;obtain⟨q,_,rfl⟩:=Jn.1 hw;have:=yFn h.gr.1 h.ok hu.2 (q:=q);omega
  ·have cD:v.1.length=base x.zA.length x.zA.length:=hv.2.1
   simp only[h.ok.d];rw[yP,bs,zX (by rw[Ku];omega),bs];refine .rt ⟨hx,hm,⟨by simp only[J7,Ku];omega,fun w hw=>?_⟩,gF.1⟩;rcases Jf.1 hw with hw|hw
   ·obtain⟨i,hi,rfl⟩:=Jz.1 hw
    have hi:i<v.1.length:=hi;have:(v.1.getD i []).length=D:=(hv.2.2 i (by simp only;omega)).1;rw[show v.1.getD i []=v.1[i]from by grind]at this;omega
   ·rw[List.mem_singleton.1 hw,Ja];omega
  ·have cD:v.1.length=base x.zA.length x.zA.length:=hv.2.1
   obtain⟨i,hi,rfl⟩:=Jz.1 hw;have hi:i<v.1.length:=hi;have:(v.1.getD i []).length=D:=(hv.2.2 i (by simp only;omega)).1;rw[show v.1.getD i []=v.1[i]from by grind]at this;change v.1[i].length≠0/\v.1[i].length<=1000;omega
 ·rw[s1,bs,Kb,zK]
  exact .bd (any ht) fun u hu=>.rt ⟨hx,hm,⟨by simp only;omega,hu.2.2⟩,hu.1⟩
theorem zDV{α:Type}{l:List α}{x d:α}(h:x∈l):∃i,i<l.length/\l.getD i d=x:=by obtain⟨i,hi,rfl⟩:=Jz.1 h;exact⟨i,hi,by grind⟩
section
variable {x:SPr}{m:zB}{D:Nat} (h:IsM x m D)
 include h
theorem IsM.spres:yAd x:=by
 have h6:=h.gr.1.os.1;have fP:=h.gr.1.pl;have gy:=h.gr.1.cl;refine⟨by simp only[S1,c1];omega,?_,?_⟩
 ·have:=zKt (c:=c1) (b:=14) (xs:=x.zJ) fun y hy=>by
   obtain⟨i,hi,rfl⟩:=zDV (d:=[]) hy;have:=zFj h.gr.1 (show i<x.zA.length by omega);simp only[c1];omega
  have:x.zJ.length*14<=14*14:=Jw 14 (by omega);simp only[S2,c2];omega
 ·have:=zKt (c:=c2) (b:=300) (xs:=x.zC) fun y hy=>by
   obtain⟨i,hi,rfl⟩:=zDV (d:=[]) hy;have ex:i<x.zA.length:=by omega
   have hl:=zGO h.gr.1 ex;have:=zKt (c:=c1) (b:=14) (xs:=x.zC.getD i []) fun z hz=>by obtain⟨j,hj,rfl⟩:=zDV (d:=[]) hz;have:=zGP h.gr.1 ex (show j+i+1<x.zA.length by omega);simp only[c1];omega
   have:(x.zC.getD i []).length*14<=14*14:=Jw 14 (by omega);simp only[c2];omega
  have:x.zC.length*300<=14*300:=Jw 300 (by omega);simp only[S3,c3];omega
theorem IsM.smod:yBw m:=by
 have h6:=h.gr.1.os.1;have h3:=h.ok.d3;have hl:=h.ok.len;have:=zKt (c:=c2) (b:=100) (xs:=m.zF) fun y hy=>by
  obtain⟨i,hi,rfl⟩:=zDV (d:=[]) hy;have hA:=h.ok.mat i (by omega);have fN:=hA.1;have:=zKt (c:=c1) (b:=3) (xs:=m.zF.getD i []) fun z hz=>by obtain⟨j,hj,rfl⟩:=zDV (d:=[]) hz;have:=(hA.2 j (by omega)).1;simp only[c1];omega
  simp only[c2];omega
 have:m.zF.length*100<=14*100:=Jw 100 (by omega);simp only[yBw,S3,c3];omega
end
theorem zDW{p:Int}(hp:Prime p){n:Nat}(hn:n<=100000){R:Mx}{pv:Nat->Nat}(h:Red p n R pv){v:List Int}(hv:Row p n v):Sp p n R (mkv n fun j=>at0 (cl p n R pv v R.length) j-at0 v j):=by
 obtain⟨cf,fe⟩:=zLo hp hn h hv R.length (Je _);refine⟨cf,fun j hj=>?_⟩;rw[zT hj,Uq,fe j hj,<-Uq]
 congr 1
 omega
section
variable {p:Int}{D:Nat}
theorem zYv{u v:List Int}:wQ p D u (-1) v=adv p D u (mkv D fun j=>(-1*at0 v j)%p):=by unfold wQ;exact zV fun j hj=>by rw[zT hj,Jal]
end
section
variable {x:SPr}{m:zB}{D:Nat}
theorem zRh{p:Int}(hp:Prime p){n:Nat}(hn:n<=100000){R:Mx}{pv:Nat->Nat}(h:Red p n R pv){v w:List Int}(hv:Row p n v)(hw:Row p n w)(hs:Sp p n R (mkv n fun j=>at0 w j-at0 v j)):cl p n R pv w R.length=cl p n R pv v R.length:=by
 have h7:=hp.pos;have ha:=zAy hp hn h hw R.length;have hb:=zAy hp hn h hv R.length;have za:=zLn hp hn h hw R.length (Je _);have zb:=zLn hp hn h hv R.length (Je _);have da:=zDW hp hn h hw;have db:=zDW hp hn h hv
 generalize cl p n R pv w R.length=a at*
 generalize cl p n R pv v R.length=b at*
 have d1:Sp p n R (mkv n fun j=>(at0 a j-at0 w j)-(at0 b j-at0 v j)):=tN (k:=-1) da db fun j hj=>by rw[zT hj,zT hj,zT hj];congr 1;omega
 have d2:Sp p n R (mkv n fun j=>at0 a j-at0 b j):=tN (k:=1) d1 hs fun j hj=>by rw[zT hj,zT hj,zT hj];congr 1;omega
 have hx:=h.expand d2;rw[wI ha.1,wI hb.1];refine zV fun j hj=>?_
 have e:=hx j hj;rw[xK (g:=fun _=>0) (fun i hi=>by rw[zT (h.lt i hi),za i hi,zb i hi];simp),tZ,zT hj,Jb8]at e;have e2:=Int.emod_eq_emod_iff_emod_sub_eq_zero.2 e;rw[tM (ha.2 j hj),tM (hb.2 j hj)]at e2;exact e2
end
theorem VOk.like{n D:Nat}{p:Int}{U:Mx}(h:VOk n p D U)(hn:n<=100)(hD:D<=100){W:Mx}:zLP U W=iW (U==W):=by
 refine zN3 (by have:=h.1;omega) fun r hr=>?_
 obtain⟨i,hi,rfl⟩:=Jz.1 hr;have:=(h.2 i (by have:=h.1;omega)).1;rw[J2,J5 hi,Gp]at this;omega
theorem VOk.at_flat{n D:Nat}{p:Int}{U:Mx}(h:VOk n p D U){g j:Nat}(hg:g<n)(hj:j<D):at0 U.flatten (g*D+j)=at0 (U.getD g []) j:=by
 have hl:=h.1;have:=zNe (F:=fun v:List Int=>v) hj U g (U.getD g []) (fun v hv=>by
  obtain⟨i,hi,rfl⟩:=Jz.1 hv;have:=(h.2 i (by omega)).1;rw[J2,J5 hi,Gp]at this;exact this) (by
  rw[J2,J5 (by omega),Gp])
 simpa using this
abbrev rl(x:SPr)(r:Nat):Rl:=(xL x).getD r ([],[])
theorem zVm{x:SPr}(h:Pres x)(h6:x.zA.length<=6):∀{w:List Nat}{r:Nat}{s w1:List Nat},(∀a∈w,a<x.zA.length)->stS x w=iW (r,s,w1)-> ∃pre,w=pre++((rl x r).1++s)/\w1=pre++((rl x r).2++s)/\(rl x r).1≠[]
 | [],_,_,_,_,hs=>by cases hs
 |a::w,r,s,w1,hw,hs=>by
  have ha:=hw a (by simp);simp only[stS]at hs;cases hh:hdS x (a::w)with
  |some q=>
   rw[hh]at hs;obtain rfl:=Kt.inj hs;refine⟨[],?_⟩;unfold hdS at hh;cases fT:swp x (a::w)with
   |some q'=>
    rw[fT]at hh;obtain rfl:=Kt.inj hh;cases w with
    |nil=>cases fT
    |cons b w=>
     have hb:=hw b (by simp);simp only[swp]at fT
     by_cases g:b<a
     ·rw[if_pos g]at fT
      cases fT;rw[rl,zVa h h6 hb];have e:b+(a-(b+1))+1=a:=by omega
      simp only[r2,e];exact⟨rfl,rfl,by simp⟩
     ·rw[if_neg g]at fT;cases fT
   |none=>
    rw[fT]at hh;simp only[pws]at hh
    by_cases g:(a::w).take (yG x a)=J1 (yG x a) a
    ·rw[if_pos g]at hh
     cases hh;rw[rl,zUZ ha];simp only[r1];refine⟨?_,rfl,?_⟩
     ·have:=List.take_append_drop (yG x a) (a::w)
      rw[g]at this;exact this.symm
     ·have:=zJi h ha
      intro e;have:=congrArg Jad e;rw[Ja]at this;have e2:(yG x a)=0:=this;omega
    ·rw[if_neg g]at hh;cases hh
  |none=>
   rw[hh]at hs;cases ht:stS x w with
   |none=>rw[ht]at hs;cases hs
   |some q=>
    rw[ht]at hs;obtain⟨r',s',w'⟩:=q;have e:=Kt.inj hs;simp only[Ja3.injEq]at e;obtain⟨rfl,rfl,rfl⟩:=e;obtain⟨pre,p1,p2,p3⟩:=zVm h h6 (fun b hb=>hw b (by simp[hb])) ht;exact⟨a::pre,by rw[p1];rfl,by rw[p2];rfl,p3⟩
section
variable {x:SPr}{m:zB}{D:Nat}{vals:Mx} (h:IsM x m D) (hV:VOk x.zA.length m.Prime D vals)
 include h hV
theorem zGR:∀(ws:List Nat){u:List Int},(∀w∈ws,w<x.zA.length)->Row m.Prime D u->ev m D vals u ws=adv m.Prime D (xG m.Prime D u (wM m.Prime D m.zF ws (idM D))) (ev m D vals (z0 D) ws)
 | [],u,_,hu=>by have h7:=h.ok.p.pos;show u=adv m.Prime D (xG m.Prime D u (idM D)) (z0 D);rw[jN hu];exact(zAz hu).symm
 |w::ws,u,hw,hu=>by
  have h7:=h.ok.p.pos;have hw0:=hw w (by simp);have aX:∀a∈ws,a<x.zA.length:=fun a ha=>hw a (by simp[ha])
  have hA:=h.ok.mat w hw0;have hd:=hV.2 w hw0;have st:∀a:List Int,stp m D vals a w=adv m.Prime D (xG m.Prime D a (m.zF.getD w [])) (vals.getD w []):=fun a=>by unfold stp wQ;exact zV fun j _=>by rw[Qm]
  have e0:stp m D vals (z0 D) w=vals.getD w []:=by rw[st,show xG m.Prime D (z0 D) (m.zF.getD w [])=z0 D from kF];exact wW hd
  show ev m D vals (stp m D vals u w) ws=adv _ _ _ (ev m D vals (stp m D vals (z0 D) w) ws);have e1:wM m.Prime D m.zF (w::ws) (idM D)=PM m.Prime D (m.zF.getD w []) (wM m.Prime D m.zF ws (idM D)):=by have:=zU9 (p:=m.Prime) (D:=D) (A:=m.zF) (u:=[w]) (v:=ws) h7.1;rw[show wM m.Prime D m.zF [w] (idM D)=m.zF.getD w []from zBU hA]at this;exact this
  rw[e0,zGR ws aX (by rw[st];exact sU),zGR ws aX hd,st,zBG,e1,zEt hA.1,tP]
theorem zRi{lhs rhs s:List Nat}{u:List Int}(hu:Row m.Prime D u)(hl:∀w∈lhs,w<x.zA.length)(hr:∀w∈rhs,w<x.zA.length)(hs:∀w∈s,w<x.zA.length)(hM:wM m.Prime D m.zF lhs (idM D)=wM m.Prime D m.zF rhs (idM D)):
  ev m D vals u (lhs++s)=adv m.Prime D (xG m.Prime D (wQ m.Prime D (ev m D vals (z0 D) lhs) (-1) (ev m D vals (z0 D) rhs)) (wM m.Prime D m.zF s (idM D))) (ev m D vals u (rhs++s)):=by
 have h7:=h.ok.p.pos;have h6:=h.gr.1.os.1;have hz:=zBD (p:=m.Prime) (D:=D);have gX:∀ws,Row m.Prime D (ev m D vals u ws):=fun ws=>zAu h.ok h6 hV hu ws
 have hb:Row m.Prime D (ev m D vals (z0 D) rhs):=zAu h.ok h6 hV hz rhs;rw[kQ,kQ,zGR h hV s hs (gX lhs),zGR h hV s hs (gX rhs),zGR h hV lhs hl hu,zGR h hV rhs hr hu,hM,zYv]
 generalize ht:(mkv D fun j=>(-1*at0 (ev m D vals (z0 D) rhs) j)%m.Prime)=t
 generalize ev m D vals (z0 D) lhs=a
 generalize ev m D vals (z0 D) rhs=b at*
 generalize xG m.Prime D u (wM m.Prime D m.zF rhs (idM D))=c
 generalize wM m.Prime D m.zF s (idM D)=S
 have lc:∀a b c:List Int,adv m.Prime D a (adv m.Prime D b c)=adv m.Prime D b (adv m.Prime D a c):=fun a b c=>by rw[<-tP,uD (u:=a),tP]
 have e0:adv m.Prime D t b=zeros D:=by
  rw[<-ht];unfold adv zeros;rw[uB];exact zV fun j hj=>by rw[zT hj,Jak,show -1*at0 b j+at0 b j=0 by omega,Jb8]
 have e1:adv m.Prime D (xG m.Prime D t S) (adv m.Prime D (xG m.Prime D b S) (ev m D vals (z0 D) s))=ev m D vals (z0 D) s:=by rw[<-tP,<-zBG,e0,kF,wW (zAu h.ok h6 hV hz s)]
 simp only[zBG,tP];rw[lc (xG m.Prime D t S),e1,lc]
abbrev cob(x:SPr)(m:zB)(D:Nat)(vals:Mx):Mx:=(xL x).map (dfc m D vals)
theorem yBZ(h6:x.zA.length<=6){k:Nat}{w w':List Nat}{tr:List (Nat×List Nat)}(hc:Col x k w tr w'):adv m.Prime D (tv m.Prime D m (cob x m D vals) tr) (ev m D vals (z0 D) w')=ev m D vals (z0 D) w:=by
 have h7:=h.ok.p.pos;have dB:=h.gr.1.os.1;have hz:=zBD (p:=m.Prime) (D:=D)
 induction hc with
 |refl w=>exact wW (zAu h.ok dB hV hz w)
 | @step w w1 w' s r tr hw hs _ ih=>
  obtain⟨pre,p1,p2,p3⟩:=zVm h.gr.1 h6 (fun a ha=>(hw a ha).2) hs;have ft:r<(xL x).length:=by
   refine Classical.byContradiction fun g=>p3 ?_
   rw[rl,J2,La (by omega)];rfl
  have gu:rl x r∈xL x:=by rw[rl,J2,J5 ft];exact K3 ft
  obtain⟨⟨g1,_⟩,g2,_⟩:=zEn h.gr.1 gu;have hT:(cob x m D vals).getD r []=dfc m D vals (rl x r):=by rw[rl,cob,J2,Jx,J2,J5 ft];rfl
  show adv _ _ (adv _ _ (xG _ _ ((cob x m D vals).getD r []) _) (tv _ _ _ _ tr)) _=_;rw[tP,ih,hT,p1,p2];rw[kQ (a:=pre),kQ (a:=pre)];have aX:∀a∈s,a<x.zA.length:=fun a ha=>(hw a (by rw[p1];simp[ha])).2
  exact(zRi h hV (zAu h.ok dB hV hz pre) g1 g2 aX ((zFB h.gr.1 h.ok).2 h.rel _ gu)).symm
 omit hV in
theorem zGS(h6:x.zA.length<=6):sC x m D (cob x m D vals):=by refine⟨by rw[cob,Jg,zDP h.gr.1 h6],fun i hi=>?_⟩;rw[cob,J2,Jx];rw[cob,Jg]at hi;rw[J5 hi];exact uC h.ok.p
theorem zVn:xU (suf (exx D x m (cob x m D vals)) 0):=by
 have gH:=h.gr.2.2;have h6:=gH.n6;have ht:=zGS h (vals:=vals) h6;have hE:=(zRY gH h.ok ht).b h.ok;have hx:=h.gr.1;have cK:∀k,k<x.zA.length->LC x k:=fun k hk=>((qZ hx.w hk).1 (zAt h.gr.2.1 k)).2
 have same:∀{k r1 r2:Nat}{s1 s2 w1 w2 pre:List Nat}{t1 t2:List (Nat×List Nat)}{y1 y2:Vec},r1<(xL x).length->r2<(xL x).length->(∀a∈s1,a<x.zA.length)->(∀a∈s2,a<x.zA.length)->(∀a∈pre,a<x.zA.length)->y1=y2->sD x k w1 t1 y1->sD x k w2 t2 y2->w1=(rl x r1).2++s1->w2=pre++((rl x r2).2++s2)->(rl x r1).1++s1=pre++((rl x r2).1++s2)->tv m.Prime D m (cob x m D vals) ((r1,s1)::t1)=tv m.Prime D m (cob x m D vals) ((r2,s2)::t2):=by
  intro k r1 r2 s1 s2 w1 w2 pre t1 t2 y1 y2 gK gF pe pd fW hy c1 c2 e1 e2 e3;have h7:=h.ok.p.pos;have dB:=h.gr.1.os.1;have hz:=zBD (p:=m.Prime) (D:=D);have one:∀{r:Nat}{s:List Nat}{w pre:List Nat}{t:List (Nat×List Nat)}{y:Vec},r<(xL x).length->(∀a∈s,a<x.zA.length)->(∀a∈pre,a<x.zA.length)->sD x k w t y->w=pre++((rl x r).2++s)->adv m.Prime D (tv m.Prime D m (cob x m D vals) ((r,s)::t)) (ev m D vals (z0 D) (nw k y))=ev m D vals (z0 D) (pre++((rl x r).1++s)):=by
   intro r s w pre t y ft hs fW c e;have gu:rl x r∈xL x:=by rw[rl,J2,J5 ft];exact K3 ft
   obtain⟨⟨g1,_⟩,g2,_⟩:=zEn h.gr.1 gu;have hT:(cob x m D vals).getD r []=dfc m D vals (rl x r):=by rw[rl,cob,J2,Jx,J2,J5 ft];rfl
   show adv _ _ (adv _ _ (xG _ _ ((cob x m D vals).getD r []) _) (tv _ _ _ _ t)) _=_;rw[tP,yBZ h hV h6 c.col,hT,e,kQ,kQ (a:=pre)];exact(zRi h hV (zAu h.ok dB hV hz pre) g1 g2 hs ((zFB h.gr.1 h.ok).2 h.rel _ gu)).symm
  have a1:=one gK pe (pre:=[]) (by simp) c1 e1;have a2:=one gF pd fW c2 e2;rw[Jv,e3,<-a2,<-hy,uD,uD (v:=ev m D vals (z0 D) (nw k y1))]at a1;exact(zQF (zGJ h7.1 _) (zGJ h7.1 _)).1 a1
 have hl:=zDP hx h6;have rc:∀{b a:Nat},b<a->a<x.zA.length->rl x (base x.zA.length b+(a-(b+1)))=([a,b],b::nw 0 (lcj x b a))/\base x.zA.length b+(a-(b+1))<(xL x).length:=fun{b a} hb ha=>by
  have e:=zVa hx h6 (b:=b) (j:=a-(b+1));have e2:b+(a-(b+1))+1=a:=by omega
  simp only[r2,e2]at e;refine⟨e,Classical.byContradiction fun g=>?_⟩;rw[J2,La (by omega)]at e;cases e
 have rp:∀{a:Nat},a<x.zA.length->rl x a=(J1 (yG x a) a,nw 0 (x.zJ.getD a []))/\a<(xL x).length:=fun{a} ha=>by refine⟨zUZ ha,?_⟩;rw[xL,J7,Jg,L8];omega
 have snoc:∀{a n:Nat},0<n->J1 n a=J1 (n-1) a++[a]:=fun{a n} hn=>by obtain⟨k,rfl⟩:∃k,n=k+1:=⟨n-1,by omega⟩;rw[Hy];exact Kz
 have pG:=xW hx hE ht.2;have key:∀(d k:Nat),k+d=x.zA.length->xU (suf (exx D x m (cob x m D vals)) k):=by
  intro d
  induction d with
  |zero=>
   intro k hk;exact zDO hx hE ht.2 D k (by omega) (by omega)
  |succ d ih=>
   intro k hk;have hc:=ih (k+1) (by omega);refine(qZ (zEq hx hE ht.2) (by omega)).2 ⟨hc,zOW hx hE ht.2 h.rel (by omega) ((zGL hx hE ht.2 (by omega) (cK k (by omega)) hc).2 ⟨?_,?_,?_,?_⟩)⟩
   ·rintro j h1 h2 _ _ ⟨⟨u1,y1,rfl,k1⟩,⟨u2,y2,rfl,k2⟩⟩
    have hy:=(zUG hx hE ht.2 (by omega) hc (cK k (by omega)) (by omega) h2 k1 k2).1;obtain⟨a1,a2⟩:=rp (a:=j) h2;obtain⟨b1,b2⟩:=rc (b:=k) (a:=j) h1 h2;have:=zJi hx h2;refine same a2 b2 (by simp;omega) (by simp) (pre:=J1 (yG x j-1) j) (fun a ha=>by have:=(Qi.1 ha).2;omega) hy k1 k2 (by rw[a1]) (by rw[b1];simp) ?_;rw[a1,b1];simp only[J9];rw[snoc (by omega),Jh];rfl
   ·rintro i j h1 gR h2 _ _ ⟨⟨u1,y1,rfl,k1⟩,⟨u2,y2,rfl,k2⟩⟩
    have hy:=(zUH hx hE ht.2 (by omega) hc (cK k (by omega)) (by omega) gR h2 k1 k2).1;obtain⟨a1,a2⟩:=rc (b:=i) (a:=j) gR h2;obtain⟨b1,b2⟩:=rc (b:=k) (a:=i) h1 (by omega);refine same a2 b2 (by simp;omega) (by simp) (pre:=[j]) (by simp;omega) hy k1 k2 (by rw[a1];rfl) (by rw[b1];simp) ?_;rw[a1,b1];rfl
   ·rintro _ _ ⟨⟨u1,y1,rfl,k1⟩,⟨u2,y2,rfl,k2⟩⟩
    have hy:=(zUF hx hE ht.2 (by omega) hc (cK k (by omega)) k1 k2).1;obtain⟨a1,a2⟩:=rp (a:=k) (by omega);refine same a2 a2 (by simp;omega) (by simp) (pre:=[k]) (by simp;omega) hy k1 k2 (by rw[a1]) (by rw[a1];simp) ?_;rw[a1,J9];simp only
    rw[<-Kz];rfl
   ·rintro j h1 h2 _ _ ⟨⟨u1,y1,rfl,k1⟩,⟨u2,y2,rfl,k2⟩⟩
    have hy:=(zUJ hx hE ht.2 (by omega) hc (cK k (by omega)) (by omega) h2 k1 k2).1;obtain⟨a1,a2⟩:=rc (b:=k) (a:=j) h1 h2;obtain⟨b1,b2⟩:=rp (a:=k) (by omega);have:=zJi hx (show k<x.zA.length by omega);refine same a2 b2 (fun a ha=>by have:=(Qi.1 ha).2;omega) (by simp) (pre:=[j]) (by simp;omega) hy k1 k2 (by rw[a1];rfl) (by rw[b1];simp) ?_;rw[a1,b1,J9];simp only
    obtain⟨q,hq⟩:∃q,yG x k=q+1:=⟨yG x k-1,by omega⟩;rw[hq,Hy,Jt];rfl
 exact key x.zA.length 0 (by omega)
end
section
variable {x:SPr}{m:zB}{D:Nat} (h:IsM x m D)
 include h
 omit h in
theorem sC.vo{T:Mx}(hT:sC x m D T):VOk (base x.zA.length x.zA.length) m.Prime D T:=⟨hT.1,fun i hi=>hT.2 i (by rw[hT.1];exact hi)⟩
 omit h in
theorem VOk.ts{T:Mx}(hT:VOk (base x.zA.length x.zA.length) m.Prime D T):sC x m D T:=⟨hT.1,fun i hi=>hT.2 i (by rw[<-hT.1];exact hi)⟩
 omit h in
theorem zLF{T:Mx}(hT:sC x m D T):Tc (base x.zA.length x.zA.length) D T.flatten=T:=by
  refine zG5 xI hT.1 fun i hi=>?_
  rw[Tc,xR hi,blk,wI (hT.2 i (by rw[hT.1];exact hi)).1];exact zV fun j hj=>hT.vo.at_flat hi hj
theorem zSk:∃K:Mx,(∀y,Row m.Prime (base x.zA.length x.zA.length*D) y->(Sp m.Prime (base x.zA.length x.zA.length*D) K y↔xU (suf (exx D x m (Tc (base x.zA.length x.zA.length) D y)) 0)))/\ ∀v,Sp m.Prime (base x.zA.length x.zA.length*D) (qO x m D) v->Sp m.Prime (base x.zA.length x.zA.length*D) K v:=by
 have gH:=h.gr.2.2;have h6:=gH.n6;have mw:(qO x m D).length=x.zA.length*D:=xI
 by_cases h0:0<x.zA.length
 ·obtain⟨K,pk,_,_,k3⟩:=zDS gH h.ok h0 h.gr.2.1 h.rel
  refine⟨K,k3,fun v hv=>zAb (fun i hi=>?_) hv⟩;rw[mw]at hi;have gX:=zC8 gH h.ok hi;rw[k3 _ gX];have e:(qO x m D).getD i []=(cob x m D (uv x.zA.length D i)).flatten:=by rw[qO,zKv,xR hi]
  rw[e,zLF (zGS h h6)];exact zVn h (zNf h.gr.1 h.ok)
 ·have hn:x.zA.length=0:=by omega
  have hb:base x.zA.length x.zA.length*D=0:=by rw[hn];show 0*D=0;omega
  refine⟨[],fun y hy=>?_,fun v _=>?_⟩
  ·refine⟨fun _=>?_,fun _=>zAa fun j hj=>by omega⟩
   have hT:sC x m D (Tc (base x.zA.length x.zA.length) D y):=⟨xI,fun i hi=>by rw[Tc,xI,hn]at hi;exact absurd hi (by show¬i<0;omega)⟩;exact zDO h.gr.1 ((zRY gH h.ok hT).b h.ok) hT.2 D 0 (by omega) (by omega)
  ·exact zAa fun j hj=>by omega
theorem zSl:∃R pv,Red m.Prime (base x.zA.length x.zA.length*D) R pv/\(∀v,Sp m.Prime (base x.zA.length x.zA.length*D) R v↔Sp m.Prime (base x.zA.length x.zA.length*D) (qO x m D) v)/\ ∀v,Row m.Prime (base x.zA.length x.zA.length*D) v->
  zWv x m v=iW (zAh (base x.zA.length x.zA.length) D (cl m.Prime (base x.zA.length x.zA.length*D) R pv v R.length))/\zWx x m v=iW (zAh (base x.zA.length x.zA.length) D (cl m.Prime (base x.zA.length x.zA.length*D) R pv v R.length)):=by
 have gH:=h.gr.2.2;have h3:=h.ok.d3;obtain⟨R,pv,r1,r2,r3,r4,r5,r6⟩:=zOX gH h.ok;obtain⟨R',pv',s1,_,s3,_⟩:=zNn gH h.ok;rw[r1]at s1;obtain rfl:=Kt.inj s1;refine⟨R,pv,r4,s3,fun v hv=>?_⟩;have gy:=zAy h.ok.p (by omega) r4 hv R.length;unfold zWv zWx yCl;rw[r1,bs,zBE h.ok.p (by omega) r4 hv (by omega),bs,h.ok.d,zC6 h.ok.d1 (by omega) gy.1,bs,r2,bs,r3,bs,bs,zDL h.ok.p (by omega) r4 hv (by omega),bs,zEY h.ok.d1 gy.1,bs];exact⟨rfl,rfl⟩
theorem zGT{A B:Mx}(hA:Coc x m D A)(hB:Coc x m D B):zJD x m A B=iW 0/\ ∀L:List Mx,L.length<=1000->(∀t,t∈L↔t=A\/t=B)->f_S x m L=iW 0:=by
 have gH:=h.gr.2.2;have eO:=xY x.zA.length (by have:=gH.n6;omega);have fN:A.length<=1048576:=by have:=hA.1.1;omega
 have aU:B.length<=1048576:=by have:=hB.1.1;omega
 have one:∀{T:Mx},Coc x m D T->zPz x m T=iW iZ/\zS1 x m T=iW iZ:=fun{T} hT=>by
  have hE:=zRY gH h.ok hT.1;constructor
  ·rcases kR gH h.ok (T:=T) (by have:=hT.1.1;omega)with⟨e,_⟩|⟨_,k⟩
   ·exact e
   ·exact absurd hT.1 k
  ·rcases zLz h.gr.1 (hE.b h.ok) hT.1.2 (Mv.self h.ok) h.gr.2.1 h.rel with⟨e,_⟩|⟨_,k⟩
   ·exact e
   ·exact absurd hT.2 k
 have hs:zJD x m A B=iW 0:=by unfold zJD;simp only[h.sp,(one hA).1,(one hA).2,(one hB).1,(one hB).2,bs,Jq,zM]
 refine⟨hs,fun L hL hm=>?_⟩;obtain⟨c,e1,e2,_⟩:=zKy h.spres h.smod fN aU hL hm;rw[hs]at e1;rw[e2,<-Kt.inj e1]
theorem zRj{A B:Mx}(hA:Coc x m D A)(hB:Coc x m D B):∃ok,zS7 x m A B=iW (ok,0)/\zP4 x m A B=iW (ok,0)/\(ok=iZ↔Sp m.Prime (base x.zA.length x.zA.length*D) (qO x m D) (wQ m.Prime (base x.zA.length x.zA.length*D) A.flatten (-1) B.flatten)):=by
 have gH:=h.gr.2.2;have h7:=h.ok.p.pos;obtain⟨c1,c2⟩:=zGT h hA hB;obtain⟨a1,a2,a3⟩:=tD gH h.ok hA.1;obtain⟨b1,b2,b3⟩:=tD gH h.ok hB.1;have eW:=zQJ gH h.ok;have hv:Row m.Prime (base x.zA.length x.zA.length*D) (wQ m.Prime (base x.zA.length x.zA.length*D) A.flatten (-1) B.flatten):=uC h.ok.p;obtain⟨R,pv,r1,r2,r3,r4⟩:=zNn gH h.ok;obtain⟨u,ok,s1,s2,s3,_⟩:=zJf gH h.ok hv;have gy:=zAy h.ok.p (by omega) r2 hv R.length;have hz:=zQ8 h.ok.p (by omega) r2 hv;refine⟨ok,?_,?_,s2⟩
 ·unfold zS7 yCo
  rw[c1,bs,show((0:Int) != 0)=ja from rfl,zM,r1,bs,a2,bs,zG,bs,b2,bs,vJ h.ok.p a1 b1 (by omega) (by omega),bs,zCS,zBE h.ok.p (by omega) r2 hv (by omega),bs];rcases zAv (v:=cl m.Prime (base x.zA.length x.zA.length*D) R pv (wQ m.Prime (base x.zA.length x.zA.length*D) A.flatten (-1) B.flatten) R.length) (by rw[gy.1];omega)with⟨z1,z2⟩|⟨z1,z2⟩
  ·rw[gy.1]at z2
   have:ok=iZ:=s2.2 ((r3 _).1 (hz.1 z2));rw[z1,this];rfl
  ·rw[gy.1]at z2
   have:ok=ja:=by
    cases ok with
    |false=>rfl
    |true=>exact absurd (hz.2 ((r3 _).2 (s2.1 rfl))) z2
   rw[z1,this];rfl
 ·unfold zP4 yCp
  rw[c2 [A,B] (by simp) (fun t=>by simp),bs,show((0:Int) != 0)=ja from rfl,zM,a3,bs,b3,bs,qK h.ok.p a1 b1 (by omega) (by omega),bs,bs,s3,bs]
end
end Go.Pl
