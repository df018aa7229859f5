/- The program's CoverOf returns what the reference's returns,for all arguments;no conditions. -/
import Derived.Test.YtmoaeebpmcafpaaGreatPlB
import Derived.Test.YtmoaeebpmcafpaaGreatWF
open List renaming replicate→J0,getD_eq_getElem?_getD→J2,getElem?_eq_getElem→J3,length_append→J5,length_cons→J6,length_replicate→J8,append_nil→Ja,getElem?_append_right→Jb,mem_cons→Jc,append_assoc→Jd,length_map→Je,length_nil→Jg,mem_append→Jh,range→Ji,eq_of_mem_replicate→Jm,take_left'→Jo,replicate_succ→Jq,take_of_length_le→Jr,map_cons→Js,mem_map→Jt,nil_append→Ju,getElem?_append_left→Jx,cons_append→Jy,length_take→Jz,take_succ_eq_append_getElem→K0,length_drop→K3,getElem?_map→K4,take_zero→K5,drop_left'→K8,getElem_mem→Ka,getElem?_replicate→Ke,mem_range→Kh,all_eq_true→Ki,map_append→Kj,reverse_reverse→Kn,replicate_zero→Ko,length_range→Kt,take_succ_cons→Ku,range'→Kx,flatMap_cons→Li,take_length→Lj,flatten_cons→Lm,replicate_succ'→Ln,range_eq_range'→Lp,getElem?_drop→Lr,mem_append_right→Lt,mem_cons_of_mem→H1,drop_eq_nil_of_le→H4,getD_cons_zero→H7,map_nil→He,flatten_nil→Hn,mem_iff_getElem→Hu,drop_zero→Hv,drop_eq_getElem_cons→Hy,flatMap_append→G5,mem_flatMap→Gg,head?_cons→Gw,getD_cons_succ→U8,ext_getElem→Ua,getElem?_take→Uq,mem_append_left→Q3,map_replicate→Q4,length_range'→Q5,getElem_range→Q6,map_congr_left→Qk,flatten_append→Qm,mem_reverse→Qo,getElem_map→Qq,flatMap_nil→Qr,getElem?_replicate_of_lt→Qs,range_zero→Qu,map_map→Jar,length_reverse→Jay,not_mem_nil→Jb1,mem_of_mem_head?→Jb9,reverse_cons→Jbi,mem_of_mem_drop→Jbj,map_take→Jbk,findSome?_cons→Jbr,drop_drop→Jbu,drop_succ_cons→Jcp,map_drop→Jcz,range'_succ→Jd9
open Int renaming toNat_natCast→J9,mul_emod→Jv,emod_emod→K9,emod_eq_of_lt→Kb,add_emod→Kf,emod_lt_of_pos→Kl,natCast_add→Ky,mul_zero→L4,emod_nonneg→L5,natCast_mul→Lh,add_zero→H5,mul_assoc→H8,mul_one→Hf,mul_le_mul_of_nonneg_left→Ja0,mul_add→Ja1,add_assoc→Jc0,emod_add_emod→Jcr,toNat_of_nonneg→Jda
open Nat renaming zero_add→Jf,lt_or_ge→Jj,le_refl→Jl,mul_le_mul→K1,succ_mul→K6,mul_le_mul_right→K7,zero_le→L7,mul_comm→H0,div_add_mod→H3,add_sub_cancel_left→H6,div_lt_iff_lt_mul→Hd,zero_mul→Hg,sub_zero→G7,mod_lt→Gd,eq_zero_or_pos→U9,not_lt_zero→Ui,mul_one→Qg,add_sub_cancel→Jb7,mul_pos→Jbt,lt_irrefl→Jbw,mul_zero→Jcn
open Bool renaming not_true→Kc,not_false→Kq,false_eq_true→G6
open Option renaming some→Ld,map_some→Ho,bind→G4,isSome_none→Q2,getD_some→Qi
open Prod renaming mk→Jav
open Option renaming some→iz,none→iA
open Bool renaming true→iB,false→iC
namespace Go.Pl
open Go Go.Ab Go.Wk Go.Pc
structure Fh (n D D2:Nat) (m m2:zF) (T T2:Mx) (φ:Vec→Vec):Prop where
 pr:m2.Prime=m.Prime
 row:∀u,Row m.Prime D u→Row m.Prime D2 (φ u)
 z:φ (zeros D)=zeros D2
 add:∀u v,Row m.Prime D u→Row m.Prime D v→φ (adv m.Prime D u v)=adv m.Prime D2 (φ u) (φ v)
 act:∀k,k<n→ ∀u,Row m.Prime D u→φ (wD m.Prime D u (m.zP.getD k []))=wD m.Prime D2 (φ u) (m2.zP.getD k [])
 t:∀r,r<base n n→φ (T.getD r [])=T2.getD r []
def Fm(φ:Vec→Vec)(N:Nat)(e:Vec):Vec:=e.take N++φ (e.drop N)
theorem zAJ{φ:Vec→Vec}{N:Nat}{y u:Vec}(hy:y.length=N):Fm φ N (y++u)=y++φ u:=by rw[Fm,Jo hy,K8 hy]
theorem zG8{φ:Vec→Vec}{N:Nat}{b:Int}{e:Vec}:Fm φ (N+1) (b::e)=b::Fm φ N e:=by simp only[Fm,Ku,Jcp,Jy]
section
variable {D D2:Nat}{x:SPr}{m m2:zF}{T T2:Mx}{φ:Vec→Vec} (h:Pres x) (hE:ExB x.zA.length D x m T) (hT:∀i,i<T.length→Row m.Prime D (T.getD i [])) (gK:ExB x.zA.length D2 x m2 T2) (gS:∀i,i<T2.length→Row m2.Prime D2 (T2.getD i [])) (hF:Fh x.zA.length D D2 m m2 T T2 φ)
 include h hE hT gK gS hF
theorem yAK{k:Nat}(hk:k≤x.zA.length):Fm φ (x.zA.length-k) (zeros (suf (exx D x m T) k).length)=zeros (suf (exx D2 x m2 T2) k).length:=by rw[zBe h hE hT hk,zBe h gK gS hk,zAJ (yC _),hF.z]
theorem zPH{k j:Nat}(h1:k+1≤j)(h2:j<x.zA.length):Fm φ (x.zA.length-(k+1)) ((lvl (exx D x m T) k).cs.getD (j-(k+1)) [])=(lvl (exx D2 x m2 T2) k).cs.getD (j-(k+1)) []:=by have hn:=hE.hn;have hb:=zAu x.zA.length (by omega) k (by omega);have gC:V (suf x (k+1)) ((lcj x k j).drop (k+1)):=jR (uC h (by omega) h2) (by omega);rw[zHY h hE hT (by omega) h1 h2,zHY h gK gS (by omega) h1 h2,show(lvl x k).cs.getD (j-(k+1)) []=(lcj x k j).drop (k+1)from map_drop,zAJ (vC h (by omega) gC),hF.t _ (by omega)]
theorem zYB{k:Nat}(hk:k<x.zA.length):Fm φ (x.zA.length-(k+1)) (lvl (exx D x m T) k).w=(lvl (exx D2 x m2 T2) k).w:=by have hn:=hE.hn;have hb:=wT x.zA.length (by omega);have ct:V (suf x (k+1)) ((x.zR.getD k []).drop (k+1)):=jR (qX h hk) hk;rw[zHU h hE hT hk,zHU h gK gS hk,show(lvl x k).w=(x.zR.getD k []).drop (k+1)from rfl,zAJ (vC h (by omega) ct),hF.t _ (by omega)]
theorem zTs{k:Nat}(hk:k<x.zA.length)(ih:∀a b,V (suf (exx D x m T) (k+1)) a→V (suf (exx D x m T) (k+1)) b→Fm φ (x.zA.length-(k+1)) (mul (suf (exx D x m T) (k+1)) a b)=mul (suf (exx D2 x m2 T2) (k+1)) (Fm φ (x.zA.length-(k+1)) a) (Fm φ (x.zA.length-(k+1)) b)){v:Vec}(hv:V (suf (exx D x m T) (k+1)) v):
  Fm φ (x.zA.length-(k+1)) (sig (suf (exx D x m T) (k+1)) (lvl (exx D x m T) k) v)=sig (suf (exx D2 x m2 T2) (k+1)) (lvl (exx D2 x m2 T2) k) (Fm φ (x.zA.length-(k+1)) v):=by
 have hp:=hE.m.p.pos;have ok:=uH h hE hT (k:=k+1) (by omega);obtain⟨y,u,rfl,hy,hu⟩:=(sQ h hE hT (x.zA.length-(k+1)) (k+1) (by omega) _).1 hv;have ez:=vC h (by omega) hy;have eZ:Row m2.Prime D2 (φ u):=by rw[hF.pr];exact hF.row u hu
 have hsg:Fm φ (x.zA.length-(k+1)) (sgG D x m T k y)=sgG D2 x m2 T2 k y:=by
  unfold sgG;rw[zEO (S:=V (suf (exx D x m T) (k+1))) (n:=mul (suf (exx D2 x m2 T2) (k+1))) (Fm φ (x.zA.length-(k+1))) (fun a b=>xK ok) ih _ _ _ (zP5 h hE hT hk) (wO ok),yAK h hE hT gK gS hF (by omega)]
  congr 1
  apply Ua
  ·rw[Je,uX h hE hT,uX h gK gS]
  ·intro i h1 h2
   rw[Je,uX h hE hT]at h1;have e1:(eC1 x T k)[i]'(by rw[uX h hE hT];exact h1)=(lvl (exx D x m T) k).cs.getD (k+1+i-(k+1)) []:=by rw[show k+1+i-(k+1)=i from by omega,zBW h hE hT hk,J2,Jx (by rw[uX h hE hT];exact h1),J3 (by rw[uX h hE hT];exact h1)];rfl
   have e2:(eC1 x T2 k)[i]'h2=(lvl (exx D2 x m2 T2) k).cs.getD (k+1+i-(k+1)) []:=by rw[show k+1+i-(k+1)=i from by omega,zBW h gK gS hk,J2,Jx h2,J3 h2];rfl
   rw[Qq,e1,e2,zPH h hE hT gK gS hF (by omega) (by omega)]
 obtain⟨y1,u1,e,fg,fT⟩:=(sQ h hE hT (x.zA.length-(k+1)) (k+1) (by omega) _).1 (zHW h hE hT hk (y:=y));have gH:=vC h (by omega) fg;rw[e,zAJ gH]at hsg;rw[zBX h hE hT hk hy hu,e,Jo gH,K8 gH,zAJ gH,zAJ ez,zBX h gK gS hk hy eZ,←hsg,Jo gH,K8 gH,hF.pr,hF.add _ _ fT (vA (by omega)),hF.act k hk u hu]
theorem zK3{k:Nat}(hk:k<x.zA.length)(ih:∀a b,V (suf (exx D x m T) (k+1)) a→V (suf (exx D x m T) (k+1)) b→Fm φ (x.zA.length-(k+1)) (mul (suf (exx D x m T) (k+1)) a b)=mul (suf (exx D2 x m2 T2) (k+1)) (Fm φ (x.zA.length-(k+1)) a) (Fm φ (x.zA.length-(k+1)) b)):∀(q:Nat){v:Vec},V (suf (exx D x m T) (k+1)) v→
  Fm φ (x.zA.length-(k+1)) (iter q (sig (suf (exx D x m T) (k+1)) (lvl (exx D x m T) k)) v)=iter q (sig (suf (exx D2 x m2 T2) (k+1)) (lvl (exx D2 x m2 T2) k)) (Fm φ (x.zA.length-(k+1)) v)
 |0,_,_=>rfl
 |q+1,v,hv=>by show Fm φ _ (iter q _ (sig _ _ v))=iter q _ (sig _ _ (Fm φ _ v));rw[zK3 hk ih q (zAI h hE hT hk hv),zTs h hE hT gK gS hF hk ih hv]
theorem zNV:∀(d k:Nat),k+d=x.zA.length→ ∀a b,V (suf (exx D x m T) k) a→V (suf (exx D x m T) k) b→Fm φ (x.zA.length-k) (mul (suf (exx D x m T) k) a b)=mul (suf (exx D2 x m2 T2) k) (Fm φ (x.zA.length-k) a) (Fm φ (x.zA.length-k) b)
 |0,k,hk,a,b,ha,hb=>by
  have hp:=hE.m.p.pos;have am:=gK.m.p.pos;rw[zAv h hE hT D k (by omega) (by omega)]at ha hb ⊢
  rw[zAv h gK gS D2 k (by omega) (by omega)];have mg:=(zDB _ _).1 ha;have eR:=(zDB _ _).1 hb;have e:∀w:Vec,Fm φ (x.zA.length-k) w=φ w:=fun w=>by rw[Fm,show x.zA.length-k=0 from by omega];rfl
  rw[e,e,e,qV (by omega) D _ _ mg eR,hF.add _ _ mg eR,hF.pr,qV (by omega) D2 _ _ (hF.row _ mg) (hF.row _ eR)]
 |d+1,k,hk,a,b,ha,hb=>by
  have pO:k<x.zA.length:=by omega
  have ih:=zNV d (k+1) (by omega);have hl:=wG h hE hT;have aC:=wG h gK gS;have ok:=uH h hE hT (k:=k+1) (by omega);have fQ:=zQA h hE hT pO;rw[yG (x:=exx D x m T) (by omega)]at ha hb ⊢
  rw[yG (x:=exx D2 x m2 T2) (by omega)];cases a with
  |nil=>exact ha.elim
  |cons a u=>
  cases b with
  |nil=>exact hb.elim
  |cons b v=>
   obtain⟨_,ha⟩:=ha;obtain⟨_,hb⟩:=hb;have e6:=zNU h hE hT pO b.toNat ha;have hm:=xK ok e6 hb;rw[show x.zA.length-k=x.zA.length-(k+1)+1 from by omega,zG8,zG8,xC,xC,zB5 h hE hT pO,zB5 h gK gS pO,←zK3 h hE hT gK gS hF pO ih _ ha,←ih _ _ e6 hb]
   by_cases g:a+b≥at0 x.zA k
   ·rw[if_pos g,if_pos g,zG8,ih _ _ fQ hm,zYB h hE hT gK gS hF pO]
   ·rw[if_neg g,if_neg g,zG8]
end
end Go.Pl

namespace Go.Pl
open Go Go.Ab Go.Wk Go.Pc
section
variable {D D2:Nat}{x:SPr}{m m2:zF}{T T2:Mx}{φ:Vec→Vec} (h:Pres x) (hE:ExB x.zA.length D x m T) (hT:∀i,i<T.length→Row m.Prime D (T.getD i [])) (gK:ExB x.zA.length D2 x m2 T2) (gS:∀i,i<T2.length→Row m2.Prime D2 (T2.getD i [])) (hF:Fh x.zA.length D D2 m m2 T T2 φ)
 include h hE hT gK gS hF
theorem zXk{k:Nat}(hk:k<x.zA.length){c:Vec}(hc:V (suf (exx D x m T) (k+1)) c):∀q,Fm φ (x.zA.length-(k+1)) (pw (mul (suf (exx D x m T) (k+1))) (zeros (suf (exx D x m T) (k+1)).length) c q)=pw (mul (suf (exx D2 x m2 T2) (k+1))) (zeros (suf (exx D2 x m2 T2) (k+1)).length) (Fm φ (x.zA.length-(k+1)) c) q
 |0=>yAK h hE hT gK gS hF (by omega)
 |q+1=>by have ok:=uH h hE hT (k:=k+1) (by omega);have hq:V (suf (exx D x m T) (k+1)) (pw (mul (suf (exx D x m T) (k+1))) (zeros (suf (exx D x m T) (k+1)).length) c q):=vO (fun w hw=>xK ok hw hc) q (wO ok);have ih:=zXk hk hc q;rw[pw,vG,pw,vG];show Fm φ _ (mul _ (pw _ _ c q) c)=mul _ (pw _ _ (Fm φ _ c) q) (Fm φ _ c);rw[zNV h hE hT gK gS hF _ (k+1) (by omega:k+1+(x.zA.length-(k+1))=x.zA.length) _ _ hq hc,ih]
theorem zYC{k j:Nat}(hk:k≤j)(hj:j<x.zA.length):V (suf (exx D x m T) (k+1)) (((exx D x m T).zR.getD j []).drop (k+1))∧Fm φ (x.zA.length-(k+1)) (((exx D x m T).zR.getD j []).drop (k+1))=((exx D2 x m2 T2).zR.getD j []).drop (k+1):=by have hn:=hE.hn;have hb:=wT x.zA.length (by omega);have hpx:V (suf x (k+1)) ((x.zR.getD j []).drop (k+1)):=jR (zK1 (qX h hj) hk) (by omega);rw[zEd h hE hT hk hj,zEd h gK gS hk hj];exact⟨zDw h hE hT (by omega) hpx (zBY h hE hT hj),by rw[zAJ (vC h (by omega) hpx),hF.t _ (by omega)]⟩
theorem zYD{k i j:Nat}(hk:k≤i)(hi:i<j)(hj:j<x.zA.length):V (suf (exx D x m T) (k+1)) ((((exx D x m T).zE.getD i []).getD (j-(i+1)) []).drop (k+1))∧Fm φ (x.zA.length-(k+1)) ((((exx D x m T).zE.getD i []).getD (j-(i+1)) []).drop (k+1))=(((exx D2 x m2 T2).zE.getD i []).getD (j-(i+1)) []).drop (k+1):=by have hn:=hE.hn;have hb:=zAu x.zA.length (by omega) i (by omega);have bU:V (suf x (k+1)) ((lcj x i j).drop (k+1)):=jR (zK1 (uC h hi hj) hk) (by omega);rw[zFG h hE hT hk hi hj,zFG h gK gS hk hi hj];exact⟨zDw h hE hT (by omega) bU (zDC h hE hT hi hj),by rw[zAJ (vC h (by omega) bU),hF.t _ (by omega)]⟩
theorem zVS{k j:Nat}(h1:k+1≤j)(h2:j<x.zA.length):Fm φ (x.zA.length-(k+1)) (xP ((exx D x m T).zA.length-(k+1)) (j-(k+1)))=xP ((exx D2 x m2 T2).zA.length-(k+1)) (j-(k+1)):=by rw[zQ9 h hE hT h1 h2,zQ9 h gK gS h1 h2,zAJ (by simp[xP,zeros]),hF.z]
theorem zPI{k:Nat}(hk:k<x.zA.length):LCQ (fun k a b=>Fm φ (x.zA.length-k) a=Fm φ (x.zA.length-k) b) x (exx D x m T) k↔LCn x (exx D2 x m2 T2) k:=by
 have hl:=wG h hE hT;have ok:=uH h hE hT (k:=k+1) (by omega);have cR:=zNV h hE hT gK gS hF _ (k+1) (by omega:k+1+(x.zA.length-(k+1))=x.zA.length);have ew:=fun v hv=>zTs h hE hT gK gS hF hk cR (v:=v) hv
 have fQ:=zQA h hE hT hk;have e1:∀j,k+1≤j→j<x.zA.length→(c1Q (fun k a b=>Fm φ (x.zA.length-k) a=Fm φ (x.zA.length-k) b) (exx D x m T) k j↔c1E (exx D2 x m2 T2) k j):=fun j h1 h2=>by obtain⟨p1,p2⟩:=zYC h hE hT gK gS hF (k:=k) (j:=j) (by omega) h2;unfold c1Q c1E;show Fm φ _ _=Fm φ _ _↔_;rw[zXk h hE hT gK gS hF hk (zMs h hE hT hk h1 h2),zPH h hE hT gK gS hF h1 h2,ew _ p1,p2,tG h hE hT h2,tG h gK gS h2]
 have e2:∀i j,k+1≤i→i<j→j<x.zA.length→(c2Q (fun k a b=>Fm φ (x.zA.length-k) a=Fm φ (x.zA.length-k) b) (exx D x m T) k i j↔c2E (exx D2 x m2 T2) k i j):=fun i j h1 gM h2=>by obtain⟨p1,p2⟩:=zYD h hE hT gK gS hF (k:=k) (by omega) gM h2;have ci:=zMs h hE hT hk h1 (show i<x.zA.length by omega);have cj:=zMs h hE hT hk (show k+1≤j by omega) h2;unfold c2Q c2E;show Fm φ _ _=Fm φ _ _↔_;rw[cR _ _ cj ci,cR _ _ ci (zAI h hE hT hk p1),zPH h hE hT gK gS hF h1 (by omega),zPH h hE hT gK gS hF (by omega) h2,ew _ p1,p2]
 have e3:Fm φ (x.zA.length-(k+1)) (sig (suf (exx D x m T) (k+1)) (lvl (exx D x m T) k) (lvl (exx D x m T) k).w)=Fm φ (x.zA.length-(k+1)) (lvl (exx D x m T) k).w↔sig (suf (exx D2 x m2 T2) (k+1)) (lvl (exx D2 x m2 T2) k) (lvl (exx D2 x m2 T2) k).w=(lvl (exx D2 x m2 T2) k).w:=by rw[ew _ fQ,zYB h hE hT gK gS hF hk]
 have e4:∀j,k+1≤j→j<x.zA.length→(c4Q (fun k a b=>Fm φ (x.zA.length-k) a=Fm φ (x.zA.length-k) b) (exx D x m T) k j↔c4E (exx D2 x m2 T2) k j):=fun j h1 h2=>by have hg:=zCR h hE hT h1 h2;unfold c4Q c4E;show Fm φ _ _=Fm φ _ _↔_;rw[cR _ _ fQ (zNU h hE hT hk _ hg),cR _ _ hg fQ,zK3 h hE hT gK gS hF hk cR _ hg,zVS h hE hT gK gS hF h1 h2,zYB h hE hT gK gS hF hk,zB5 h hE hT hk,zB5 h gK gS hk]
 constructor
 ·intro g
  exact⟨fun j h1 h2=>(e1 j h1 h2).1 (g.c1 j h1 h2),fun i h1 hi j gM h2=>(e2 i j h1 (by omega) h2).1 (g.c2 i h1 hi j gM h2),e3.1 g.c3,fun j h1 h2=>(e4 j h1 h2).1 (g.c4 j h1 h2)⟩
 ·intro g
  exact⟨fun j h1 h2=>(e1 j h1 h2).2 (g.c1 j h1 h2),fun i h1 hi j gM h2=>(e2 i j h1 (by omega) h2).2 (g.c2 i h1 hi j gM h2),e3.2 g.c3,fun j h1 h2=>(e4 j h1 h2).2 (g.c4 j h1 h2)⟩
theorem zTt{m0:zF}(hM:Mv D x.zA.length m0 m)(hx:wQ (suf x 0))(hr:zF9 x m2 D2):∃L,f_O ⟨x,m0,T⟩=iz L∧L.length≤1000∧(∀r∈L,Row m.Prime D r)∧((∀r∈L,φ r=zeros D2)↔wQ (suf (exx D2 x m2 T2) 0)):=by
 have hp:=hE.m.p.pos;have am:=gK.m.p.pos;obtain⟨L,e,g⟩:=zY3 h hE hT hM (Z:=fun r=>φ r=zeros D2) (Q:=fun k a b=>Fm φ (x.zA.length-k) a=Fm φ (x.zA.length-k) b) (fun k hk a b ha hb e=>by
  obtain⟨y,u,rfl,hy,hu,_,ez⟩:=prV h hE hT hk ha;obtain⟨z,v,rfl,hz,hv,_,mC⟩:=prV h hE hT hk hb;rw[Jo ez,Jo mC]at e;subst e;rw[K8 ez,K8 ez,zAJ ez,zAJ ez,List.append_cancel_left_eq];have ha:=zAE (p:=m.Prime) (D:=D) (r:=u) (s:=v) (k:=-1) hE.m.p;have hs:adv m.Prime D (tU m.Prime D u (-1) v) v=u:=by refine Eq.trans (zZ (g:=fun j=>at0 u j) fun j hj=>?_) (vY hu.1).symm;have hr:=hu.2 j hj;rw[tU,yH hj,Jcr,show at0 u j+ -1*at0 v j+at0 v j=at0 u j from by omega,Kb (by omega) (by omega)]
  have hφ:=hF.add _ _ ha hv;rw[hs]at hφ;have hra:=hF.row _ ha;have hrv:=hF.row _ hv;constructor
  ·intro g
   rw[hφ,g,vZ hrv]
  ·intro g
   rw[hφ,tR]at g;have:=(zVI (u:=φ v) hra (xS (p:=m.Prime) (D:=D2) (by omega))).1 (by rw[g,zAG hrv]);exact this) hx
 refine⟨L,e,g.len,g.row,g.iff.trans ?_⟩;rw[zP7 h gK gS hr];exact⟨fun a k hk=>(zPI h hE hT gK gS hF hk).1 (a k hk),fun a k hk=>(zPI h hE hT gK gS hF hk).2 (a k hk)⟩
end
end Go.Pl

namespace Go.Pl
open Go Go.Ab Go.Wk Go.Pc
theorem zK4{D:Nat}{f:Nat→Int}:∀B:Nat,S (B*D) f=S B fun q=>S D fun l=>f (q*D+l)
 |0=>by rw[Hg];rfl
 |B+1=>by rw[K6,zG2,zK4 B];rfl
def blk(D:Nat)(w:Vec)(q:Nat):Vec:=mkv D fun j=>at0 w (q*D+j)
theorem kG{D B q l:Nat}(hq:q<B)(hl:l<D):q*D+l<B*D:=by have:=K7 D (show q+1≤B by omega);rw[K6]at this;omega
theorem zPJ{p:Int}{D B:Nat}{w:Vec}(hw:Row p (B*D) w){q:Nat}(hq:q<B):Row p D (blk D w q):=
 ⟨yA _ _,fun j hj=>by rw[blk,yH hj];exact hw.2 _ (kG hq hj)⟩
theorem sT{D q l:Nat}(hl:l<D):(q*D+l)/D=q∧(q*D+l)%D=l:=by
 have hD:0<D:=by omega
 constructor
 ·rw[H0,Nat.mul_add_div hD,Nat.div_eq_of_lt hl];rfl
 ·rw[H0,Nat.mul_add_mod,Nat.mod_eq_of_lt hl]
def ABk(B D:Nat)(A:Mx):Mx:=gl (B*D) fun i=>mkv (B*D) fun j=>if i/D=j/D then ent A (i%D) (j%D)else 0
theorem zPK{B D:Nat}{A:Mx}{i j:Nat}(hi:i<B*D)(hj:j<B*D):ent (ABk B D A) i j=if i/D=j/D then ent A (i%D) (j%D)else 0:=by show at0 ((gl (B*D) _).getD i []) j=_;rw[xW hi,yH hj]
theorem zVT{p:Int}{B D:Nat}{A:Mx}(hp:2≤p)(hD:0<D)(hA:Mat p D A):Mat p (B*D) (ABk B D A):=by
 refine⟨xD,fun i hi=>?_⟩;rw[ABk,xW hi];refine⟨yA _ _,fun j hj=>?_⟩;rw[yH hj];split
 ·exact(hA.2 (i%D) (Gd _ hD)).2 _ (Gd _ hD)
 ·omega
theorem zMu{p:Int}{B D:Nat}{u:Vec}{A:Mx}{q l:Nat}(hq:q<B)(hl:l<D):at0 (wD p (B*D) u (ABk B D A)) (q*D+l)=S D (fun i=>at0 u (q*D+i)*ent A i l)%p:=by
 rw[wD,yH (kG hq hl),zK4]
 congr 1
 rw[zAj (k:=q) hq fun i hi gf=>?_]
 ·refine xQ fun i hi=>?_
  rw[zPK (kG hq hi) (kG hq hl),(sT hi).1,(sT hi).2,(sT hl).1,(sT hl).2,if_pos rfl]
 ·rw[xQ (g:=fun _=>0) fun j hj=>?_,qL]
  rw[zPK (kG hi hj) (kG hq hl),(sT hj).1,(sT hl).1,if_neg gf,L4]
theorem zVU{p:Int}{B D:Nat}{u:Vec}{A:Mx}{q:Nat}(hq:q<B):blk D (wD p (B*D) u (ABk B D A)) q=wD p D (blk D u q) A:=by
 refine zZ fun l hl=>?_
 rw[zMu hq hl]
 congr 1
 exact xQ fun i hi=>by rw[blk,yH hi]
theorem zMv{D B:Nat}{w:Vec}(hw:w.length=B*D){q:Nat}(hq:q<B):(w.drop (q*D)).take D=blk D w q:=by
 have h1:=K7 D (show q+1≤B by omega);rw[K6]at h1;apply Ua
 ·rw[Jz,K3,blk,yA];omega
 ·intro i a b
  rw[Jz,K3]at a;rw[List.getElem_take,List.getElem_drop];simp only[blk,mkv,Qq,Q6,at0];rw[J2,J3 (by omega)];rfl
theorem zTu{D B:Nat}{w:Vec}(hw:w.length=B*D){q:Nat}(hq:q<B):w.take (q*D)++blk D w q=w.take ((q+1)*D):=by rw[←zMv hw hq,K6,List.take_add]
def mBk(B D n:Nat)(m:zF):zF:=⟨m.Prime,((B*D:Nat):Int),(Ji n).map fun k=>ABk B D (m.zP.getD k [])⟩
theorem zK5{B D n:Nat}{m:zF}{k:Nat}(hk:k<n):(mBk B D n m).zP.getD k []=ABk B D (m.zP.getD k []):=by simp[mBk,J2,hk]
theorem zYE{B D n:Nat}{m:zF}(hm:MOk n m D)(hB:1≤B)(h2:B*D≤200):zSF n (mBk B D n m) (B*D):=by have h1:=hm.d1;have hp:=hm.p.pos;refine⟨hm.p,Jbt (by omega) (by omega),h2,by simp[mBk],fun i hi=>?_⟩;rw[zK5 hi];exact zVT (by show 2≤m.Prime;omega) (by omega) (hm.mat i hi)
theorem zYF{B D n:Nat}{m:zF}(hm:MOk n m D)(h2:B*D≤200):Mv (B*D) n m (mBk B D n m):=by
 refine⟨rfl,fun k hk u hu=>?_⟩;have h1:=hm.d1;have h3:=hm.d3;have eY:=hu.1;have uw:=hm.len;have hA:=hm.mat k hk;rw[zK5 hk];have hR:(wD m.Prime (B*D) u (ABk B D (m.zP.getD k []))).length=B*D:=by rw[wD,yA]
 unfold zWs;have:=zV (body:=zMM m u (k:Int)) (r:=wD m.Prime (B*D) u (ABk B D (m.zP.getD k []))) (fun i=>((wD m.Prime (B*D) u (ABk B D (m.zP.getD k []))).take (i*D),((i*D:Nat):Int))) B (fun i hi=>by
  have gO:=K7 D (show i+1≤B by omega);rw[K6]at gO;unfold zMM;simp only
  rw[iE (by omega),zM,hm.d,zC (by omega) (by omega),bs];have pL:yB u ((i*D:Nat):Int) (((i*D:Nat):Int)+(D:Int))=iz (blk D u i):=by
   unfold yB;rw[if_pos ⟨by omega,by omega,by omega⟩]
   congr 1
   rw[show(((i*D:Nat):Int)+(D:Int)).toNat=i*D+D from by omega,J9,H6];exact zMv eY hi
  rw[pL,bs,yR [] (by omega),bs,zHG hm.p (by omega) (zPJ hu hi) hA,bs,←zVU (B:=B) hi,yE (by rw[Jz,blk,yA];omega),bs,zTu hR hi,bs,K6];rfl) (by
  unfold zMM;simp only
  rw[iD (by omega),zK,Jr (by omega)])
 rw[Hg,K5]at this;rw[show((0:Nat):Int)=0 from rfl]at this;rw[this,bs];rfl
def phi(p:Int)(B D:Nat)(c w:Vec):Vec:=mkv D fun j=>S B (fun q=>at0 c q*at0 w (q*D+j))%p
theorem zVV{p:Int}{B D:Nat}{c w:Vec}(hp:2≤p):Row p D (phi p B D c w):=⟨yA _ _,fun j hj=>by rw[phi,yH hj];exact⟨L5 _ (show p≠0 by omega),by have:=Kl (S B fun q=>at0 c q*at0 w (q*D+j)) (show 0<p by omega);omega⟩⟩
def Tc(N D:Nat)(c:Vec):Mx:=gl N fun i=>blk D c i
theorem zYG{n B D N:Nat}{m:zF}{TB:Mx}{c:Vec}(hm:MOk n m D)(hN:B=N*D)(hb:base n n=N)(hc:Row m.Prime B c)(ht:∀i,i<N→TB.getD i []=mkv (B*D) fun j=>if j/D=i*D+j%D then 1 else 0):Fh n (B*D) D (mBk B D n m) m TB (Tc N D c) (phi m.Prime B D c):=by
 have hp:=hm.p.pos;have h1:=hm.d1;refine⟨rfl,fun u _=>zVV (by show 2≤m.Prime;omega),?_,fun u v hu hv=>?_,fun k hk u hu=>?_,fun r hr=>?_⟩
 ·rw[show zeros D=mkv D fun _=>0 from tN D]
  refine zZ fun j hj=>?_
  rw[xQ (g:=fun _=>0) fun q hq=>by rw[sJ,L4],qL];simp
 ·refine zZ fun j hj=>?_
  rw[phi,phi,yH hj,yH hj];show _%m.Prime=(_%m.Prime+_%m.Prime)%m.Prime;rw[←Kf,←zCK];refine kX fun q hq=>?_
  rw[yH (kG hq hj),←Ja1];show(at0 c q*((at0 u (q*D+j)+at0 v (q*D+j))%m.Prime))%m.Prime=_;rw[Jv,K9,←Jv]
 ·rw[zK5 hk]
  refine zZ fun j hj=>?_
  show S B (fun q=>at0 c q*at0 (wD m.Prime (B*D) u (ABk B D (m.zP.getD k []))) (q*D+j))%m.Prime=S D (fun l=>at0 (phi m.Prime B D c u) l*ent (m.zP.getD k []) l j)%m.Prime;rw[kX (g:=fun q=>at0 c q*S D (fun i=>at0 u (q*D+i)*ent (m.zP.getD k []) i j)) fun q hq=>by rw[zMu hq hj,Jv,K9,←Jv]];rw[kX (f:=fun l=>at0 (phi m.Prime B D c u) l*ent (m.zP.getD k []) l j) (g:=fun l=>S B (fun q=>at0 c q*at0 u (q*D+l))*ent (m.zP.getD k []) l j) fun l hl=>by rw[phi,yH hl,Jv,K9,←Jv]]
  congr 1
  rw[xQ (g:=fun q=>S D (fun i=>at0 c q*(at0 u (q*D+i)*ent (m.zP.getD k []) i j))) fun q _=>(zCL _ D).symm,zHC];refine xQ fun l hl=>?_
  rw[←zLL];exact xQ fun q _=>(H8 _ _ _).symm
 ·rw[hb]at hr
  rw[ht r hr,Tc,xW hr];refine zZ fun j hj=>?_
  have gO:r*D+j<B:=by rw[hN];exact kG hr hj
  rw[zAj (k:=r*D+j) gO fun q hq gf=>?_]
  ·rw[yH (kG gO hj),(sT hj).1,(sT hj).2,if_pos rfl,Hf]
   have:=hc.2 _ gO;exact Kb this.1 (by omega)
  ·rw[yH (kG hq hj),(sT hj).1,(sT hj).2,if_neg gf,L4]
end Go.Pl

namespace Go.Pl
open Go Go.Ab Go.Wk Go.Pc
def uT(N D:Nat):Mx:=gl N fun i=>mkv (N*D*D) fun j=>if j/D=i*D+j%D then 1 else 0
section
variable {x:SPr}{m:zF}{D:Nat} (hx:zCk x) (hD:MOk x.zA.length m D)
 include hx hD
theorem zTv{D2:Nat}{m2:zF}{T:Mx}(hm:zSF x.zA.length m2 D2)(ht:T.length=base x.zA.length x.zA.length):ExB x.zA.length D2 x m2 T:=by have _:=hD;refine⟨hx.n6,rfl,hx.pl,hx.cl,fun i hi=>?_,ht,hm⟩;have:=(hx.tl i hi).2.1;omega
theorem zXl{y:Vec}(hy:Row m.Prime (base x.zA.length x.zA.length*D) y):ExB x.zA.length D x m (Tc (base x.zA.length x.zA.length) D y)∧ ∀i,i<(Tc (base x.zA.length x.zA.length) D y).length→Row m.Prime D ((Tc (base x.zA.length x.zA.length) D y).getD i []):=by refine⟨zTv hx hD hD.b xD,fun i hi=>?_⟩;rw[Tc,xD]at hi;rw[Tc,xW hi];exact zPJ hy hi
theorem zTw(h0:0<x.zA.length)(hc:wQ (suf x 0))(hr:zF9 x m D):∃L,f_O ⟨x,m,uT (base x.zA.length x.zA.length) D⟩=iz L∧L.length≤1000∧(∀r∈L,Row m.Prime (base x.zA.length x.zA.length*D*D) r)∧
  ∀y,Row m.Prime (base x.zA.length x.zA.length*D) y→((∀r∈L,phi m.Prime (base x.zA.length x.zA.length*D) D y r=zeros D)↔wQ (suf (exx D x m (Tc (base x.zA.length x.zA.length) D y)) 0)):=by
 have h6:=hx.n6;have hb:=wT x.zA.length (by omega);have h1:=hD.d1;have h3:=hD.d3;have hp:=hD.p.pos;have hB:base x.zA.length x.zA.length*D≤21*3:=K1 hb.2.1 h3;have hB1:1≤base x.zA.length x.zA.length*D:=Jbt (by omega) (by omega);have hBD:base x.zA.length x.zA.length*D*D≤63*3:=K1 (by omega) h3;have hE:=zTv hx hD (T:=uT (base x.zA.length x.zA.length) D) (zYE hD hB1 (by omega)) xD;have hT:∀i,i<(uT (base x.zA.length x.zA.length) D).length→Row (mBk (base x.zA.length x.zA.length*D) D x.zA.length m).Prime (base x.zA.length x.zA.length*D*D) ((uT (base x.zA.length x.zA.length) D).getD i []):=fun i hi=>by rw[uT,xD]at hi;rw[uT,xW hi];refine⟨yA _ _,fun j hj=>?_⟩;rw[yH hj];show _∧_≤m.Prime-1;split<;>omega
 have hM:=zYF (B:=base x.zA.length x.zA.length*D) hD (by omega);have key:∀y,Row m.Prime (base x.zA.length x.zA.length*D) y→ ∃L,f_O ⟨x,m,uT (base x.zA.length x.zA.length) D⟩=iz L∧L.length≤1000∧(∀r∈L,Row m.Prime (base x.zA.length x.zA.length*D*D) r)∧((∀r∈L,phi m.Prime (base x.zA.length x.zA.length*D) D y r=zeros D)↔wQ (suf (exx D x m (Tc (base x.zA.length x.zA.length) D y)) 0)):=fun y hy=>by obtain⟨e1,e2⟩:=zXl hx hD hy;exact zTt hx.toPres hE hT e1 e2 (zYG hD rfl rfl hy fun i hi=>by rw[uT,xW hi]) hM hc hr
 obtain⟨L,l1,l2,l3,_⟩:=key (zeros (base x.zA.length x.zA.length*D)) (xS (by omega));refine⟨L,l1,l2,l3,fun y hy=>?_⟩;obtain⟨L2,k1,_,_,k4⟩:=key y hy;rw[l1]at k1;cases k1;exact k4
end
def zDx(D k:Nat)(L:Mx):List Int:=(L.map fun r=>blk D r k).flatten
theorem zMw{D k:Nat}:∀L:Mx,(zDx D k L).length=L.length*D
 | []=>by rw[zDx];simp
 |r::L=>by have ih:=zMw (D:=D) (k:=k) L;simp only[zDx]at ih;simp only[zDx,Js,Lm,J5,J6];rw[ih,blk,yA,K6];omega
theorem zK6{D k:Nat}:∀(L:Mx)(i j:Nat),i<L.length→j<D→at0 (zDx D k L) (i*D+j)=at0 (L.getD i []) (k*D+j)
 | [],i,j,hi,_=>by simp at hi
 |r::L,i,j,hi,hj=>by
  have hl:(blk D r k).length=D:=yA _ _;simp only[zDx,Js,Lm];cases i with
  |zero=>
   rw[Hg,Jf,H7,at0,J2,Jx (by omega),←J2];show at0 (blk D r k) j=_;rw[blk,yH hj]
  |succ i=>
   have ih:=zK6 (D:=D) (k:=k) L i j (by simpa using hi) hj;simp only[zDx]at ih;rw[U8,←ih,at0,J2,Jb (by rw[hl,K6];omega),hl,K6,show i*D+D+j-D=i*D+j from by omega,←J2]
theorem zTx{p:Int}{B D:Nat}{L:Mx}{y:Vec}:(∀c,c<L.length*D→(S B fun k=>at0 y k*ent (gl B fun k=>zDx D k L) k c)%p=0)↔ ∀r∈L,phi p B D y r=zeros D:=by
 have e:∀i j,i<L.length→j<D→(S B fun k=>at0 y k*ent (gl B fun k=>zDx D k L) k (i*D+j))%p=at0 (phi p B D y (L.getD i [])) j:=fun i j hi hj=>by
  rw[phi,yH hj]
  congr 1
  refine xQ fun k hk=>?_
  show at0 y k*at0 ((gl B fun k=>zDx D k L).getD k []) (i*D+j)=_;rw[xW hk,zK6 L i j hi hj]
 constructor
 ·intro g r hr
  obtain⟨i,hi,rfl⟩:=Hu.1 hr;rw[show zeros D=mkv D fun _=>0 from tN D,vY (D:=D) (v:=phi p B D y L[i]) (yA _ _)];refine zZ fun j hj=>?_
  have:=e i j hi hj;rw[J2,J3 hi]at this;rw[←g _ (kG hi hj),this];rfl
 ·intro g c hc
  have hD:0<D:=by
   rcases U9 D with h|h
   ·rw[h,Jcn]at hc;omega
   ·exact h
  have hi:c/D<L.length:=(Hd hD).2 hc;have hj:c%D<D:=Gd _ hD;rw[show c=c/D*D+c%D from by rw[H0];exact(H3 c D).symm,e _ _ hi hj,g _ (by rw[J2,J3 hi];exact Ka hi),sJ]
end Go.Pl

namespace Go.Pl
open Go Go.Ab Go.Wk Go.Pc
def zBf(p:Int)(D:Nat)(m:zF):List (Nat×List Nat)→Nat→Nat→Nat→Int
 | [],_,_,_=>0
 |(q,s)::t,r,i,j=>(if q=r then ent (wM p D m.zP s (idM D)) i j else 0)+zBf p D m t r i j
section
variable {p:Int}{D N:Nat}{m:zF}{y:Vec}
theorem zTy{j:Nat}(hj:j<D):∀t:List (Nat×List Nat),(∀q∈t,q.1<N)→at0 (tv p D m (Tc N D y) t) j=(S N fun r=>S D fun i=>at0 y (r*D+i)*zBf p D m t r i j)%p
 | [],_=>by
  show at0 (zeros D) j=_;rw[sJ,xQ (g:=fun _=>0) fun r _=>by rw[xQ (g:=fun _=>0) fun i _=>by rw[zBf,L4],qL],qL]
  rfl
 |(q,s)::t,h=>by
  have hq:q<N:=h (q,s) (by simp);have ih:=zTy hj t fun q hq=>h q (by simp[hq])
  show at0 (adv p D (wD p D ((Tc N D y).getD q []) (wM p D m.zP s (idM D))) (tv p D m (Tc N D y) t)) j=_;rw[show adv p D=fun u v=>mkv D fun j=>(at0 u j+at0 v j)%p from rfl];show at0 (mkv D _) j=_;rw[yH hj,ih,wD,yH hj,←Kf]
  congr 1
  have e:(S N fun r=>S D fun i=>at0 y (r*D+i)*zBf p D m ((q,s)::t) r i j)=
    (S N fun r=>S D fun i=>at0 y (r*D+i)*(if q=r then ent (wM p D m.zP s (idM D)) i j else 0))+S N fun r=>S D fun i=>at0 y (r*D+i)*zBf p D m t r i j:=by
   rw[←zCK];refine xQ fun r _=>?_
   rw[←zCK];refine xQ fun i _=>?_
   rw[zBf,Ja1]
  rw[e]
  congr 1
  rw[zAj (k:=q) hq fun r _ hr=>by rw[xQ (g:=fun _=>0) fun i _=>by rw[if_neg (Ne.symm hr),L4],qL]]
  refine xQ fun l hl=>?_
  rw[if_pos rfl,Tc,xW hq,blk,yH hl]
end
def prR(p:Int)(D:Nat)(m:zF)(t1 t2:List (Nat×List Nat))(k:Nat):List Int:=mkv D fun j=>(zBf p D m t1 (k/D) (k%D) j-zBf p D m t2 (k/D) (k%D) j)%p
section
variable {p:Int}{D N:Nat}{m:zF}{y:Vec}
theorem zPL(hp:2≤p){t1 t2:List (Nat×List Nat)}(h1:∀q∈t1,q.1<N)(h2:∀q∈t2,q.1<N):
  (∀j,j<D→(S (N*D) fun k=>at0 y k*at0 (prR p D m t1 t2 k) j)%p=0)↔tv p D m (Tc N D y) t1=tv p D m (Tc N D y) t2:=by
 have e:∀j,j<D→(S (N*D) fun k=>at0 y k*at0 (prR p D m t1 t2 k) j)%p=(at0 (tv p D m (Tc N D y) t1) j-at0 (tv p D m (Tc N D y) t2) j)%p:=fun j hj=>by
  rw[zTy hj t1 h1,zTy hj t2 h2,←Int.sub_emod,zK4];have e1:((S N fun r=>S D fun i=>at0 y (r*D+i)*zBf p D m t1 r i j)-S N fun r=>S D fun i=>at0 y (r*D+i)*zBf p D m t2 r i j)=S N fun r=>S D fun i=>at0 y (r*D+i)*(zBf p D m t1 r i j-zBf p D m t2 r i j):=by
   have:(S N fun r=>S D fun i=>at0 y (r*D+i)*zBf p D m t1 r i j)=(S N fun r=>S D fun i=>at0 y (r*D+i)*(zBf p D m t1 r i j-zBf p D m t2 r i j))+S N fun r=>S D fun i=>at0 y (r*D+i)*zBf p D m t2 r i j:=by
    rw[←zCK];refine xQ fun r _=>?_
    rw[←zCK];refine xQ fun i _=>?_
    rw[←Ja1];congr 1;omega
   omega
  rw[e1];refine kX fun r _=>kX fun i hi=>?_
  have hd:=sT (q:=r) hi;rw[prR,yH hj,hd.1,hd.2,Jv,K9,←Jv]
 constructor
 ·intro g
  have r1:=zKx (D:=D) (m:=m) (T:=Tc N D y) hp t1;have r2:=zKx (D:=D) (m:=m) (T:=Tc N D y) hp t2;rw[vY r1.1,vY r2.1];refine zZ fun j hj=>?_
  have k:=e j hj;rw[g j hj]at k;have b1:=r1.2 j hj;have b2:=r2.2 j hj;have:=Int.emod_emod_of_dvd (at0 (tv p D m (Tc N D y) t1) j-at0 (tv p D m (Tc N D y) t2) j) (Int.dvd_refl p);have ic:p∣at0 (tv p D m (Tc N D y) t1) j-at0 (tv p D m (Tc N D y) t2) j:=Int.dvd_of_emod_eq_zero k.symm;obtain⟨c,hc⟩:=ic;have:c=0:=by
   rcases Int.lt_trichotomy c 0 with gE|h0|hgt
   ·have:p*c≤p*(-1):=Ja0 (by omega) (by omega)
    omega
   ·exact h0
   ·have:p*1≤p*c:=Ja0 (by omega) (by omega)
    omega
  rw[this,L4]at hc;omega
 ·intro g j hj
  rw[e j hj,g,Int.sub_self];rfl
end
end Go.Pl

namespace Go.Pl
open Go Go.Ab Go.Wk Go.Pc
abbrev Trc:=List (Nat×List Nat)
structure PD where
 k:Nat
 wd:List Nat
 t:Nat
 r1:Nat
 s1:List Nat
 w1:List Nat
 r2:Nat
 s2:List Nat
 w2:List Nat
section
variable (x:SPr)
abbrev PD.B(d:PD)(t1 t2:Trc):Prop:=zK2 x d.k d.r1 d.s1 d.w1 d.r2 d.s2 d.w2 t1 t2
def ups(n i:Nat):List Nat:=Kx (i+1) (n-(i+1))
def pd2(i j k:Nat):PD:=⟨i,[k,j,i],1,base x.zA.length j+(k-(j+1)),[i],j::(nw 0 (lcj x j k)++[i]),base x.zA.length i+(j-(i+1)),[],k::i::nw 0 (lcj x i j)⟩
def pd1(i j:Nat):PD:=⟨i,J0 (yK x j) j++[i],yK x j-1,j,[i],nw 0 (x.zR.getD j [])++[i],base x.zA.length i+(j-(i+1)),[],J0 (yK x j-1) j++i::nw 0 (lcj x i j)⟩
def pd4(i j:Nat):PD:=⟨i,j::J0 (yK x i) i,1,base x.zA.length i+(j-(i+1)),J0 (yK x i-1) i,i::(nw 0 (lcj x i j)++J0 (yK x i-1) i),i,[],j::nw 0 (x.zR.getD i [])⟩
def pd3(i:Nat):PD:=⟨i,J0 (yK x i+1) i,1,i,[i],nw 0 (x.zR.getD i [])++[i],i,[],i::nw 0 (x.zR.getD i [])⟩
def cps:List PD:=
 ((Ji x.zA.length).flatMap fun i=>(ups x.zA.length i).flatMap fun j=>(ups x.zA.length j).map fun k=>pd2 x i j k)++
 (((Ji x.zA.length).flatMap fun i=>(ups x.zA.length i).map fun j=>pd1 x i j)++
 (((Ji x.zA.length).flatMap fun i=>(ups x.zA.length i).map fun j=>pd4 x i j)++
 (Ji x.zA.length).map fun i=>pd3 x i))
end
theorem zEW{n i j:Nat}:j∈ups n i↔i<j∧j<n:=by rw[ups,List.mem_range'_1];omega
section
variable {x:SPr}
theorem zAV{φ:PD→Prop}:(∀d∈cps x,φ d)↔(∀i j k,i<j→j<k→k<x.zA.length→φ (pd2 x i j k))∧(∀i j,i<j→j<x.zA.length→φ (pd1 x i j))∧(∀i j,i<j→j<x.zA.length→φ (pd4 x i j))∧ ∀i,i<x.zA.length→φ (pd3 x i):=by
 constructor
 ·intro g
  refine⟨fun i j k h1 h2 h3=>g _ ?_,fun i j h1 h2=>g _ ?_,fun i j h1 h2=>g _ ?_,fun i h1=>g _ ?_⟩
  ·exact Q3 _ (Gg.2 ⟨i,Kh.2 (by omega),Gg.2 ⟨j,zEW.2 ⟨h1,by omega⟩,Jt.2 ⟨k,zEW.2 ⟨h2,h3⟩,rfl⟩⟩⟩)
  ·exact Lt _ (Q3 _ (Gg.2 ⟨i,Kh.2 (by omega),Jt.2 ⟨j,zEW.2 ⟨h1,h2⟩,rfl⟩⟩))
  ·exact Lt _ (Lt _ (Q3 _ (Gg.2 ⟨i,Kh.2 (by omega),Jt.2 ⟨j,zEW.2 ⟨h1,h2⟩,rfl⟩⟩)))
  ·exact Lt _ (Lt _ (Lt _ (Jt.2 ⟨i,Kh.2 h1,rfl⟩)))
 ·rintro⟨g2,g1,g4,g3⟩ d hd
  simp only[cps,Jh,Gg,Jt,Kh,zEW]at hd;rcases hd with⟨i,_,j,⟨h1,_⟩,k,⟨h2,h3⟩,rfl⟩|⟨i,_,j,⟨h1,h2⟩,rfl⟩|⟨i,_,j,⟨h1,h2⟩,rfl⟩|⟨i,h1,rfl⟩
  ·exact g2 i j k h1 h2 h3
  ·exact g1 i j h1 h2
  ·exact g4 i j h1 h2
  ·exact g3 i h1
theorem zQD{D:Nat}{m:zF}{T:Mx}:zXj x D m T↔ ∀d∈cps x,∀t1 t2,d.B x t1 t2→tv m.Prime D m T t1=tv m.Prime D m T t2:=by
 rw[zAV (φ:=fun d=> ∀t1 t2,d.B x t1 t2→tv m.Prime D m T t1=tv m.Prime D m T t2)];constructor
 ·intro g
  exact⟨fun i j k h1 h2 h3=>g.p2 i j k h1 h2 h3,fun i j h1 h2=>g.p1 i j h1 h2,fun i j h1 h2=>g.p4 i j h1 h2,fun i h1=>g.p3 i h1⟩
 ·rintro⟨g2,g1,g4,g3⟩
  exact⟨fun k j h1 h2=>g1 k j h1 h2,fun k i j h1 h2 h3=>g2 k i j h1 h2 h3,fun k hk=>g3 k hk,fun k j h1 h2=>g4 k j h1 h2⟩
theorem zXm(h6:x.zA.length≤6){w:List Nat}{r:zEg}(hw:∀a∈w,a<x.zA.length)(h:hdS x w=iz r):r.1<base x.zA.length x.zA.length:=by
 unfold hdS at h;have hb:=wT x.zA.length (by omega)
 match w,h with
 | [],h=>cases h
 | [a],h=>
  have ha:=hw a (by simp);simp only[swp,pws]at h;split at h
  ·cases h;simp only;omega
  ·cases h
 |a::b::w,h=>
  have ha:=hw a (by simp);simp only[swp]at h
  by_cases g:b<a
  ·rw[if_pos g]at h
   cases h;have:=zAu x.zA.length (by omega) b (by omega);simp only
   omega
  ·rw[if_neg g]at h
   simp only[pws]at h;split at h
   ·cases h;simp only;omega
   ·cases h
theorem zXn(h6:x.zA.length≤6):∀{w:List Nat}{r:zEg},(∀a∈w,a<x.zA.length)→stS x w=iz r→r.1<base x.zA.length x.zA.length
 | [],_,_,h=>by cases h
 |a::w,r,hw,h=>by
  simp only[stS]at h;cases e:hdS x (a::w)with
  |some q=>
   rw[e]at h;cases h;exact zXm h6 hw e
  |none=>
   rw[e]at h;cases e2:stS x w with
   |none=>rw[e2]at h;cases h
   |some q=>
    rw[e2]at h;cases h;have:=zXn (w:=w) (r:=q) h6 (fun b hb=>hw b (H1 _ hb)) e2;exact this
theorem Col.lt(h6:x.zA.length≤6){k:Nat}{w w':List Nat}{tr:Trc}(hc:Col x k w tr w'):∀q∈tr,q.1<base x.zA.length x.zA.length:=by
 induction hc with
 |refl w=>intro q hq;cases hq
 |step hw hs _ ih=>
  intro q hq;rcases Jc.1 hq with rfl|hq
  ·exact zXn h6 (fun a ha=>(hw a ha).2) hs
  ·exact ih q hq
end
section
variable {x:SPr} (h:Pres x) (h6:x.zA.length≤6)
 include h
theorem zMx{d:PD}{t1 t2 u1 u2:Trc}(hk:d.k≤x.zA.length)(a:d.B x t1 t2)(b:d.B x u1 u2):t1=u1∧t2=u2:=by
 obtain⟨⟨v1,y1,rfl,k1⟩,⟨v2,y2,rfl,k2⟩⟩:=a;obtain⟨⟨v3,y3,rfl,k3⟩,⟨v4,y4,rfl,k4⟩⟩:=b;have nn:=fun(y:Vec)(hy:V (suf x d.k) y)=>zFJ h (x.zA.length-d.k) d.k (by omega) y hy
 exact⟨by rw[(Col.det k1.col k3.col (nn _ k1.v) (nn _ k3.v)).1],by rw[(Col.det k2.col k4.col (nn _ k2.v) (nn _ k4.v)).1]⟩
 include h6
theorem zG9:∀d∈cps x,d.k<x.zA.length∧(∀a∈d.wd,a<x.zA.length)∧ ∃t1 t2,d.B x t1 t2∧(∀q∈t1,q.1<base x.zA.length x.zA.length)∧ ∀q∈t2,q.1<base x.zA.length x.zA.length:=by
 have hH:∀i j,i<j→j<x.zA.length→ ∀a∈nw 0 (lcj x i j),i+1≤a∧a<x.zA.length:=fun i j hi hj=>(tZ h (uC h hi hj) (by omega)).2
 have ee:∀i,i<x.zA.length→ ∀a∈nw 0 (x.zR.getD i []),i+1≤a∧a<x.zA.length:=fun i hi=>(tZ h (qX h hi) hi).2
 have co:=wT x.zA.length (by omega);have cm:=fun i(hi:i<x.zA.length)=>zAu x.zA.length (by omega) i hi
 have key:∀(d:PD),d.k<x.zA.length→(∀a∈d.wd,a<x.zA.length)→d.r1<base x.zA.length x.zA.length→d.r2<base x.zA.length x.zA.length→(∀a∈d.w1,d.k≤a∧a<x.zA.length)→(∀a∈d.w2,d.k≤a∧a<x.zA.length)→d.k<x.zA.length∧(∀a∈d.wd,a<x.zA.length)∧ ∃t1 t2,d.B x t1 t2∧(∀q∈t1,q.1<base x.zA.length x.zA.length)∧ ∀q∈t2,q.1<base x.zA.length x.zA.length:=by
  intro d hk mI b1 b2 c1 c2;obtain⟨u1,y1,k1⟩:=zVR h (x.zA.length-d.k) d.k (by omega) d.w1 c1;obtain⟨u2,y2,k2⟩:=zVR h (x.zA.length-d.k) d.k (by omega) d.w2 c2;refine⟨hk,mI,_,_,⟨⟨u1,y1,rfl,k1⟩,⟨u2,y2,rfl,k2⟩⟩,fun q hq=>?_,fun q hq=>?_⟩
  ·rcases Jc.1 hq with rfl|hq
   ·exact b1
   ·exact k1.col.lt h6 q hq
  ·rcases Jc.1 hq with rfl|hq
   ·exact b2
   ·exact k2.col.lt h6 q hq
 refine zAV.2 ⟨fun i j k h1 h2 h3=>key _ ?_ ?_ ?_ ?_ ?_ ?_,fun i j h1 h2=>key _ ?_ ?_ ?_ ?_ ?_ ?_,fun i j h1 h2=>key _ ?_ ?_ ?_ ?_ ?_ ?_,fun i h1=>key _ ?_ ?_ ?_ ?_ ?_ ?_⟩
 ·show i<_;omega
 ·intro a ha
  simp only[pd2,Jc,Jb1,or_false]at ha;omega
 ·have:=cm j (by omega);show base _ j+(k-(j+1))<_;omega
 ·have:=cm i (by omega);show base _ i+(j-(i+1))<_;omega
 ·intro a ha
  simp only[pd2,Jc,Jh,Jb1,or_false]at ha ⊢
  rcases ha with rfl|ha|rfl
  ·omega
  ·have:=hH j k (by omega) h3 a ha;omega
  ·omega
 ·intro a ha
  simp only[pd2,Jc]at ha ⊢
  rcases ha with rfl|rfl|ha
  ·omega
  ·omega
  ·have:=hH i j (by omega) (by omega) a ha;omega
 ·show i<_;omega
 ·intro a ha
  simp only[pd1,Jh,List.mem_singleton]at ha;rcases ha with ha|rfl
  ·have:=Jm ha;omega
  ·omega
 ·show j<_;omega
 ·have:=cm i (by omega);show base _ i+(j-(i+1))<_;omega
 ·intro a ha
  simp only[pd1,Jh,List.mem_singleton]at ha ⊢
  rcases ha with ha|rfl
  ·have:=ee j h2 a ha;omega
  ·omega
 ·intro a ha
  simp only[pd1,Jh,Jc]at ha ⊢
  rcases ha with ha|rfl|ha
  ·have:=Jm ha;omega
  ·omega
  ·have:=hH i j h1 h2 a ha;omega
 ·show i<_;omega
 ·intro a ha
  simp only[pd4,Jc]at ha;rcases ha with rfl|ha
  ·omega
  ·have:=Jm ha;omega
 ·have:=cm i (by omega);show base _ i+(j-(i+1))<_;omega
 ·show i<_;omega
 ·intro a ha
  simp only[pd4,Jc,Jh]at ha ⊢
  rcases ha with rfl|ha|ha
  ·omega
  ·have:=hH i j h1 h2 a ha;omega
  ·have:=Jm ha;omega
 ·intro a ha
  simp only[pd4,Jc]at ha ⊢
  rcases ha with rfl|ha
  ·omega
  ·have:=ee i (by omega) a ha;omega
 ·exact h1
 ·intro a ha
  have:=Jm (show a∈J0 _ i from ha);omega
 ·show i<_;omega
 ·show i<_;omega
 ·intro a ha
  simp only[pd3,Jh,List.mem_singleton]at ha ⊢
  rcases ha with ha|rfl
  ·have:=ee i h1 a ha;omega
  ·omega
 ·intro a ha
  simp only[pd3,Jc]at ha ⊢
  rcases ha with rfl|ha
  ·omega
  ·have:=ee i h1 a ha;omega
end
end Go.Pl

namespace Go.Pl
open Go Go.Ab Go.Wk Go.Pc
theorem zFK{α:Type}{F:α→Vec}{D:Nat}(hF:∀a,(F a).length=D):∀L:List α,((L.map F).flatten).length=L.length*D
 | []=>by simp
 |a::L=>by rw[Js,Lm,J5,hF,zFK hF L,J6,K6];omega
theorem zEX{α:Type}{F:α→Vec}{D:Nat}(hF:∀a,(F a).length=D):∀(L:List α)(i j:Nat)(hi:i<L.length),j<D→at0 ((L.map F).flatten) (i*D+j)=at0 (F L[i]) j
 | [],i,j,hi,_=>by simp at hi
 |a::L,i,j,hi,hj=>by
  have hl:=hF a;rw[Js,Lm];cases i with
  |zero=>
   rw[Hg,Jf,List.getElem_cons_zero,at0,J2,Jx (by omega),←J2]
  |succ i=>
   have ih:=zEX hF L i j (by simpa using hi) hj;rw[List.getElem_cons_succ,←ih,at0,J2,Jb (by rw[hl,K6];omega),hl,K6,show i*D+D+j-D=i*D+j from by omega,←J2]
def zAe(p:Int)(D:Nat)(m:zF)(prs:List (Trc×Trc))(k:Nat):List Int:=(prs.map fun q=>prR p D m q.1 q.2 k).flatten
theorem zIk{p:Int}{D k:Nat}{m:zF}(prs:List (Trc×Trc)):(zAe p D m prs k).length=prs.length*D:=zFK (F:=fun q:Trc×Trc=>prR p D m q.1 q.2 k) (fun _=>yA _ _) prs
theorem zTz{p:Int}{D N:Nat}{m:zF}{y:Vec}(hp:2≤p){prs:List (Trc×Trc)}(hl:∀q∈prs,(∀r∈q.1,r.1<N)∧ ∀r∈q.2,r.1<N):
  (∀c,c<prs.length*D→(S (N*D) fun k=>at0 y k*ent (gl (N*D) fun k=>zAe p D m prs k) k c)%p=0)↔ ∀q∈prs,tv p D m (Tc N D y) q.1=tv p D m (Tc N D y) q.2:=by
 have e:∀i j(hi:i<prs.length),j<D→(S (N*D) fun k=>at0 y k*ent (gl (N*D) fun k=>zAe p D m prs k) k (i*D+j))=S (N*D) fun k=>at0 y k*at0 (prR p D m prs[i].1 prs[i].2 k) j:=fun i j hi hj=>by
  refine xQ fun k hk=>?_
  show at0 y k*at0 ((gl (N*D) fun k=>zAe p D m prs k).getD k []) (i*D+j)=_;rw[xW hk,zAe,zEX (F:=fun q:Trc×Trc=>prR p D m q.1 q.2 k) (fun _=>yA _ _) prs i j hi hj]
 constructor
 ·intro g q hq
  obtain⟨i,hi,rfl⟩:=Hu.1 hq;refine(zPL hp (hl _ hq).1 (hl _ hq).2).1 fun j hj=>?_
  rw[←e i j hi hj];exact g _ (kG hi hj)
 ·intro g c hc
  have hD:0<D:=by
   rcases U9 D with h|h
   ·rw[h,Jcn]at hc;omega
   ·exact h
  have hi:c/D<prs.length:=(Hd hD).2 hc;have hj:c%D<D:=Gd _ hD;have hm:=Ka hi;rw[show c=c/D*D+c%D from by rw[H0];exact(H3 c D).symm,e _ _ hi hj];exact(zPL hp (hl _ hm).1 (hl _ hm).2).2 (g _ hm) _ hj
def sF(x:SPr):List PD→List (Trc×Trc)→Prop
 | [],[]=>True
 |d::ds,q::qs=>d.B x q.1 q.2∧sF x ds qs
 |_,_=>False
theorem sF.len{x:SPr}:{ds:List PD}→{qs:List (Trc×Trc)}→sF x ds qs→ds.length=qs.length
 | [],[],_=>rfl
 |d::ds,q::qs,h=>by rw[J6,J6,sF.len h.2]
 | [],_::_,h=>by simp[sF]at h
 |_::_,[],h=>by simp[sF]at h
theorem sF.all{x:SPr}{φ:Trc×Trc→Prop}:{ds:List PD}→{qs:List (Trc×Trc)}→sF x ds qs→(∀d∈ds,∀t1 t2,d.B x t1 t2→φ (t1,t2))→ ∀q∈qs,φ q
 | [],[],_,_,q,hq=>by cases hq
 |d::ds,q::qs,h,g,r,hr=>by
  rcases Jc.1 hr with rfl|hr
  ·exact g d (by simp) _ _ h.1
  ·exact sF.all h.2 (fun d hd=>g d (H1 _ hd)) r hr
 | [],_::_,h,_,_,_=>by simp[sF]at h
 |_::_,[],h,_,_,_=>by simp[sF]at h
theorem sF.of{x:SPr}{φ:Trc×Trc→Prop}:{ds:List PD}→{qs:List (Trc×Trc)}→sF x ds qs→(∀q∈qs,φ q)→ ∀d∈ds,∃t1 t2,d.B x t1 t2∧φ (t1,t2)
 | [],[],_,_,d,hd=>by cases hd
 |d::ds,q::qs,h,g,r,hr=>by
  rcases Jc.1 hr with rfl|hr
  ·exact⟨q.1,q.2,h.1,g q (by simp)⟩
  ·exact sF.of h.2 (fun q hq=>g q (H1 _ hq)) r hr
 | [],_::_,h,_,_,_=>by simp[sF]at h
 |_::_,[],h,_,_,_=>by simp[sF]at h
section
variable {x:SPr}{m:zF}{D:Nat} (hx:zCk x) (hD:MOk x.zA.length m D)
 include hx hD
theorem zT0{prs:List (Trc×Trc)}(hq:sF x (cps x) prs)(hc:wQ (suf x 0))(hr:zF9 x m D){y:Vec}(hy:Row m.Prime (base x.zA.length x.zA.length*D) y):
  (∀c,c<prs.length*D→(S (base x.zA.length x.zA.length*D) fun k=>at0 y k*ent (gl (base x.zA.length x.zA.length*D) fun k=>zAe m.Prime D m prs k) k c)%m.Prime=0)↔wQ (suf (exx D x m (Tc (base x.zA.length x.zA.length) D y)) 0):=by
 have hp:=hD.p.pos;have cE:=zG9 hx.toPres hx.n6;have gE:∀q∈prs,(∀r∈q.1,r.1<base x.zA.length x.zA.length)∧ ∀r∈q.2,r.1<base x.zA.length x.zA.length:=hq.all fun d hd t1 t2 hb=>by obtain⟨hk,_,u1,u2,pR,l1,l2⟩:=cE d hd;obtain⟨rfl,rfl⟩:=zMx hx.toPres (by omega) hb pR;exact⟨l1,l2⟩
 obtain⟨e1,e2⟩:=zXl hx hD hy;rw[zTz (by omega) gE,←zQC hx.toPres e1 e2 hc hr,zQD];constructor
 ·intro g d hd t1 t2 hb
  obtain⟨u1,u2,pR,e⟩:=hq.of (φ:=fun q=>tv m.Prime D m (Tc (base x.zA.length x.zA.length) D y) q.1=tv m.Prime D m (Tc (base x.zA.length x.zA.length) D y) q.2) g d hd;obtain⟨rfl,rfl⟩:=zMx hx.toPres (by have:=(cE d hd).1;omega) hb pR;exact e
 ·intro g
  exact hq.all fun d hd t1 t2 hb=>g d hd t1 t2 hb
theorem zYH:∃prs,sF x (cps x) prs:=by
 have _:=hD;have cE:=zG9 hx.toPres hx.n6
 revert cE
 generalize cps x=ds
 intro cE
 induction ds with
 |nil=>exact⟨[],trivial⟩
 |cons d ds ih=>
  obtain⟨qs,hq⟩:=ih fun d hd=>cE d (H1 _ hd)
  obtain⟨_,_,t1,t2,hb,_⟩:=cE d (by simp);exact⟨(t1,t2)::qs,hb,hq⟩
end
end Go.Pl

namespace Go.Pl
open Go Go.Ab Go.Wk Go.Pc
section
variable {x:SPr}{m:zF}{D:Nat} (hD:MOk x.zA.length m D)
 include hD
theorem zQE{N i:Nat}(hi:i<N)(hN:N≤21){T:Mx}:zH (zRk m (T,(i:Int))) (J0 (N*D*D) (0:Int),0)=iz (mkv (N*D*D) fun j=>if j/D=i*D+j%D then 1 else 0):=by
 have h1:=hD.d1;have h3:=hD.d3;have iv:N*D≤21*3:=K1 hN h3;have hB:N*D*D≤63*3:=K1 iv h3;have:=zV (body:=zRk m (T,(i:Int))) (r:=mkv (N*D*D) fun j=>if j/D=i*D+j%D then(1:Int)else 0)
  (fun c=>(mkv (N*D*D) fun j=>if j/D=i*D+j%D∧j%D<c then(1:Int)else 0,(c:Int))) D (fun c hc=>by
  unfold zRk;simp only
  have a1:i*D+D≤N*D:=by rw[←K6];exact K7 _ hi
  have a2:(i*D+c)*D+D≤N*D*D:=by rw[←K6];exact K7 _ (by omega)
  have b1:(i:Int)*(D:Int)=((i*D:Nat):Int):=by rw[Lh]
  have b2:((i*D+c:Nat):Int)*(D:Int)=(((i*D+c)*D:Nat):Int):=by rw[Lh]
  have b3:((i*D:Nat):Int)+(c:Int)=((i*D+c:Nat):Int):=by omega
  have b4:(((i*D+c)*D:Nat):Int)+(c:Int)=(((i*D+c)*D+c:Nat):Int):=by omega
  rw[hD.d,yY hc,zM,b1,zC (by omega) (by omega),bs,b3,zC (by omega) (by omega),bs,b2,zC (by omega) (by omega),bs,b4,zC (by omega) (by omega),bs,yR 0 (by rw[yA];omega),bs,zC (by omega) (by omega),bs,J9,qU,cs]
  congr 3
  refine zZ fun j hj=>?_
  have ma:=H3 j D
  by_cases g:j=(i*D+c)*D+c
  ·have e:=sT (q:=i*D+c) hc
   rw[if_pos g,g,e.1,e.2,if_pos ⟨rfl,by omega⟩]
  ·rw[if_neg g]
   by_cases g2:j/D=i*D+j%D
   ·by_cases g3:j%D<c
    ·rw[if_pos ⟨g2,g3⟩,if_pos ⟨g2,by omega⟩]
    ·rw[if_neg fun z=>g3 z.2]
     refine(if_neg fun z=>g ?_).symm;have:j%D=c:=by omega
     rw[g2,this,H0]at ma;exact ma.symm
   ·rw[if_neg fun z=>g2 z.1,if_neg fun z=>g2 z.1]) (by
  unfold zRk;simp only
  rw[hD.d,xR,zK]
  congr 2
  refine zZ fun j _=>?_
  have:=Gd j (show 0<D by omega)
  by_cases g2:j/D=i*D+j%D
  ·rw[if_pos ⟨g2,this⟩,if_pos g2]
  ·rw[if_neg fun z=>g2 z.1,if_neg g2])
 rw[show(mkv (N*D*D) fun j=>if j/D=i*D+j%D∧j%D<0 then(1:Int)else 0)=J0 (N*D*D) 0 from by rw[show J0 (N*D*D) (0:Int)=mkv (N*D*D) fun _=>0 from tN _];exact zZ fun j _=>if_neg fun z=>Ui _ z.2]at this
 exact this
theorem zIl{N:Nat}(hN:N≤21):zH (zUT m (N:Int) ((N*D:Nat):Int)) ([],0)=iz (uT N D):=by
 have h1:=hD.d1;have h3:=hD.d3;have iv:N*D≤21*3:=K1 hN h3;have hB:N*D*D≤63*3:=K1 iv h3;refine wW N (fun i=>mkv (N*D*D) fun j=>if j/D=i*D+j%D then(1:Int)else 0) (fun i acc hi ha=>?_) (fun acc=>?_)
 ·unfold zUT
  simp only
  have b1:((N*D:Nat):Int)*(D:Int)=((N*D*D:Nat):Int):=by rw[Lh (N*D)]
  rw[hD.d,yY hi,zM,b1,zC (by omega) (by omega),bs,yX (by omega),bs,zQE hD hi hN,bs,yE (by simp;omega),bs,zC (by omega) (by omega),bs,cs]
 ·unfold zUT
  simp only
  rw[xR,zK]
theorem zJy{B:Nat}(hB:B≤63){L:Mx}(hL:L.length≤1000)(hr:∀r∈L,r.length=B*D):zH (zUU m ((B:Nat):Int) L) ([],0)=iz (gl B fun k=>zDx D k L):=by
 have h1:=hD.d1;have h3:=hD.d3;have hLD:L.length*D≤1000*3:=K1 hL h3;have hBD:B*D≤63*3:=K1 hB h3;refine wW B (fun k=>zDx D k L) (fun k acc hk ha=>?_) (fun acc=>?_)
 ·unfold zUU
  simp only
  have a1:k*D+D≤B*D:=by rw[←K6];exact K7 _ hk
  have inner:zH (zRl m L (acc,(k:Int))) ([],0)=iz (zDx D k L):=by
   have:=zSP (body:=zRl m L (acc,(k:Int))) L.length D (fun i=>blk D (L.getD i []) k) [] (fun i hi=>yA _ _) (fun i acc2 hi ha2=>by
    unfold zRl;simp only
    have b0:i*D+D≤L.length*D:=by rw[←K6];exact K7 _ hi
    have b1:(k:Int)*(D:Int)=((k*D:Nat):Int):=by rw[Lh]
    have b2:((k+1:Nat):Int)*(D:Int)=((k*D+D:Nat):Int):=by rw[←Lh,K6]
    have gj:(L.getD i []).length=B*D:=by rw[J2,J3 hi];exact hr _ (Ka hi)
    simp only[Jg,Jf]at ha2;rw[hD.d,yY hi,zM,yR [] hi,bs,b1,zC (by omega) (by omega),bs,show(k:Int)+1=((k+1:Nat):Int)from by omega,zC (by omega) (by omega),bs,b2,zC (by omega) (by omega),bs,zFE (by omega),bs,yE (by rw[yA];omega),bs,zC (by omega) (by omega),bs,cs];rfl) (fun acc2=>by
    unfold zRl;simp only
    rw[xR,zK])
   rw[this,Ju,zDx]
   congr 2
   rw[gl];refine Ua (by simp) fun j h1 h2=>?_
   simp only[Je,Kt]at h1;simp only[Qq,Q6];rw[J2,J3 h1];rfl
  rw[yY hk,zM,inner,bs,yE (by simp;omega),bs,zC (by omega) (by omega),bs,cs]
 ·unfold zUU
  simp only
  rw[xR,zK]
end
section
variable {x:SPr}{m:zF}{D:Nat} (hx:zCk x) (hD:MOk x.zA.length m D)
 include hx hD
theorem zGk(h0:0<x.zA.length)(hc:wQ (suf x 0))(hr:zF9 x m D):∃K pk,f_n x m=iz K∧Red m.Prime (base x.zA.length x.zA.length*D) K pk∧
  ∀y,Row m.Prime (base x.zA.length x.zA.length*D) y→(Sp m.Prime (base x.zA.length x.zA.length*D) K y↔wQ (suf (exx D x m (Tc (base x.zA.length x.zA.length) D y)) 0)):=by
 have h6:=hx.n6;have hb:=wT x.zA.length (by omega);have h1:=hD.d1;have h3:=hD.d3;have hB:base x.zA.length x.zA.length*D≤21*3:=K1 hb.2.1 h3;obtain⟨L,l1,l2,l3,l4⟩:=zTw hx hD h0 hc hr;have hLD:L.length*D≤1000*3:=K1 l2 h3;obtain⟨K,pk,k1,_,k3,k4⟩:=zFC hD.p (c:=L.length*D) (N:=base x.zA.length x.zA.length*D) (A:=gl (base x.zA.length x.zA.length*D) fun k=>zDx D k L) (by omega) (fun k hk=>by rw[xW hk];refine⟨zMw L,fun j hj=>?_⟩;have hi:j/D<L.length:=(Hd (by omega)).2 hj;have hm:j%D<D:=Gd _ (by omega);have e:=zK6 (D:=D) (k:=k) L (j/D) (j%D) hi hm;rw[show j/D*D+j%D=j from by rw[H0];exact H3 j D]at e;rw[e];have fE:=l3 (L.getD (j/D) []) (by rw[J2,J3 hi];exact Ka hi);exact fE.2 _ (kG hk hm)) xD
 refine⟨K,pk,?_,k3,fun y hy=>?_⟩
 ·unfold f_n
  have b1:((base x.zA.length x.zA.length:Nat):Int)*(D:Int)=((base x.zA.length x.zA.length*D:Nat):Int):=by rw[Lh]
  rw[zBU rfl h6,bs,hD.d,b1,zC (by omega) (by omega),bs,zIl hD hb.2.1,bs,l1,bs,zJy hD (by omega) l2 (fun r hr=>(l3 r hr).1),bs,show((L.length:Nat):Int)*(D:Int)=((L.length*D:Nat):Int)from by rw[Lh],zC (by omega) (by omega),bs,k1,bs]
 ·rw[k4 y,←l4 y hy,←zTx (L:=L)]
end
end Go.Pl

namespace Go.Pl
open Go Go.Ab Go.Wk Go.Pc
theorem sA{w:List Nat}{t:Nat}(h:t<w.length):ixO (enW w) (t:Int)=iz (((w.getD t 0:Nat):Int)+1):=by rw[yR 0 (by simpa using h)];simp only[J2,K4,J3 h];rfl
theorem qS{w:List Nat}{t:Nat}(h:t<w.length):w.drop t=w.getD t 0::w.drop (t+1):=by rw[Hy h,J2,J3 h];rfl
theorem zDq{w:List Nat}{a b:Nat}(h1:a≤b)(h2:b≤w.length):yB (enW w) (a:Int) (b:Int)=iz (enW ((w.drop a).take (b-a))):=by unfold yB;rw[if_pos ⟨by omega,by omega,by simp;omega⟩];simp only[J9,enW,Jbk,Jcz]
theorem zT1{w:List Nat}{t o:Nat}{L:Int→Option (Int⊕(Unit⊕Bool))}(hL:L=zO0 (enW w) (t:Int) (enW ((w.drop t).take o))∨L=zO1 (enW w) (t:Int) (enW ((w.drop t).take o)))(ht:t<w.length)(ho:t+o≤w.length)(hl:w.length≤1000000):
  zH L 0=iz (if decide ((w.drop t).take o=J0 o (w.getD t 0))then .inl ()else .inr iC):=by
 have gj:((w.drop t).take o).length=o:=by rw[Jz,K3];omega
 have pG:(enW ((w.drop t).take o)).length=o:=by rw[enW,Je,gj]
 have eP:∀i,i<o→((w.drop t).take o).getD i 0=w.getD (t+i) 0:=fun i hi=>by simp only[J2,Uq,Lr];rw[if_pos hi]
 have hb:∀i,i<o→L (i:Int)=iz (if(w.getD (t+i) 0==w.getD t 0)then .inl ((i+1:Nat):Int)else .inr (.inr iC)):=fun i hi=>by
  have e1:ixO (enW ((w.drop t).take o)) (i:Int)=iz (((w.getD (t+i) 0:Nat):Int)+1):=by rw[sA (by omega),eP i hi]
  have e2:(((w.getD (t+i) 0:Nat):Int)+1 != ((w.getD t 0:Nat):Int)+1)= !(w.getD (t+i) 0==w.getD t 0):=by
   by_cases g:w.getD (t+i) 0=w.getD t 0
   ·rw[g];simp
   ·have:(w.getD (t+i) 0==w.getD t 0)=iC:=by simpa using g
    rw[this];have g2:((w.getD (t+i) 0:Nat):Int)+1≠((w.getD t 0:Nat):Int)+1:=by omega
    simpa using g2
  rcases hL with rfl|rfl<;>
  ·first|unfold zO0|unfold zO1
   rw[pG,yY hi,zM,e1,bs,sA ht,bs,e2]
   by_cases g:(w.getD (t+i) 0==w.getD t 0)=iB
   ·rw[g,Kc,zK,zC (by omega) (by omega),bs,cs];rfl
   ·have g':(w.getD (t+i) 0==w.getD t 0)=iC:=by simpa using g
    rw[g',Kq,zM];rfl
 have he:L (o:Int)=iz (.inr (.inl ())):=by
  rcases hL with rfl|rfl
  ·unfold zO0
   rw[pG,xR,zK]
  ·unfold zO1
   rw[pG,xR,zK]
 rw[zJf o (fun i=>w.getD (t+i) 0==w.getD t 0) (fun i hi _=>hb i hi) (fun _=>he)]
 congr 1
 have fq:(Ji o).all (fun i=>w.getD (t+i) 0==w.getD t 0)=decide ((w.drop t).take o=J0 o (w.getD t 0)):=by
  rw[Bool.eq_iff_iff,Ki,decide_eq_true_iff];constructor
  ·intro g
   refine Ua (by rw[gj,J8]) fun i h1 h2=>?_
   have:=g i (Kh.2 (by omega));have e:=eP i (by omega);rw[J2,J3 h1]at e;rw[List.getElem_replicate];simp only[Qi]at e;rw[e];simpa using this
  ·intro g i hi
   have e:=eP i (Kh.1 hi);rw[g,J2,Qs (Kh.1 hi)]at e;simp only[Qi]at e;rw[←e];simp
 rw[fq]
section
variable {x:SPr} (h:Pres x)
 include h
theorem jC{a:Nat}(ha:a<x.zA.length):ixO x.zA (a:Int)=iz ((yK x a:Nat):Int)∧2≤yK x a∧yK x a≤7:=by
 have hp:=(h.os.2 a ha).pos;rw[yR 0 ha];refine⟨?_,zKy h ha,?_⟩
 ·show iz (at0 x.zA a)=iz (((at0 x.zA a).toNat:Nat):Int)
  rw[Jda (by omega)]
 ·show(at0 x.zA a).toNat≤7
  omega
theorem zT2{w:List Nat}{t:Nat}(ht:t<w.length):(pws x (w.drop t)).isSome=decide (t+yK x (w.getD t 0)≤w.length∧(w.drop t).take (yK x (w.getD t 0))=J0 (yK x (w.getD t 0)) (w.getD t 0)):=by
 have _:=h;have hd:=qS ht
 by_cases g:(w.drop t).take (yK x (w.getD t 0))=J0 (yK x (w.getD t 0)) (w.getD t 0)
 ·have hl:=zB6 g
  rw[K3]at hl;rw[iE ⟨by omega,g⟩];rw[hd]at g ⊢
  simp only[pws];rw[if_pos g];rfl
 ·rw[iD fun z=>g z.2]
  rw[hd]at g ⊢
  simp only[pws];rw[if_neg g];rfl
theorem zIm{w:List Nat}(hw:∀a∈w,a<x.zA.length)(hl:w.length≤1000000){t:Nat}(ht:t<w.length):f_E x (enW w) (t:Int)=iz (hdS x (w.drop t)).isSome:=by
 have ha:w.getD t 0<x.zA.length:=hw _ (by rw[J2,J3 ht];exact Ka ht);obtain⟨o1,o2,o3⟩:=jC h ha;have gj:(enW w).length=w.length:=by simp
 have hd:=qS ht;have a1:((w.getD t 0:Nat):Int)+1-1=((w.getD t 0:Nat):Int):=by omega
 have a2:(t:Int)+((yK x (w.getD t 0):Nat):Int)=((t+yK x (w.getD t 0):Nat):Int):=by omega
 have h9:=h.os.1;have fin:∀L:List Int→Int→Option (Int⊕(Unit⊕Bool)),(∀o,L (enW ((w.drop t).take o))=zO0 (enW w) (t:Int) (enW ((w.drop t).take o))∨L (enW ((w.drop t).take o))=zO1 (enW w) (t:Int) (enW ((w.drop t).take o)))→
   (cond (decide (((t+yK x (w.getD t 0):Nat):Int)> ((w.length:Nat):Int))) (iz iC) ((iz ((t+yK x (w.getD t 0):Nat):Int)).bind fun v9=>(yB (enW w) (t:Int) v9).bind fun v10=>(zH (L v10) 0).bind fun r14=>match r14 with|(.inl _)=>iz iB|(.inr r14)=>iz r14))=iz (pws x (w.drop t)).isSome:=by
  intro L hL;rw[zT2 h ht]
  by_cases g:t+yK x (w.getD t 0)≤w.length
  ·rw[iD (by omega),zK,bs,zDq (by omega) g,bs,H6,zT1 (hL _) ht g hl,bs]
   by_cases g2:(w.drop t).take (yK x (w.getD t 0))=J0 (yK x (w.getD t 0)) (w.getD t 0)
   ·rw[iE g2,iE ⟨g,g2⟩];rfl
   ·rw[iD g2,iD fun z=>g2 z.2];rfl
  ·rw[iE (by omega),zM,iD fun z=>g z.1]
 unfold f_E;rw[gj,zC (by omega) (by omega),bs]
 by_cases g:t+1<w.length
 ·have pH:=qS g
  rw[iE (by omega),zM,sA ht,bs,bs,show(t:Int)+1=((t+1:Nat):Int)from by omega,sA g,bs]
  by_cases g2:w.getD (t+1) 0<w.getD t 0
  ·rw[iE (by omega),zM,hd,pH]
   unfold hdS;simp only[swp];rw[if_pos g2];rfl
  ·rw[iD (by omega),zK,bs,a1,zC (by omega) (by omega),bs,o1,bs,a2,zC (by omega) (by omega),bs]
   refine(fin (fun v=>zO0 (enW w) (t:Int) v) fun o=>.inl rfl).trans ?_;have:swp x (w.drop t)=iA:=by rw[hd,pH];simp only[swp];rw[if_neg g2]
   unfold hdS;rw[this]
 ·rw[iD (by omega),zK,sA ht,bs,a1,zC (by omega) (by omega),bs,o1,bs,a2,zC (by omega) (by omega),bs]
  refine(fin (fun v=>zO1 (enW w) (t:Int) v) fun o=>.inr rfl).trans ?_;have:swp x (w.drop t)=iA:=by rw[hd,H4 (by omega)];rfl
  unfold hdS;rw[this]
end
end Go.Pl

namespace Go.Pl
open Go Go.Ab Go.Wk Go.Pc
def stI(x:SPr):List Nat→Option (Nat×zEg)
 | []=>iA
 |a::w=>match hdS x (a::w)with
  |some r=>iz (0,r)
  |none=>(stI x w).map fun z=>(z.1+1,z.2)
section
variable {x:SPr}
theorem zK7:∀w:List Nat,stS x w=(stI x w).map fun z=>(z.2.1,z.2.2.1,w.take z.1++z.2.2.2)
 | []=>rfl
 |a::w=>by
  simp only[stS,stI];cases hdS x (a::w)with
  |some r=>rfl
  |none=>
   rw[zK7 w];cases stI x w with
   |none=>rfl
   |some z=>rfl
theorem zPM:∀{w:List Nat}{z:Nat×zEg},stI x w=iz z→z.1<w.length∧hdS x (w.drop z.1)=iz z.2
 | [],_,h=>by cases h
 |a::w,z,h=>by
  simp only[stI]at h;cases e:hdS x (a::w)with
  |some r=>
   rw[e]at h;cases h;exact⟨by simp,e⟩
  |none=>
   rw[e]at h;cases e2:stI x w with
   |none=>rw[e2]at h;cases h
   |some q=>
    rw[e2]at h;cases h;obtain⟨h1,h2⟩:=zPM e2;exact⟨by simpa using h1,by simpa using h2⟩
theorem zMy:∀(k i:Nat)(w:List Nat),i+k=w.length→(Kx i k).findSome? (fun j=>if(hdS x (w.drop j)).isSome then iz (j:Int)else iA)=(stI x (w.drop i)).map fun z=>((i+z.1:Nat):Int)
 |0,i,w,h=>by rw[H4 (by omega)];rfl
 |k+1,i,w,h=>by
  rw[Jd9,Jbr,qS (show i<w.length by omega)];simp only[stI];cases e:hdS x (w.getD i 0::w.drop (i+1))with
  |some r=>rfl
  |none=>
   simp only[Q2,G6,if_false];rw[zMy k (i+1) w (by omega)];cases stI x (w.drop (i+1))with
   |none=>rfl
   |some z=>
    simp only[Ho]
    congr 2;omega
section
variable (h:Pres x)
 include h
theorem zB7{w:List Nat}(hw:∀a∈w,a<x.zA.length)(hl:w.length≤1000000):f_U x (enW w)=iz (match stI x w with|some z=>(z.1:Int)|none=> -1):=by
 have gj:(enW w).length=w.length:=by simp
 unfold f_U;have:=zJe (body:=zUY x (enW w)) w.length (fun j=>if(hdS x (w.drop j)).isSome then iz (j:Int)else iA) 0 (L7 _) (fun i _ hi _=>by
  unfold zUY;rw[gj,yY hi,zM,zIm h hw hl hi,bs];cases hdS x (w.drop i)with
  |some r=>rfl
  |none=>
   simp only[Q2];rw[zK,zC (by omega) (by omega),bs,cs];rfl) (fun _=>by
  unfold zUY;rw[gj,xR,zK])
 rw[show((0:Nat):Int)=0 from rfl,G7,zMy w.length 0 w (by omega),Hv]at this;rw[this,bs];cases stI x w with
 |none=>rfl
 |some z=>simp only[Ho,zL5,Jf]
theorem zIn{v:List Int}(hn:x.zA.length≤6)(hv:zYg x.zA v):f_z v=iz (enW (nw 0 v))∧(nw 0 v).length≤36:=by
 have hb:∀i,i<v.length→0≤at0 v i∧at0 v i≤6:=fun i hi=>by have h1:=hv.2 i hi;have h2:=(h.os.2 i (by have:=hv.1;omega)).pos;omega
 have:=zF7 0 v fun i hi=>(hb i hi).2
 have hl:=hv.1;exact⟨zAd (by omega) hb,by omega⟩
theorem zCS(hn:x.zA.length≤6){w:List Nat}(hw:∀a∈w,a<x.zA.length)(hl:w.length≤900000){t:Nat}{r:zEg}(ht:t<w.length)(hr:hdS x (w.drop t)=iz r):zOz x (enW w) (t:Int)=iz (enW (w.take t++r.2.2)):=by
 have gu:∀i,i<w.length→w.getD i 0<x.zA.length:=fun i hi=>hw _ (by rw[J2,J3 hi];exact Ka hi)
 have ha:=gu t ht;obtain⟨o1,o2,o3⟩:=jC h ha;have gj:(enW w).length=w.length:=by simp
 have hd:=qS ht;have a1:((w.getD t 0:Nat):Int)+1-1=((w.getD t 0:Nat):Int):=by omega
 have a2:(t:Int)+((yK x (w.getD t 0):Nat):Int)=((t+yK x (w.getD t 0):Nat):Int):=by omega
 obtain⟨p1,p2⟩:=zIn h hn (h.tl _ ha).1.1;have h0:yB (enW w) 0 (t:Int)=iz (enW (w.take t)):=by have:=zDq (w:=w) (L7 t) (by omega);rw[show((0:Nat):Int)=0 from rfl,Hv,G7]at this;exact this
 have hs:∀q,q≤w.length→yB (enW w) (q:Int) (w.length:Int)=iz (enW (w.drop q)):=fun q hq=>by rw[zDq hq (Jl _),Jr (by rw[K3];omega)]
 have pw:swp x (w.drop t)=iA→(rng (((w.getD t 0:Nat):Int)+1-1)).bind (fun v3=>(yB (enW w) 0 (t:Int)).bind fun v4=>(ixO x.zR v3).bind fun v5=>(f_z v5).bind fun r6=>(ixO x.zA v3).bind fun v7=>(rng ((t:Int)+v7)).bind fun v8=>(yB (enW w) v8 (w.length:Int)).bind fun v9=>(f_s [v4,r6,v9]).bind fun r10=>iz r10)=iz (enW (w.take t++r.2.2)):=fun mj=>by
  unfold hdS at hr;rw[mj]at hr;simp only at hr;rw[hd]at hr;simp only[pws]at hr;split at hr
  ·rename_i g
   have ex:=zB6 g;rw[←hd,K3]at ex;cases hr;rw[a1,zC (by omega) (by omega),bs,h0,bs,yR [] (by rw[h.pl];exact ha),bs,p1,bs,o1,bs,a2,zC (by omega) (by omega),bs,hs _ (by omega),bs,jE (by simp) (by simp only[Lm,Hn,J5,Je,Jz,K3,Jg,J6,enW];omega),bs];simp only[Lm,Hn,Ja,enW,Kj];rw[←hd,Jbu]
  ·cases hr
 unfold zOz;rw[gj,zC (by omega) (by omega),bs]
 by_cases g:t+1<w.length
 ·have pH:=qS g
  have hb:=gu _ g;rw[iE (by omega),zM,sA ht,bs,bs,show(t:Int)+1=((t+1:Nat):Int)from by omega,sA g,bs]
  by_cases g2:w.getD (t+1) 0<w.getD t 0
  ·rw[hd,pH]at hr
   unfold hdS at hr;simp only[swp]at hr;rw[if_pos g2]at hr;cases hr;have fN:=h.tl _ hb;have di:=fN.2.2 (w.getD t 0-(w.getD (t+1) 0+1)) (by have:=fN.2.1;omega);obtain⟨q1,q2⟩:=zIn h hn di.1;have b1:((w.getD (t+1) 0:Nat):Int)+1-1=((w.getD (t+1) 0:Nat):Int):=by omega
   have b2:((w.getD t 0:Nat):Int)-((w.getD (t+1) 0:Nat):Int)-1=((w.getD t 0-(w.getD (t+1) 0+1):Nat):Int):=by omega
   rw[iE (by omega),zM,bs,a1,zC (by omega) (by omega),bs,bs,sA g,bs,b1,zC (by omega) (by omega),bs,h0,bs,zC (by omega) (by omega),bs,yR [] (by rw[h.cl];exact hb),bs,zC (by omega) (by omega),bs,b2,zC (by omega) (by omega),bs,yR [] (by have:=fN.2.1;omega),bs,q1,bs,zC (by omega) (by omega),bs,show(t:Int)+2=((t+2:Nat):Int)from by omega,hs _ (by omega),bs,jE (by simp) (by simp only[Lm,Hn,J5,Je,Jz,K3,Jg,J6,enW];omega),bs];simp only[Lm,Hn,Ja,enW,Kj,Js,Jy,Ju]
  ·rw[iD (by omega),zK,bs]
   exact pw (by rw[hd,pH];simp only[swp];rw[if_neg g2])
 ·rw[iD (by omega),zK,sA ht,bs]
  exact pw (by rw[hd,H4 (by omega)];rfl)
end
end
end Go.Pl

namespace Go.Pl
open Go Go.Ab Go.Wk Go.Pc
def smx(p:Int)(D N:Nat)(F:Nat→Nat→Nat→Int):List zU:=gl N fun r=>zU.mk p (D:Int) (gl D fun i=>mkv D fun j=>F r i j%p)
def upd(F:Nat→Nat→Nat→Int)(s:Int)(r0:Nat)(A:Mx)(c:Nat):Nat→Nat→Nat→Int:=fun r i j=>F r i j+if r=r0∧i<c then s*ent A i j else 0
theorem zB8{β:Type}{n:Nat}{f g:Nat→β}(h:∀i,i<n→f i=g i):gl n f=gl n g:=by simp only[gl];exact Qk fun i hi=>h i (Kh.1 hi)
section
variable {x:SPr}{m:zF}{D N:Nat}{s:Int}{r0:Nat}{A:Mx}{T0:List zU}
theorem zFL(hp:Prime m.Prime)(hD:D≤3)(hN:N≤100)(hs:-7≤s∧s≤7)(hr:r0<N)(hA:Mat m.Prime D A){F:Nat→Nat→Nat→Int}{L:(List zU)×Int→Option (((List zU)×Int)⊕(List zU))}
  (hL:L=zUV ⟨x,m,T0⟩ s (r0:Int) (zU.mk m.Prime (D:Int) A)∨L=zUW ⟨x,m,T0⟩ s (r0:Int) (zU.mk m.Prime (D:Int) A)∨L=zUX ⟨x,m,T0⟩ s (r0:Int) (zU.mk m.Prime (D:Int) A)):
  zH L (smx m.Prime D N F,0)=iz (smx m.Prime D N (upd F s r0 A D)):=by
 have am:=hp.pos;have cJ:=hA.1;have gA:∀c,c<D→ ∀(k:Nat),(c:Int)+1=(k:Int)→((ixO A (c:Int)).bind fun v10=>(ixO (smx m.Prime D N (upd F s r0 A c)) (r0:Int)).bind fun v11=>(ixO v11.Rows (c:Int)).bind fun v12=>(f_x v12 v10 s m.Prime).bind fun r13=>(rng ((c:Int)+1)).bind fun v14=>
   (iz (.inl ((smx m.Prime D N (upd F s r0 A c)).set (r0:Int).toNat (zU.mk v11.Prime v11.xU (v11.Rows.set (c:Int).toNat r13)),v14)):Option (((List zU)×Int)⊕(List zU))))=iz (.inl (smx m.Prime D N (upd F s r0 A (c+1)),((c+1:Nat):Int))):=fun c hc k _=>by
  have fE:Row m.Prime D (mkv D fun j=>upd F s r0 A c r0 c j%m.Prime):=⟨yA _ _,fun j hj=>by rw[yH hj];exact⟨L5 _ (show m.Prime≠0 by omega),by have:=Kl (upd F s r0 A c r0 c j) (show 0<m.Prime by omega);omega⟩⟩
  rw[yR [] (by omega),bs,smx,zAS hr,bs];simp only
  rw[zAS hc,bs,zB1 hp fE (hA.2 c hc) hs (by omega),bs,zC (by omega) (by omega),bs,J9,J9,zEc,zEc,cs]
  congr 3
  refine zB8 fun r _=>?_
  by_cases g:r=r0
  ·rw[if_pos g,g]
   congr 1
   refine zB8 fun i _=>?_
   by_cases g2:i=c
   ·rw[if_pos g2,g2,tU]
    refine zZ fun j hj=>?_
    rw[yH hj,upd,upd,if_neg (fun z=>absurd z.2 (Jbw c)),if_pos ⟨rfl,Nat.lt_succ_self c⟩,H5];show(F r0 c j%m.Prime+s*ent A c j)%m.Prime=_;rw[Jcr]
   ·rw[if_neg g2]
    refine zZ fun j hj=>?_
    rw[upd,upd]
    by_cases g3:i<c
    ·rw[if_pos ⟨rfl,g3⟩,if_pos ⟨rfl,by omega⟩]
    ·rw[if_neg (fun z=>g3 z.2),if_neg (fun z=>g3 (by omega))]
  ·rw[if_neg g]
   congr 1
   refine zB8 fun i _=>zZ fun j _=>?_
   rw[upd,upd,if_neg (fun z=>g z.1),if_neg (fun z=>g z.1)]
 have:=zV (body:=L) (r:=smx m.Prime D N (upd F s r0 A D)) (fun c=>(smx m.Prime D N (upd F s r0 A c),(c:Int))) D (fun c hc=>by
  rcases hL with rfl|rfl|rfl
  ·unfold zUV
   simp only
   rw[show((A.length:Nat):Int)=(D:Int)from by rw[cJ],yY hc,zM];exact gA c hc (c+1) (by omega)
  ·unfold zUW
   simp only
   rw[show((A.length:Nat):Int)=(D:Int)from by rw[cJ],yY hc,zM];exact gA c hc (c+1) (by omega)
  ·unfold zUX
   simp only
   rw[show((A.length:Nat):Int)=(D:Int)from by rw[cJ],yY hc,zM];exact gA c hc (c+1) (by omega)) (by
  rcases hL with rfl|rfl|rfl
  ·unfold zUV
   simp only
   rw[show((A.length:Nat):Int)=(D:Int)from by rw[cJ],xR,zK]
  ·unfold zUW
   simp only
   rw[show((A.length:Nat):Int)=(D:Int)from by rw[cJ],xR,zK]
  ·unfold zUX
   simp only
   rw[show((A.length:Nat):Int)=(D:Int)from by rw[cJ],xR,zK])
 rw[show smx m.Prime D N (upd F s r0 A 0)=smx m.Prime D N F from zB8 fun r _=>by
  congr 1
  refine zB8 fun i _=>zZ fun j _=>?_
  rw[upd,if_neg (fun z=>Ui _ z.2),H5]]at this
 exact this
end
theorem zT3:∀n:Nat,n<7→ ∀j:Nat,j<n→ ∀i:Nat,i<j→((rng ((n:Int)-1)).bind fun v10=>(rng ((i:Int)*v10)).bind fun v11=>(rng ((n:Int)+v11)).bind fun v12=>(rng ((i:Int)-1)).bind fun v13=>(rng ((i:Int)*v13)).bind fun v14=>(sL v14 2).bind fun v15=>(rng (v12-v15)).bind fun v16=>(rng (v16+(j:Int))).bind fun v17=>(rng (v17-(i:Int))).bind fun v18=>(rng (v18-1)).bind fun v19=>iz v19)=iz ((base n i+(j-(i+1)):Nat):Int):=by decide+kernel
end Go.Pl

namespace Go.Pl
open Go Go.Ab Go.Wk Go.Pc
section
variable {x:SPr}{m:zF}{D:Nat}{T0:List zU} (h:Pres x) (hn:x.zA.length≤6) (hD:MOk x.zA.length m D)
 include h hn
theorem zGq{w:List Nat}(hw:∀a∈w,a<x.zA.length)(hl:w.length≤900000){t:Nat}{r:zEg}(ht:t<w.length)(hr:hdS x (w.drop t)=iz r):zW0 ⟨x,m,T0⟩ (enW w) (t:Int)=iz (r.1:Int):=by
 have _:=h;have gu:∀i,i<w.length→w.getD i 0<x.zA.length:=fun i hi=>hw _ (by rw[J2,J3 hi];exact Ka hi)
 have ha:=gu t ht;have gj:(enW w).length=w.length:=by simp
 have hd:=qS ht;have a1:((w.getD t 0:Nat):Int)+1-1=((w.getD t 0:Nat):Int):=by omega
 have pw:swp x (w.drop t)=iA→(rng (((w.getD t 0:Nat):Int)+1-1)).bind (fun v3=>iz v3)=iz (r.1:Int):=fun mj=>by
  unfold hdS at hr;rw[mj]at hr;simp only at hr;rw[hd]at hr;simp only[pws]at hr;split at hr
  ·cases hr
   rw[a1,zC (by omega) (by omega),bs]
  ·cases hr
 unfold zW0;rw[gj,zC (by omega) (by omega),bs]
 by_cases g:t+1<w.length
 ·have pH:=qS g
  have hb:=gu _ g;rw[iE (by omega),zM,sA ht,bs,bs,show(t:Int)+1=((t+1:Nat):Int)from by omega,sA g,bs]
  by_cases g2:w.getD (t+1) 0<w.getD t 0
  ·rw[hd,pH]at hr
   unfold hdS at hr;simp only[swp]at hr;rw[if_pos g2]at hr;cases hr;have b1:((w.getD (t+1) 0:Nat):Int)+1-1=((w.getD (t+1) 0:Nat):Int):=by omega
   rw[iE (by omega),zM,bs,a1,zC (n:=((w.getD t 0:Nat):Int)) (by omega) (by omega),bs,bs,sA g,bs,b1,zC (n:=((w.getD (t+1) 0:Nat):Int)) (by omega) (by omega),bs];exact zT3 x.zA.length (by omega) (w.getD t 0) ha (w.getD (t+1) 0) g2
  ·rw[iD (by omega),zK,bs]
   exact pw (by rw[hd,pH];simp only[swp];rw[if_neg g2])
 ·rw[iD (by omega),zK,sA ht,bs]
  exact pw (by rw[hd,H4 (by omega)];rfl)
 include hD
theorem zFM{w:List Nat}(hw:∀a∈w,a<x.zA.length)(hl:w.length≤60000){t:Nat}{r:zEg}(ht:t<w.length)(hr:hdS x (w.drop t)=iz r){s:Int}(hs:-7≤s∧s≤7){F:Nat→Nat→Nat→Int}:
  f_l ⟨x,m,smx m.Prime D (base x.zA.length x.zA.length) F⟩ (enW w) (t:Int) s=iz (enW (w.take t++r.2.2),⟨x,m,smx m.Prime D (base x.zA.length x.zA.length) (upd F s r.1 (wM m.Prime D m.zP r.2.1 (idM D)) D)⟩):=by
 have hp:=hD.p.pos;have h3:=hD.d3;have co:=wT x.zA.length (by omega);have gu:∀i,i<w.length→w.getD i 0<x.zA.length:=fun i hi=>hw _ (by rw[J2,J3 hi];exact Ka hi)
 have ha:=gu t ht;obtain⟨o1,o2,o3⟩:=jC h ha;have gj:(enW w).length=w.length:=by simp
 have hd:=qS ht;have a1:((w.getD t 0:Nat):Int)+1-1=((w.getD t 0:Nat):Int):=by omega
 have a2:(t:Int)+((yK x (w.getD t 0):Nat):Int)=((t+yK x (w.getD t 0):Nat):Int):=by omega
 have u4:=zXm hn (fun a ha=>hw a (Jbj ha)) hr;have hA:∀z,Mat m.Prime D (wM m.Prime D m.zP z (idM D)):=fun z=>zHH (by omega) _ (qC (by omega))
 have gI:∀q,q≤w.length→yB (enW w) (q:Int) (w.length:Int)=iz (enW (w.drop q)):=fun q hq=>by rw[zDq hq (Jl _),Jr (by rw[K3];omega)]
 have bD:∀q,q≤w.length→f_Q m (enW (w.drop q))=iz (zU.mk m.Prime (D:Int) (wM m.Prime D m.zP (w.drop q) (idM D))):=fun q hq=>
  zI1 hD (by omega) (fun a ha=>hw a (Jbj ha)) (by rw[K3];omega)
 have pw:swp x (w.drop t)=iA→r.2.1=w.drop (t+yK x (w.getD t 0))∧t+yK x (w.getD t 0)≤w.length:=fun mj=>by
  unfold hdS at hr;rw[mj]at hr;simp only at hr;rw[hd]at hr;simp only[pws]at hr;split at hr
  ·rename_i g
   have ex:=zB6 g;rw[←hd,K3]at ex;cases hr;exact⟨by rw[←hd,Jbu],by omega⟩
  ·cases hr
 unfold f_l;rw[zGq h hn hw (by omega) ht hr,bs,zCS h hn hw (by omega) ht hr,bs,gj,zC (by omega) (by omega),bs]
 by_cases g:t+1<w.length
 ·have pH:=qS g
  have hb:=gu _ g;rw[iD (by omega),zK,sA ht,bs,bs,show(t:Int)+1=((t+1:Nat):Int)from by omega,sA g,bs]
  by_cases g2:w.getD (t+1) 0<w.getD t 0
  ·rw[hd,pH]at hr
   unfold hdS at hr;simp only[swp]at hr;rw[if_pos g2]at hr;cases hr;rw[iD (by omega),zK,zC (by omega) (by omega),bs,show(t:Int)+2=((t+2:Nat):Int)from by omega,gI _ (by omega),bs,bD _ (by omega),bs,zFL hD.p h3 (by omega) hs u4 (hA _) (.inr (.inr rfl)),bs]
  ·obtain⟨e1,e2⟩:=pw (by rw[hd,pH];simp only[swp];rw[if_neg g2])
   rw[iE (by omega),zM,bs,a1,zC (by omega) (by omega),bs,o1,bs,a2,zC (by omega) (by omega),bs,gI _ e2,bs,bD _ e2,bs,zFL hD.p h3 (by omega) hs u4 (hA _) (.inr (.inl rfl)),bs,e1]
 ·obtain⟨e1,e2⟩:=pw (by rw[hd,H4 (by omega)];rfl)
  rw[iE (by omega),zM,sA ht,bs,a1,zC (by omega) (by omega),bs,o1,bs,a2,zC (by omega) (by omega),bs,gI _ e2,bs,bD _ e2,bs,zFL hD.p h3 (by omega) hs u4 (hA _) (.inl rfl),bs,e1]
end
end Go.Pl

namespace Go.Pl
open Go Go.Ab Go.Wk Go.Pc
inductive Cb (x:SPr) (M:Nat):List Nat→Trc→List Nat→Prop where
 |refl (w:List Nat) (hl:w.length≤M) (hw:∀a∈w,a<x.zA.length):Cb x M w [] w
 |step {w w1 w' s:List Nat}{r:Nat}{tr:Trc} (hl:w.length≤M) (hw:∀a∈w,a<x.zA.length) (hs:stS x w=iz (r,s,w1)) (h:Cb x M w1 tr w'):Cb x M w ((r,s)::tr) w'
theorem Cb.st{x:SPr}{M:Nat}{w w':List Nat}{tr:Trc}(h:Cb x M w tr w'):w.length≤M∧ ∀a∈w,a<x.zA.length:=by
 cases h with
 |refl _ hl hw=>exact⟨hl,hw⟩
 |step hl hw _ _=>exact⟨hl,hw⟩
def zDy(m:zF)(D:Nat)(s:Int):(Nat→Nat→Nat→Int)→Trc→Nat→Nat→Nat→Int
 |F,[]=>F
 |F,(r,z)::tr=>zDy m D s (upd F s r (wM m.Prime D m.zP z (idM D)) D) tr
theorem zK8{m:zF}{D:Nat}{s:Int}{r i j:Nat}(hi:i<D):∀(tr:Trc)(F:Nat→Nat→Nat→Int),zDy m D s F tr r i j=F r i j+s*zBf m.Prime D m tr r i j
 | [],F=>by rw[zDy,zBf,L4,H5]
 |(q,z)::tr,F=>by
  rw[zDy,zK8 hi tr,upd,zBf,Ja1,Jc0]
  congr 2
  by_cases g:q=r
  ·rw[if_pos g,if_pos ⟨g.symm,hi⟩]
  ·rw[if_neg g,if_neg fun z=>g z.1.symm,L4]
abbrev zNW(x:SPr)(w:List Nat):Int:=match stI x w with
 |some z=>(z.1:Int)
 |none=> -1
section
variable {x:SPr}{m:zF}{D:Nat} (h:Pres x) (hn:x.zA.length≤6) (hD:MOk x.zA.length m D)
 include h hn hD
theorem zK9{s:Int}(hs:-7≤s∧s≤7){w w':List Nat}{tr:Trc}(hc:Cb x 60000 w tr w')(eI:stS x w'=iA):∀F:Nat→Nat→Nat→Int,
  zH (zRu s) (x,m,smx m.Prime D (base x.zA.length x.zA.length) F,enW w,zNW x w)=iz (x,m,smx m.Prime D (base x.zA.length x.zA.length) (zDy m D s F tr)):=by
 induction hc with
 |refl w hl hw=>
  intro F;have e:zNW x w= -1:=by
   rw[zK7]at eI;unfold zNW;cases g:stI x w with
   |none=>rfl
   |some z=>rw[g]at eI;cases eI
  rw[xL,e];unfold zRu;simp only
  rw[iD (by omega),zK];rfl
 |step hl hw gA hc ih=>
  rename_i w w1 w2 z r tr;intro F;rw[zK7]at gA;cases g:stI x w with
  |none=>rw[g]at gA;cases gA
  |some q=>
   rw[g]at gA;obtain⟨t,q⟩:=q;simp only[Ho,Ld.injEq,Jav.injEq]at gA;obtain⟨e1,e2,e3⟩:=gA;obtain⟨ht,hh⟩:=zPM g;simp only at ht hh;have cV:=hc.st;have e:zNW x w=(t:Int):=by unfold zNW;rw[g]
   have h1:=zFM h hn hD hw hl ht hh hs (F:=F);rw[e3,e1,e2]at h1;have h2:=zB7 h cV.2 (by omega);rw[xL,e];have hb:zRu s (x,m,smx m.Prime D (base x.zA.length x.zA.length) F,enW w,(t:Int))=iz (.inl (x,m,smx m.Prime D (base x.zA.length x.zA.length) (upd F s r (wM m.Prime D m.zP z (idM D)) D),enW w1,zNW x w1)):=by
    unfold zRu;simp only
    rw[iE (by omega),zM];refine(congrArg (fun o=>G4 o _) h1).trans ?_;rw[bs];simp only
    rw[h2,bs]
    try rfl
   rw[hb];simp only
   exact ih eI _
theorem zEY{s:Int}(hs:-7≤s∧s≤7){w w':List Nat}{tr:Trc}(hc:Cb x 60000 w tr w')(eI:stS x w'=iA)(F:Nat→Nat→Nat→Int):
  f_t ⟨x,m,smx m.Prime D (base x.zA.length x.zA.length) F⟩ (enW w) s=iz ⟨x,m,smx m.Prime D (base x.zA.length x.zA.length) (zDy m D s F tr)⟩:=by
 have cV:=hc.st;unfold f_t;rw[show f_U (xT.p ⟨x,m,smx m.Prime D (base x.zA.length x.zA.length) F⟩) (enW w)=iz (zNW x w)from zB7 h cV.2 (by omega),bs];have:=zK9 h hn hD hs hc eI F;refine(congrArg (fun o=>G4 o _) this).trans ?_;rw[bs]
end
end Go.Pl

namespace Go.Pl
open Go Go.Ab Go.Wk Go.Pc
inductive Cl (x:SPr) (k M:Nat):List Nat→Trc→List Nat→Prop where
 |refl (w:List Nat) (hl:w.length≤M) (hw:∀a∈w,k≤a∧a<x.zA.length):Cl x k M w [] w
 |step {w w1 w' s:List Nat}{r:Nat}{tr:Trc} (hl:w.length≤M) (hw:∀a∈w,k≤a∧a<x.zA.length) (hs:stS x w=iz (r,s,w1)) (h:Cl x k M w1 tr w'):Cl x k M w ((r,s)::tr) w'
theorem Cl.trans{x:SPr}{k M:Nat}{w w1 w2:List Nat}{t1 t2:Trc}(h:Cl x k M w t1 w1)(h2:Cl x k M w1 t2 w2):Cl x k M w (t1++t2) w2:=by
 induction h with
 |refl w=>exact h2
 |step hl hw hs _ ih=>exact .step hl hw hs (ih h2)
theorem Cl.mono{x:SPr}{k M M2:Nat}(hM:M≤M2){w w':List Nat}{tr:Trc}(h:Cl x k M w tr w'):Cl x k M2 w tr w':=by
 induction h with
 |refl w hl hw=>exact .refl _ (by omega) hw
 |step hl hw hs _ ih=>exact .step (by omega) hw hs ih
theorem Cl.cb{x:SPr}{k M:Nat}{w w':List Nat}{tr:Trc}(h:Cl x k M w tr w'):Cb x M w tr w':=by
 induction h with
 |refl w hl hw=>exact .refl _ hl fun a ha=>(hw a ha).2
 |step hl hw hs _ ih=>exact .step hl (fun a ha=>(hw a ha).2) hs ih
theorem Cl.col{x:SPr}{k M:Nat}{w w':List Nat}{tr:Trc}(h:Cl x k M w tr w'):Col x k w tr w':=by
 induction h with
 |refl w hl hw=>exact .refl _
 |step hl hw hs _ ih=>exact .step hw hs ih
section
variable {x:SPr} (h:Pres x)
 include h
theorem zPN:∀(d k:Nat),k+d=x.zA.length→ ∀y,V (suf x k) y→(nw k y).length≤6*d
 |0,k,hk,y,hy=>by
  rw[vV (x:=x) (k:=k) (by omega)]at hy;cases y with
  |nil=>simp[nw]
  |cons b y=>cases hy
 |d+1,k,hk,y,hy=>by
  have hp:=(h.os.2 k (by omega)).pos;rw[yG (x:=x) (by omega)]at hy;cases y with
  |nil=>exact hy.elim
  |cons b y=>
   obtain⟨⟨h1,h2⟩,h3⟩:=hy;have ih:=zPN d (k+1) (by omega) y h3;have cr:b<at0 x.zA k:=h2;simp only[nw,J5,J8];omega
theorem Cl.ctx{i a M:Nat}(hi:i<x.zA.length)(ha:a<yK x i){s:List Nat}(hs:∀b∈s,i≤b∧b<x.zA.length){w w':List Nat}{tr:Trc}(hc:Cl x (i+1) M w tr w'):
  Cl x i (a+M+s.length) (J0 a i++(w++s)) (tr.map fun q=>(q.1,q.2++s)) (J0 a i++(w'++s)):=by
 have mem:∀{w:List Nat},(∀b∈w,i+1≤b∧b<x.zA.length)→ ∀b∈J0 a i++(w++s),i≤b∧b<x.zA.length:=fun hw b hb=>by
  simp only[Jh]at hb;rcases hb with hb|hb|hb
  ·have:=Jm hb;omega
  ·have:=hw b hb;omega
  ·exact hs b hb
 induction hc with
 |refl w hl hw=>exact .refl _ (by simp;omega) (mem hw)
 | @step w w1 w' s1 r tr hl hw gA _ ih=>
  refine .step (by simp;omega) (mem hw) ?_ ih;rw[zEh ha a (Jl _) fun b hb=>?_,zKv (fun b hb=>zKy h (hw b hb).2) gA]
  ·rfl
  ·cases w with
   |nil=>cases gA
   |cons c w=>
    simp only[Jy,Gw,Ld.injEq]at hb;have:=hw c (by simp);omega
theorem zKA(hn:x.zA.length≤6){i j:Nat}(hi:i<j)(hj:j<x.zA.length):(nw 0 (lcj x i j)).length≤36:=(zIn h hn (uC h hi hj).1).2
theorem zPO(hn:x.zA.length≤6){i:Nat}:∀{ur:List Nat},(∀b∈ur,i+1≤b∧b<x.zA.length)→(cwd x i ur).length≤36*ur.length
 | [],_=>by simp[cwd]
 |l::ur,hu=>by
  have h1:=hu l (by simp);have h2:=zKA h hn (show i<l by omega) h1.2;have ih:=zPO hn (ur:=ur) fun b hb=>hu b (by simp[hb])
  simp only[cwd,J5,J6];omega
theorem Cl.move(hn6:x.zA.length≤6){i a:Nat}(hi:i<x.zA.length)(ha:a<yK x i):∀{ur:List Nat},(∀b∈ur,i+1≤b∧b<x.zA.length)→stS x ur.reverse=iA→ ∀{z:List Nat},(∀b∈z,i≤b∧b<x.zA.length)→
  Cl x i (a+1+37*ur.length+z.length) (J0 a i++(ur.reverse++i::z)) (mtr x i ur z) (J0 (a+1) i++(cwd x i ur++z))
 | [],_,_,z,hz=>by
  have e:J0 a i++(([]:List Nat).reverse++i::z)=J0 (a+1) i++(cwd x i []++z):=by rw[Ln];simp[cwd]
  rw[e];refine .refl _ (by simp[cwd]) fun b hb=>?_
  simp only[Jh,cwd,Ju]at hb;rcases hb with hb|hb
  ·have:=Jm hb;omega
  ·exact hz b hb
 |l::ur,hu,hn,z,hz=>by
  obtain⟨l1,l2⟩:=hu l (by simp);have eZ:∀b∈ur,i+1≤b∧b<x.zA.length:=fun b hb=>hu b (by simp[hb])
  have fP:=tZ h (uC h (show i<l by omega) l2) hi;have bm:=zKA h hn6 (show i<l by omega) l2;rw[Jbi]at hn ⊢
  have bg:=zGi (fun b hb=>zKy h (eZ b (by simpa using hb)).2) hn;have eK:∀b∈nw 0 (lcj x i l)++z,i≤b∧b<x.zA.length:=fun b hb=>by
   simp only[Jh]at hb;rcases hb with hb|hb
   ·have:=fP.2 b hb;omega
   ·exact hz b hb
  have ih:=(Cl.move hn6 hi ha eZ bg eK).mono (M2:=a+1+37*(l::ur).length+z.length) (by rw[J5,J6];omega);rw[show cwd x i (l::ur)++z=cwd x i ur++(nw 0 (lcj x i l)++z)from by simp[cwd]];have e1:ur.reverse++[l]++i::z=ur.reverse++l::i::z:=by simp
  rw[e1];refine .step (by simp;omega) (fun b hb=>?_) ?_ ih
  ·simp only[Jh,Jc,Qo]at hb
   rcases hb with hb|hb|hb|hb|hb
   ·have:=Jm hb;omega
   ·have:=eZ b hb;omega
   ·omega
   ·omega
   ·exact hz b hb
  ·rw[zEh ha a (Jl _) fun b hb=>?_,zTk (fun b hb=>by have:=eZ b (by simpa using hb);omega) (by omega) hn]
   ·rfl
   ·have:b∈ur.reverse++l::i::z:=Jb9 (by rw[hb];rfl)
    cases e:ur.reverse with
    |nil=>rw[e]at hb;simp only[Ju,Gw,Ld.injEq]at hb;omega
    |cons c t=>
     rw[e]at hb;simp only[Jy,Gw,Ld.injEq]at hb;have:=eZ c (by rw[←Qo,e];simp);omega
end
end Go.Pl

namespace Go.Pl
open Go Go.Ab Go.Wk Go.Pc
section
variable {x:SPr} (h:Pres x) (hn:x.zA.length≤6)
 include h hn
theorem zKB{k M W L:Nat}(hk:k<x.zA.length)(P:∀v:List Nat,v.length≤W→(∀a∈v,k+1≤a∧a<x.zA.length)→ ∃tr y,Cl x (k+1) M v tr (nw (k+1) y)∧V (suf x (k+1)) y):∀(z:List Nat),z.length≤L→(∀a∈z,k≤a∧a<x.zA.length)→ ∀(a:Nat),a<yK x k→ ∀(v:List Nat),v.length+z.length≤W→1400+z.length≤W→(∀a∈v,k+1≤a∧a<x.zA.length)→
  ∃tr y,Cl x k (M+L+1500) (J0 a k++(v++z)) tr (nw k y)∧V (suf x k) y
 | [],_,_,a,ha,v,pd,_,hv=>by
  obtain⟨tr,y,c1,c2⟩:=P v (by simpa using pd) hv;have ho:=(jC h hk).2.2;have hc:=(Cl.ctx h hk ha (s:=[]) (fun b hb=>by simp at hb) c1).mono (M2:=M+L+1500) (by simp;omega);rw[show(fun q:Nat×List Nat=>(q.1,q.2++[]))=id from by funext q;simp,List.map_id,Ja,Ja]at hc;refine⟨tr,(a:Int)::y,?_,?_⟩
  ·simp only[nw,J9];rw[Ja];exact hc
  ·rw[yG hk]
   refine⟨⟨by omega,?_⟩,c2⟩;show(a:Int)<at0 x.zA k;have:a<(at0 x.zA k).toNat:=ha;omega
 |l::z,mC,hz,a,ha,v,pd,hW,hv=>by
  have ho:=(jC h hk).2.2;have hzl2:z.length+1≤L:=by simpa using mC
  have pS:v.length+(z.length+1)≤W:=by simpa using pd
  have hW2:1400+(z.length+1)≤W:=by simpa using hW
  have eK:∀b∈z,k≤b∧b<x.zA.length:=fun b hb=>hz b (by simp[hb])
  obtain⟨l1,l2⟩:=hz l (by simp);rcases Jj k l with g|g
  ·obtain⟨tr,y,c1,c2⟩:=zKB (L:=L) hk P z (by omega) eK a ha (v++[l]) (by simp;omega) (by omega) (fun b hb=>by
    simp only[Jh,List.mem_singleton]at hb;rcases hb with hb|rfl
    ·exact hv b hb
    ·omega)
   exact⟨tr,y,by rw[Jd]at c1;exact c1,c2⟩
  ·obtain rfl:l=k:=by omega
   obtain⟨tr1,y1,c1,c2⟩:=P v (by omega) hv;have gO:=zPC h (show l+1≤x.zA.length by omega) c2;have cU:∀b∈(nw (l+1) y1).reverse,l+1≤b∧b<x.zA.length:=fun b hb=>gO b (by simpa using hb)
   have fg:(nw (l+1) y1).length≤36:=by have:=zPN h (x.zA.length-(l+1)) (l+1) (by omega) y1 c2;omega
   have gC:(cwd x l (nw (l+1) y1).reverse).length≤1296:=by have:=zPO h hn cU;rw[Jay]at this;omega
   have k1:=(Cl.ctx h hk ha (s:=l::z) hz c1).mono (M2:=M+L+1500) (by simp;omega);have k2:=(Cl.move h hn hk ha cU (by rw[Kn];exact zFJ h _ _ (by omega:l+1+(x.zA.length-(l+1))=x.zA.length) y1 c2) eK).mono (M2:=M+L+1500) (by rw[Jay];omega);rw[Kn]at k2;have p7:=zKz h cU;rcases Jj (a+1) (yK x l)with g2|g2
   ·obtain⟨tr2,y2,d1,d2⟩:=zKB (L:=L) hk P z (by omega) eK (a+1) g2 (cwd x l (nw (l+1) y1).reverse) (by omega) (by omega) p7
    exact⟨_,y2,k1.trans (k2.trans d1),d2⟩
   ·have g4:a+1=yK x l:=by omega
    have p5:=qX h hk;have pD:=tZ h p5 hk;have pM:=(zIn h hn p5.1).2;have aX:∀b∈nw 0 (x.zR.getD l [])++cwd x l (nw (l+1) y1).reverse,l+1≤b∧b<x.zA.length:=fun b hb=>by
     simp only[Jh]at hb;rcases hb with hb|hb
     ·exact pD.2 b hb
     ·exact p7 b hb
    obtain⟨tr2,y2,d1,d2⟩:=zKB (L:=L) hk P z (by omega) eK 0 (by omega) _ (by rw[J5];omega) (by omega) aX;rw[Ko,Ju,Jd]at d1;have k3:Cl x l (M+L+1500) (J0 (a+1) l++(cwd x l (nw (l+1) y1).reverse++z)) ((l,cwd x l (nw (l+1) y1).reverse++z)::tr2) (nw l y2):=by
     refine .step (by rw[J5,J5,J8];omega) (fun b hb=>?_) (by rw[g4];exact zWY (zKy h hk) _) d1;simp only[Jh]at hb;rcases hb with hb|hb|hb
     ·have:=Jm hb;omega
     ·have:=p7 b hb;omega
     ·exact eK b hb
    exact⟨_,y2,k1.trans (k2.trans k3),d2⟩
def lnB:Nat→Nat→Nat
 |0,l=>l
 |d+1,l=>lnB d (l+1400)+l+1500
theorem zXo:∀(d k:Nat),k+d=x.zA.length→ ∀(L:Nat)(z:List Nat),z.length≤L→(∀a∈z,k≤a∧a<x.zA.length)→ ∃tr y,Cl x k (lnB d L) z tr (nw k y)∧V (suf x k) y
 |0,k,hk,L,z,_,hz=>by
  have:z=[]:=by
   cases z with
   |nil=>rfl
   |cons a z=>have:=hz a (by simp);omega
  subst this;exact⟨[],[],.refl _ (by simp) (by simp),by rw[vV (x:=x) (k:=k) (by omega)];rfl⟩
 |d+1,k,hk,L,z,hl,hz=>by have ho:=zKy h (show k<x.zA.length by omega);obtain⟨tr,y,c1,c2⟩:=zKB h hn (M:=lnB d (L+1400)) (W:=L+1400) (L:=L) (show k<x.zA.length by omega) (fun v hv hvm=>zXo d (k+1) (by omega) (L+1400) v hv hvm) z hl hz 0 (by omega) [] (by simp;omega) (by omega) (fun b hb=>by simp at hb);exact⟨tr,y,by simpa[lnB]using c1,c2⟩
theorem zPP{k L:Nat}(hk:k≤x.zA.length){z:List Nat}(hl:z.length≤L){tr:Trc}{y:Vec}(hc:qN x k z tr y)(hz:∀a∈z,k≤a∧a<x.zA.length):Cb x (lnB (x.zA.length-k) L) z tr (nw k y)∧stS x (nw k y)=iA:=by obtain⟨tr2,y2,c1,c2⟩:=zXo h hn (x.zA.length-k) k (by omega) L z hl hz;have n1:=zFJ h (x.zA.length-k) k (by omega) y hc.v;have n2:=zFJ h (x.zA.length-k) k (by omega) y2 c2;obtain⟨e1,e2⟩:=Col.det hc.col c1.col n1 n2;rw[e1,e2];exact⟨c1.cb,n2⟩
end
theorem zYI:∀d:Nat,d<7→lnB d 100≤60000:=by decide
end Go.Pl

namespace Go.Pl
open Go Go.Ab Go.Wk Go.Pc
structure PD.Ok (x:SPr) (d:PD):Prop where
 h1:hdS x (d.wd.drop 0)=iz (d.r1,d.s1,d.w1)
 ht:d.t<d.wd.length
 h2:∃q,hdS x (d.wd.drop d.t)=iz (d.r2,d.s2,q)∧d.w2=d.wd.take d.t++q
 l:d.wd.length≤9
 l1:d.w1.length≤100
 l2:d.w2.length≤100
 m1:∀a∈d.w1,d.k≤a∧a<x.zA.length
 m2:∀a∈d.w2,d.k≤a∧a<x.zA.length
section
variable {x:SPr} (h:Pres x) (hn:x.zA.length≤6)
 include h hn
theorem zPQ{a b:Nat}{s:List Nat}(bV:b<a):hdS x (a::b::s)=iz (base x.zA.length b+(a-(b+1)),s,b::(nw 0 (lcj x b a)++s)):=by have _:=h;have _:=hn;unfold hdS;simp only[swp];rw[if_pos bV]
theorem zPR{a:Nat}{s:List Nat}(ha:a<x.zA.length):hdS x (J0 (yK x a) a++s)=iz (a,s,nw 0 (x.zR.getD a [])++s):=by
 have _:=hn;obtain⟨q,hq⟩:∃q,yK x a=q+2:=⟨yK x a-2,by have:=(jC h ha).2.1;omega⟩;have e:swp x (J0 (yK x a) a++s)=iA:=by rw[hq,Jq,Jq];simp only[Jy,swp];rw[if_neg (Jbw a)]
 unfold hdS;rw[e];have e2:J0 (yK x a) a++s=a::(J0 (q+1) a++s):=by rw[hq,Jq];rfl
 have e3:(J0 (yK x a) a++s).take (yK x a)=J0 (yK x a) a:=Jo (J8);have e4:(J0 (yK x a) a++s).drop (yK x a)=s:=K8 (J8);rw[e2]at e3 e4;rw[e2];simp only[pws];rw[if_pos e3,e4]
theorem zKC:∀d∈cps x,d.Ok x:=by
 have hH:∀i j,i<j→j<x.zA.length→ ∀a∈nw 0 (lcj x i j),i+1≤a∧a<x.zA.length:=fun i j hi hj=>(tZ h (uC h hi hj) (by omega)).2
 have ee:∀i,i<x.zA.length→ ∀a∈nw 0 (x.zR.getD i []),i+1≤a∧a<x.zA.length:=fun i hi=>(tZ h (qX h hi) hi).2
 have lcon:∀i j,i<j→j<x.zA.length→(nw 0 (lcj x i j)).length≤36:=fun i j hi hj=>zKA h hn hi hj
 have lpow:∀i,i<x.zA.length→(nw 0 (x.zR.getD i [])).length≤36:=fun i hi=>(zIn h hn (qX h hi).1).2
 have od:∀i,i<x.zA.length→2≤yK x i∧yK x i≤7:=fun i hi=>(jC h hi).2
 refine zAV.2 ⟨fun i j k h1 h2 h3=>?_,fun i j h1 h2=>?_,fun i j h1 h2=>?_,fun i h1=>?_⟩
 ·have c1:=lcon j k h2 h3
  have c2:=lcon i j h1 (by omega);refine⟨zPQ h hn h2,by simp[pd2],⟨i::(nw 0 (lcj x i j)++[]),zPQ h hn h1,by simp[pd2]⟩,by simp[pd2],by simp only[pd2,J6,J5,Jg];omega,by simp only[pd2,J6];omega,fun a ha=>?_,fun a ha=>?_⟩
  ·simp only[pd2,Jc,Jh,Jb1,or_false]at ha ⊢
   rcases ha with rfl|ha|rfl
   ·omega
   ·have:=hH j k (by omega) h3 a ha;omega
   ·omega
  ·simp only[pd2,Jc]at ha ⊢
   rcases ha with rfl|rfl|ha
   ·omega
   ·omega
   ·have:=hH i j (by omega) (by omega) a ha;omega
 ·have c1:=lpow j h2
  have c2:=lcon i j h1 h2;have o:=od j h2;have e:J0 (yK x j) j++[i]=J0 (yK x j-1) j++[j,i]:=by obtain⟨q,hq⟩:∃q,yK x j=q+1:=⟨yK x j-1,by omega⟩;rw[hq,Ln,Jb7,Jd];rfl
  refine⟨zPR h hn h2,by simp only[pd1,J5,J8,J6,Jg];omega,⟨i::(nw 0 (lcj x i j)++[]),?_,?_⟩,by simp only[pd1,J5,J8,J6,Jg];omega,by simp only[pd1,J6,J5,Jg];omega,by simp only[pd1,J5,J8,J6];omega,fun a ha=>?_,fun a ha=>?_⟩
  ·show hdS x ((J0 (yK x j) j++[i]).drop (yK x j-1))=_
   rw[e,K8 (J8)];exact zPQ h hn h1
  ·show _=(J0 (yK x j) j++[i]).take (yK x j-1)++_
   rw[e,Jo (J8),Ja];rfl
  ·simp only[pd1,Jh,List.mem_singleton]at ha ⊢
   rcases ha with ha|rfl
   ·have:=ee j h2 a ha;omega
   ·omega
  ·simp only[pd1,Jh,Jc]at ha ⊢
   rcases ha with ha|rfl|ha
   ·have:=Jm ha;omega
   ·omega
   ·have:=hH i j h1 h2 a ha;omega
 ·have c1:=lpow i (by omega)
  have c2:=lcon i j h1 h2;have o:=od i (by omega);have e:J0 (yK x i) i=i::J0 (yK x i-1) i:=by obtain⟨q,hq⟩:∃q,yK x i=q+1:=⟨yK x i-1,by omega⟩;rw[hq,Jq,Jb7]
  refine⟨?_,by simp only[pd4,J8,J6];omega,⟨nw 0 (x.zR.getD i [])++[],?_,by simp[pd4]⟩,by simp only[pd4,J8,J6];omega,by simp only[pd4,J6,J5,J8];omega,by simp only[pd4,J6];omega,fun a ha=>?_,fun a ha=>?_⟩
  ·show hdS x (j::J0 (yK x i) i)=_
   rw[e];exact zPQ h hn h1
  ·show hdS x (J0 (yK x i) i)=_
   have:=zPR h hn (s:=[]) (show i<x.zA.length by omega);rw[Ja]at this;exact this
  ·simp only[pd4,Jc,Jh]at ha ⊢
   rcases ha with rfl|ha|ha
   ·omega
   ·have:=hH i j h1 h2 a ha;omega
   ·have:=Jm ha;omega
  ·simp only[pd4,Jc]at ha ⊢
   rcases ha with rfl|ha
   ·omega
   ·have:=ee i (by omega) a ha;omega
 ·have c1:=lpow i h1
  have o:=od i h1;refine⟨?_,by simp only[pd3,J8];omega,⟨nw 0 (x.zR.getD i [])++[],?_,?_⟩,by simp only[pd3,J8];omega,by simp only[pd3,J6,J5,Jg];omega,by simp only[pd3,J6];omega,fun a ha=>?_,fun a ha=>?_⟩
  ·show hdS x (J0 (yK x i+1) i)=_
   rw[Ln];exact zPR h hn h1
  ·show hdS x ((J0 (yK x i+1) i).drop 1)=_
   rw[Jq,Jcp,Hv];have:=zPR h hn (s:=[]) h1;rw[Ja]at this;exact this
  ·show i::nw 0 (x.zR.getD i [])=(J0 (yK x i+1) i).take 1++_
   rw[Jq,Ja];rfl
  ·simp only[pd3,Jh,List.mem_singleton]at ha ⊢
   rcases ha with ha|rfl
   ·have:=ee i h1 a ha;omega
   ·omega
  ·simp only[pd3,Jc]at ha ⊢
   rcases ha with rfl|ha
   ·omega
   ·have:=ee i h1 a ha;omega
end
end Go.Pl

namespace Go.Pl
open Go Go.Ab Go.Wk Go.Pc
section
variable {x:SPr}{m:zF}{D:Nat} (h:Pres x) (hn:x.zA.length≤6) (hD:MOk x.zA.length m D)
 include h hn hD
theorem zQF{d:PD}(hd:d∈cps x){t1 t2:Trc}(hb:d.B x t1 t2)(F:Nat→Nat→Nat→Int):
  ((f_l ⟨x,m,smx m.Prime D (base x.zA.length x.zA.length) F⟩ (enW d.wd) ((0:Nat):Int) 1).bind fun r=>(f_t r.2 r.1 1).bind fun k2=>(f_l k2 (enW d.wd) (d.t:Int) (-1)).bind fun r3=>f_t r3.2 r3.1 (-1))=
   iz ⟨x,m,smx m.Prime D (base x.zA.length x.zA.length) (zDy m D (-1) (zDy m D 1 F t1) t2)⟩:=by
 have ok:=zKC h hn d hd;obtain⟨hk,mI,_⟩:=zG9 h hn d hd;obtain⟨⟨u1,y1,rfl,k1⟩,⟨u2,y2,rfl,k2⟩⟩:=hb;obtain⟨q,q1,q2⟩:=ok.h2;have hl:=ok.l;have ht:=ok.ht;obtain⟨c1,n1⟩:=zPP h hn (by omega) ok.l1 k1 ok.m1;obtain⟨c2,n2⟩:=zPP h hn (by omega) ok.l2 k2 ok.m2;have up:∀{w w':List Nat}{tr:Trc},Cb x (lnB (x.zA.length-d.k) 100) w tr w'→Cb x 60000 w tr w':=fun{w w' tr} hc=>by
  have hM:=zYI (x.zA.length-d.k) (by omega)
  generalize lnB (x.zA.length-d.k) 100=M at hc hM
  induction hc with
  |refl w hl hw=>exact .refl _ (by omega) hw
  |step hl hw hs _ ih=>exact .step (by omega) hw hs ih
 rw[zFM h hn hD mI (by omega) (by omega) ok.h1 (s:=1) (by omega) (F:=F),bs];simp only[K5,Ju];rw[zEY h hn hD (by omega) (up c1) n1,bs,zFM h hn hD mI (by omega) ht q1 (s:=-1) (by omega),bs];simp only
 rw[←q2,zEY h hn hD (by omega) (up c2) n2];rfl
end
theorem zT4{p:Int}{m:zF}{D r i:Nat}(hi:i<D){t1 t2:Trc}(hp:m.Prime=p):(mkv D fun j=>zDy m D (-1) (zDy m D 1 (fun _ _ _=>0) t1) t2 r i j%m.Prime)=prR p D m t1 t2 (r*D+i):=by
 subst hp;have e:=sT (q:=r) hi;rw[prR,e.1,e.2];refine zZ fun j _=>?_
 rw[zK8 hi,zK8 hi]
 congr 1
 omega
end Go.Pl

namespace Go.Pl
open Go Go.Ab Go.Wk Go.Pc
theorem tA{α β:Type}{f:α→List β}{c:Nat}(hf:∀a,(f a).length≤c):∀l:List α,(l.flatMap f).length≤l.length*c
 | []=>by simp
 |a::l=>by have:=tA hf l;have:=hf a;rw[Li,J5,J6,K6];omega
theorem zGA{x:SPr}(hn:x.zA.length≤6):(cps x).length≤300:=by
 have hu:∀i,(ups x.zA.length i).length≤6:=fun i=>by rw[ups,Q5];omega
 have h1:=tA (c:=36) (f:=fun i=>(ups x.zA.length i).flatMap fun j=>(ups x.zA.length j).map fun k=>pd2 x i j k) (fun i=>by have:=tA (c:=6) (f:=fun j=>(ups x.zA.length j).map fun k=>pd2 x i j k) (fun j=>by rw[Je];exact hu j) (ups x.zA.length i);have:=hu i;omega) (Ji x.zA.length)
 have h2:=tA (c:=6) (f:=fun i=>(ups x.zA.length i).map fun j=>pd1 x i j) (fun i=>by rw[Je];exact hu i) (Ji x.zA.length);have h3:=tA (c:=6) (f:=fun i=>(ups x.zA.length i).map fun j=>pd4 x i j) (fun i=>by rw[Je];exact hu i) (Ji x.zA.length);rw[Kt]at h1 h2 h3;rw[cps,J5,J5,J5,Je,Kt];omega
section
variable {x:SPr}{m:zF}{D:Nat} (hx:zCk x) (hD:MOk x.zA.length m D)
 include hx hD
theorem zMz(h0:0<x.zA.length)(hc:wQ (suf x 0))(hr:zF9 x m D){prs:List (Trc×Trc)}(hq:sF x (cps x) prs):∃K,f_n x m=iz K∧
  f_J m.Prime (gl (base x.zA.length x.zA.length*D) fun k=>zAe m.Prime D m prs k) ((prs.length*D:Nat):Int)=iz K:=by
 have h6:=hx.n6;have hp:=hD.p.pos;have hb:=wT x.zA.length (by omega);have h3:=hD.d3;have hB:base x.zA.length x.zA.length*D≤21*3:=K1 hb.2.1 h3;have hql:prs.length≤300:=by rw[←hq.len];exact zGA h6
 have hqD:prs.length*D≤300*3:=K1 hql h3;obtain⟨K,pk,k1,k2,k3⟩:=zGk hx hD h0 hc hr;obtain⟨K2,pk2,_,j2,j3,j4⟩:=zFC hD.p (c:=prs.length*D) (N:=base x.zA.length x.zA.length*D) (A:=gl (base x.zA.length x.zA.length*D) fun k=>zAe m.Prime D m prs k) (by omega) (fun k hk=>by rw[xW hk];refine⟨zIk prs,fun j hj=>?_⟩;have aV:0<D:=hD.d1;have hi:j/D<prs.length:=(Hd aV).2 hj;have hm:j%D<D:=Gd _ aV;have e:=zEX (F:=fun q:Trc×Trc=>prR m.Prime D m q.1 q.2 k) (fun _=>yA _ _) prs (j/D) (j%D) hi hm;rw[show j/D*D+j%D=j from by rw[H0];exact H3 j D]at e;rw[zAe,e,prR,yH hm];exact⟨L5 _ (show m.Prime≠0 by omega),by have:=Kl (zBf m.Prime D m (prs[j/D]).1 (k/D) (k%D) (j%D)-zBf m.Prime D m (prs[j/D]).2 (k/D) (k%D) (j%D)) (show 0<m.Prime by omega);omega⟩) xD
 have key:∀y,Row m.Prime (base x.zA.length x.zA.length*D) y→(Sp m.Prime (base x.zA.length x.zA.length*D) K y↔Sp m.Prime (base x.zA.length x.zA.length*D) K2 y):=fun y hy=>by rw[k3 y hy,j4 y,zT0 hx hD hq hc hr hy]
 have e:K=K2:=Red.unique (by omega) k2 j3 ⟨fun i hi=>(key _ (k2.row i hi)).1 (qM hi),fun i hi=>(key _ (j3.row i hi)).2 (qM hi)⟩;exact⟨K,k1,by rw[e];exact j2⟩
end
end Go.Pl

namespace Go.Pl
open Go Go.Ab Go.Wk Go.Pc
section
variable {x:SPr}{m:zF}{D:Nat} (h0:x.zA.length=0) (hD:MOk x.zA.length m D)
 include h0 hD
theorem zQG{T:Mx}:f_O ⟨x,m,T⟩=iz []:=by
 have _:=hD;unfold f_O;rw[xL];unfold zRi;simp only
 rw[h0,show decide ((0:Int)<((0:Nat):Int))=iC from rfl,zK];rfl
theorem zNX:∃K pk,f_n x m=iz K∧f_J m.Prime [] 0=iz K∧Red m.Prime 0 K pk:=by obtain⟨K,pk,k1,k2,k3,_⟩:=zFC hD.p (c:=0) (N:=0) (A:=[]) (by omega) (fun i hi=>absurd hi (Ui i)) rfl;refine⟨K,pk,?_,k2,k3⟩;unfold f_n;have e1:=zIl hD (N:=0) (by omega);have e2:=zJy hD (B:=0) (L:=[]) (by omega) (by simp) (fun r hr=>by cases hr);rw[Hg]at e1;rw[zBU h0 (by omega),bs,hD.d,show base 0 0=0 from rfl,show((0:Nat):Int)*(D:Int)=((0:Nat):Int)from by simp,zC (by omega) (by omega),bs,e1,bs,zQG h0 hD,bs,e2,bs,show((([]:Mx).length:Nat):Int)*(D:Int)=((0:Nat):Int)from by simp,zC (by omega) (by omega),bs];rw[show gl 0 (fun k=>zDx D k [])=([]:Mx)from rfl,k1,bs]
end
end Go.Pl

namespace Go.Pl
open Go Go.Ab Go.Wk Go.Pc
theorem yBH{v:Int}:f_e [v] 4=iz [v,v,v,v]:=by
 unfold f_e;have h:=zV (body:=uN) (r:=[v,v,v,v]) (fun i=>match i with|0=>([v,0,0,0],1)|1=>([v,v,0,0],2)|_=>([v,v,v,v],4)) 2 (fun i hi=>by
  match i,hi with
  |0,_=>simp[uN,yB,xJ,rng,inR]
  |1,_=>simp[uN,yB,xJ,rng,inR]) (by simp[uN])
 rw[show decide ((4:Int)<0)=iC from rfl,zK,zLS (by decide+kernel),bs];have hl:xH (IntKind.wrap .i64 4)=iz 4:=by decide+kernel
 simp only[hl,bs];rw[show decide ((0:Int)> 0)=iC from rfl,zK,show decide ((4:Int)> 9223372036854775807)=iC from by decide,zK];have e2:xJ (J0 4 (0:Int)) 0 (([v]:List Int).take ((J0 4 (0:Int)).length-0))=[v,0,0,0]:=by simp[xJ,J0]
 have e3:((min ([v]:List Int).length ((J0 4 (0:Int)).length-0):Nat):Int)=1:=by simp
 rw[e2,e3];have h':zH uN ([v,0,0,0],1)=_:=h;rw[h',bs]
theorem yBI{v:Int}:f_e [v] 6=iz [v,v,v,v,v,v]:=by
 unfold f_e;have h:=zV (body:=uN) (r:=[v,v,v,v,v,v]) (fun i=>match i with|0=>([v,0,0,0,0,0],1)|1=>([v,v,0,0,0,0],2)|2=>([v,v,v,v,0,0],4)|_=>([v,v,v,v,v,v],6)) 3 (fun i hi=>by
  match i,hi with
  |0,_=>simp[uN,yB,xJ,rng,inR]
  |1,_=>simp[uN,yB,xJ,rng,inR]
  |2,_=>simp[uN,yB,xJ,rng,inR]) (by simp[uN])
 rw[show decide ((6:Int)<0)=iC from rfl,zK,zLS (by decide+kernel),bs];have hl:xH (IntKind.wrap .i64 6)=iz 6:=by decide+kernel
 simp only[hl,bs];rw[show decide ((0:Int)> 0)=iC from rfl,zK,show decide ((6:Int)> 9223372036854775807)=iC from by decide,zK];have e2:xJ (J0 6 (0:Int)) 0 (([v]:List Int).take ((J0 6 (0:Int)).length-0))=[v,0,0,0,0,0]:=by simp[xJ,J0]
 have e3:((min ([v]:List Int).length ((J0 6 (0:Int)).length-0):Nat):Int)=1:=by simp
 rw[e2,e3];have h':zH uN ([v,0,0,0,0,0],1)=_:=h;rw[h',bs]
theorem yBJ{v:Int}:f_e [v] 8=iz [v,v,v,v,v,v,v,v]:=by
 unfold f_e;have h:=zV (body:=uN) (r:=[v,v,v,v,v,v,v,v]) (fun i=>match i with|0=>([v,0,0,0,0,0,0,0],1)|1=>([v,v,0,0,0,0,0,0],2)|2=>([v,v,v,v,0,0,0,0],4)|_=>([v,v,v,v,v,v,v,v],8)) 3 (fun i hi=>by
  match i,hi with
  |0,_=>simp[uN,yB,xJ,rng,inR]
  |1,_=>simp[uN,yB,xJ,rng,inR]
  |2,_=>simp[uN,yB,xJ,rng,inR]) (by simp[uN])
 rw[show decide ((8:Int)<0)=iC from rfl,zK,zLS (by decide+kernel),bs];have hl:xH (IntKind.wrap .i64 8)=iz 8:=by decide+kernel
 simp only[hl,bs];rw[show decide ((0:Int)> 0)=iC from rfl,zK,show decide ((8:Int)> 9223372036854775807)=iC from by decide,zK];have e2:xJ (J0 8 (0:Int)) 0 (([v]:List Int).take ((J0 8 (0:Int)).length-0))=[v,0,0,0,0,0,0,0]:=by simp[xJ,J0]
 have e3:((min ([v]:List Int).length ((J0 8 (0:Int)).length-0):Nat):Int)=1:=by simp
 rw[e2,e3];have h':zH uN ([v,0,0,0,0,0,0,0],1)=_:=h;rw[h',bs]
theorem zAW{β:Type}{body:List β×Int→Option ((List β×Int)⊕List β)}(s n B:Nat)(F:Nat→List β)(a0:List β)(hB:a0.length+((Kx s n).flatMap F).length≤B)
  (h:∀i acc,s≤i→i<s+n→acc.length+(F i).length≤B→body (acc,((i+1:Nat):Int))=iz (.inl (acc++F i,((i+1+1:Nat):Int))))(he:∀acc,body (acc,((s+n+1:Nat):Int))=iz (.inr acc)):
  zH body (a0,((s+1:Nat):Int))=iz (a0++(Kx s n).flatMap F):=by
 have:=zV (body:=body) (r:=a0++(Kx s n).flatMap F) (fun i=>(a0++(Kx s i).flatMap F,((s+i+1:Nat):Int))) n (fun i hi=>by
  have e:(Kx s (i+1)).flatMap F=(Kx s i).flatMap F++F (s+i):=by rw[List.range'_1_concat,G5,Li,Qr,Ja]
  have cS:((Kx s (i+1)).flatMap F).length≤((Kx s n).flatMap F).length:=by obtain⟨k,rfl⟩:∃k,n=i+1+k:=⟨n-(i+1),by omega⟩;have e3:Kx s (i+1+k)=Kx s (i+1)++Kx (s+(i+1)) k:=List.range'_append_1.symm;rw[e3,G5,J5];omega
  rw[e,J5]at cS;rw[h (s+i) _ (by omega) (by omega) (by rw[J5];omega),e,Jd];rfl) (he _)
 simpa using this
def CPd(d:PD):zL:=⟨enW d.wd,enW d.w1,enW d.w2⟩
section
variable {x:SPr} (h:Pres x) (hn:x.zA.length≤6)
 include h
theorem zM0{v:Int}{a:Nat}(ha:a<x.zA.length):zMT v ((yK x a:Nat):Int)=iz (J0 (yK x a) v):=by
 have hp:=h.os.2 a ha;have e:=(jC h ha).1;have e2:at0 x.zA a=((yK x a:Nat):Int):=by rw[yQ ha]at e;exact Ld.inj e
 rw[e2]at hp;unfold zMT;rw[zCN hp,bs,J9]
theorem zQH{v:Int}{a:Nat}(ha:a<x.zA.length):zMT v (((yK x a+1:Nat)):Int)=iz (J0 (yK x a+1) v):=by
 have hp:=h.os.2 a ha;have e:=(jC h ha).1;have e2:at0 x.zA a=((yK x a:Nat):Int):=by rw[yQ ha]at e;exact Ld.inj e
 rw[e2]at hp;have:yK x a=2∨yK x a=3∨yK x a=5∨yK x a=7:=by rcases hp with g|g|g|g<;>omega
 unfold zMT;rcases this with g|g|g|g<;>rw[g]
 ·exact(congrArg (fun o=>G4 o _) (zCN (v:=v) (o:=3) (.inr (.inl rfl)))).trans rfl
 ·exact(congrArg (fun o=>G4 o _) (yBH (v:=v))).trans rfl
 ·exact(congrArg (fun o=>G4 o _) (yBI (v:=v))).trans rfl
 ·exact(congrArg (fun o=>G4 o _) (yBJ (v:=v))).trans rfl
 include hn
theorem zEZ{d:PD}(hd:d∈cps x){out:List zL}(ho:out.length≤100000):f_V (enW d.wd) (d.t:Int) out x=iz (out++[CPd d]):=by have ok:=zKC h hn d hd;obtain⟨_,mI,_⟩:=zG9 h hn d hd;obtain⟨q,q1,q2⟩:=ok.h2;have hl:=ok.l;have ht:=ok.ht;unfold f_V;rw[show(0:Int)=((0:Nat):Int)from rfl,zCS h hn mI (by omega) (by omega) ok.h1,bs,zCS h hn mI (by omega) ht q1,bs,yE (by simp only[J6,Jg];omega),bs];simp only[K5,Ju];rw[←q2];rfl
end
end Go.Pl

namespace Go.Pl
open Go Go.Ab Go.Wk Go.Pc
theorem zCb{α β:Type}{f:α→β}:∀l:List α,(l.flatMap fun a=>[f a])=l.map f
 | []=>rfl
 |a::l=>by rw[Li,zCb l];rfl
theorem zAw{N i:Nat}(hN:N≤6):(ups N i).length≤6:=by rw[ups,Q5];omega
section
variable {x:SPr} (h:Pres x) (hn:x.zA.length≤6)
 include h hn
theorem yAL{i j:Nat}(gM:i<j)(hj:j<x.zA.length){o1 o2 out:List zL}(ho:out.length≤3000):
  zH (zRm x (o1,((i+1:Nat):Int)) (o2,((j+1:Nat):Int))) (out,((j+1+1:Nat):Int))=iz (out++(ups x.zA.length j).map fun k=>CPd (pd2 x i j k)):=by
 have hm:=((zAV (x:=x) (φ:=fun d=>d∈cps x)).1 fun d hd=>hd).1;have hu:=zAw (i:=j) hn;have:=zAW (body:=zRm x (o1,((i+1:Nat):Int)) (o2,((j+1:Nat):Int))) (j+1) (x.zA.length-(j+1)) 4000 (fun k=>[CPd (pd2 x i j k)]) out (by rw[zCb,Je];rw[ups]at hu;omega) (fun k acc hk1 fp hb=>by
  unfold zRm;simp only
  have e:([((k+1:Nat):Int),((j+1:Nat):Int),((i+1:Nat):Int)])=enW (pd2 x i j k).wd:=by
   show _=enW [k,j,i];simp only[enW,Js,He]
   congr 1
  rw[iE (by omega),zM,e,show(1:Int)=((pd2 x i j k).t:Int)from rfl,zEZ h hn (hm i j k gM (by omega) (by omega)) (by simp only[J6,Jg]at hb;omega),bs,show((k+1:Nat):Int)+((pd2 x i j k).t:Int)=((k+1+1:Nat):Int)from rfl,zC (by omega) (by omega),bs]) (fun acc=>by
  unfold zRm;simp only
  rw[iD (by omega),zK])
 rw[zCb]at this;exact this
theorem yAM{i:Nat}(hi:i<x.zA.length){o1 out:List zL}(ho:out.length≤2000):
  zH (zRn x (o1,((i+1:Nat):Int))) (out,((i+1+1:Nat):Int))=iz (out++(ups x.zA.length i).flatMap fun j=>(ups x.zA.length j).map fun k=>CPd (pd2 x i j k)):=by
 have hu:=zAw (i:=i) hn;have hf:=tA (c:=6) (f:=fun j=>(ups x.zA.length j).map fun k=>CPd (pd2 x i j k)) (fun j=>by rw[Je];exact zAw hn) (ups x.zA.length i);have:=zAW (body:=zRn x (o1,((i+1:Nat):Int))) (i+1) (x.zA.length-(i+1)) 3000 (fun j=>(ups x.zA.length j).map fun k=>CPd (pd2 x i j k)) out (by rw[ups]at hu hf;omega) (fun j acc hj1 pP hb=>by
  unfold zRn;simp only
  rw[iE (by omega),zM,show((j+1:Nat):Int)+1=((j+1+1:Nat):Int)from by omega,zC (by omega) (by omega),bs,yAL h hn (by omega) (by omega) (by omega),bs,bs]) (fun acc=>by
  unfold zRn;simp only
  rw[iD (by omega),zK])
 exact this
theorem yAN:zH (zRo x) ([],1)=iz ((Ji x.zA.length).flatMap fun i=>(ups x.zA.length i).flatMap fun j=>(ups x.zA.length j).map fun k=>CPd (pd2 x i j k)):=by
 have hf:=tA (c:=36) (f:=fun i=>(ups x.zA.length i).flatMap fun j=>(ups x.zA.length j).map fun k=>CPd (pd2 x i j k)) (fun i=>by have:=tA (c:=6) (f:=fun j=>(ups x.zA.length j).map fun k=>CPd (pd2 x i j k)) (fun j=>by rw[Je];exact zAw hn) (ups x.zA.length i);have:=zAw (i:=i) hn;omega) (Ji x.zA.length)
 rw[Kt]at hf;have:=zAW (body:=zRo x) 0 x.zA.length 2000 (fun i=>(ups x.zA.length i).flatMap fun j=>(ups x.zA.length j).map fun k=>CPd (pd2 x i j k)) [] (by rw[←Lp];simp only[Jg];omega) (fun i acc aG eQ hb=>by
  unfold zRo;simp only
  rw[iE (by omega),zM,show((i+1:Nat):Int)+1=((i+1+1:Nat):Int)from by omega,zC (by omega) (by omega),bs,yAM h hn (by omega) (by omega),bs,bs]) (fun acc=>by
  unfold zRo;simp only
  rw[iD (by omega),zK])
 rw[←Lp,Ju]at this;exact this
theorem yAO{i:Nat}(hi:i<x.zA.length){o1 out:List zL}(ho:out.length≤3000):
  zH (zRp x (o1,((i+1:Nat):Int))) (out,((i+1+1:Nat):Int))=iz (out++(ups x.zA.length i).map fun j=>CPd (pd1 x i j)):=by
 have hm:=((zAV (x:=x) (φ:=fun d=>d∈cps x)).1 fun d hd=>hd).2.1;have hu:=zAw (i:=i) hn;have:=zAW (body:=zRp x (o1,((i+1:Nat):Int))) (i+1) (x.zA.length-(i+1)) 4000 (fun j=>[CPd (pd1 x i j)]) out (by rw[zCb,Je];rw[ups]at hu;omega) (fun j acc hj1 pP hb=>by
  have ho:=jC h (show j<x.zA.length by omega);unfold zRp;simp only
  have e:J0 (yK x j) ((j+1:Nat):Int)++[((i+1:Nat):Int)]=enW (pd1 x i j).wd:=by show _=enW (J0 (yK x j) j++[i]);simp only[enW,Kj,Q4,Js,He];rfl
  have et:((yK x j:Nat):Int)-1=((pd1 x i j).t:Int):=by show _=((yK x j-1:Nat):Int);omega
  rw[iE (by omega),zM,show((j+1:Nat):Int)-1=(j:Int)from by omega,zC (n:=(j:Int)) (by omega) (by omega),bs,ho.1,bs,zM0 h (by omega),bs,yE (by simp only[J8,J6,Jg];omega),bs,bs,ho.1,bs,zC (n:=((yK x j:Nat):Int)-1) (by omega) (by omega),bs,e,et,zEZ h hn (hm i j (by omega) (by omega)) (by simp only[J6,Jg]at hb;omega),bs,show((j+1:Nat):Int)+1=((j+1+1:Nat):Int)from by omega,zC (by omega) (by omega),bs]) (fun acc=>by
  unfold zRp;simp only
  rw[iD (by omega),zK])
 rw[zCb]at this;exact this
theorem yAP{out:List zL}(ho:out.length≤1000):zH (zRq x) (out,1)=iz (out++(Ji x.zA.length).flatMap fun i=>(ups x.zA.length i).map fun j=>CPd (pd1 x i j)):=by
 have hf:=tA (c:=6) (f:=fun i=>(ups x.zA.length i).map fun j=>CPd (pd1 x i j)) (fun i=>by rw[Je];exact zAw hn) (Ji x.zA.length);rw[Kt]at hf;have:=zAW (body:=zRq x) 0 x.zA.length 2000 (fun i=>(ups x.zA.length i).map fun j=>CPd (pd1 x i j)) out (by rw[←Lp];omega) (fun i acc aG eQ hb=>by
  unfold zRq;simp only
  rw[iE (by omega),zM,show((i+1:Nat):Int)+1=((i+1+1:Nat):Int)from by omega,zC (by omega) (by omega),bs,yAO h hn (by omega) (by omega),bs,bs]) (fun acc=>by
  unfold zRq;simp only
  rw[iD (by omega),zK])
 rw[←Lp]at this;exact this
theorem yAQ{i:Nat}(hi:i<x.zA.length){o1 out:List zL}(ho:out.length≤3000):
  zH (zRr x (o1,((i+1:Nat):Int))) (out,((i+1+1:Nat):Int))=iz (out++(ups x.zA.length i).map fun j=>CPd (pd4 x i j)):=by
 have hm:=((zAV (x:=x) (φ:=fun d=>d∈cps x)).1 fun d hd=>hd).2.2.1;have hu:=zAw (i:=i) hn;have ho:=jC h hi;have:=zAW (body:=zRr x (o1,((i+1:Nat):Int))) (i+1) (x.zA.length-(i+1)) 4000 (fun j=>[CPd (pd4 x i j)]) out (by rw[zCb,Je];rw[ups]at hu;omega) (fun j acc hj1 pP hb=>by
  unfold zRr;simp only
  have e:[((j+1:Nat):Int)]++J0 (yK x i) ((i+1:Nat):Int)=enW (pd4 x i j).wd:=by show _=enW (j::J0 (yK x i) i);simp only[enW,Q4,Js];rfl
  rw[iE (by omega),zM,show((i+1:Nat):Int)-1=(i:Int)from by omega,zC (n:=(i:Int)) (by omega) (by omega),bs,ho.1,bs,zM0 h hi,bs,yE (by simp only[J8,J6,Jg];omega),bs,e,show(1:Int)=((pd4 x i j).t:Int)from rfl,zEZ h hn (hm i j (by omega) (by omega)) (by simp only[J6,Jg]at hb;omega),bs,show((j+1:Nat):Int)+((pd4 x i j).t:Int)=((j+1+1:Nat):Int)from rfl,zC (by omega) (by omega),bs]) (fun acc=>by
  unfold zRr;simp only
  rw[iD (by omega),zK])
 rw[zCb]at this;exact this
theorem yAR{out:List zL}(ho:out.length≤1000):zH (zRs x) (out,1)=iz (out++(Ji x.zA.length).flatMap fun i=>(ups x.zA.length i).map fun j=>CPd (pd4 x i j)):=by
 have hf:=tA (c:=6) (f:=fun i=>(ups x.zA.length i).map fun j=>CPd (pd4 x i j)) (fun i=>by rw[Je];exact zAw hn) (Ji x.zA.length);rw[Kt]at hf;have:=zAW (body:=zRs x) 0 x.zA.length 2000 (fun i=>(ups x.zA.length i).map fun j=>CPd (pd4 x i j)) out (by rw[←Lp];omega) (fun i acc aG eQ hb=>by
  unfold zRs;simp only
  rw[iE (by omega),zM,show((i+1:Nat):Int)+1=((i+1+1:Nat):Int)from by omega,zC (by omega) (by omega),bs,yAQ h hn (by omega) (by omega),bs,bs]) (fun acc=>by
  unfold zRs;simp only
  rw[iD (by omega),zK])
 rw[←Lp]at this;exact this
theorem yAS{out:List zL}(ho:out.length≤1000):zH (zRt x) (out,1)=iz (out++(Ji x.zA.length).map fun i=>CPd (pd3 x i)):=by
 have hm:=((zAV (x:=x) (φ:=fun d=>d∈cps x)).1 fun d hd=>hd).2.2.2;have:=zAW (body:=zRt x) 0 x.zA.length 2000 (fun i=>[CPd (pd3 x i)]) out (by rw[zCb,Je,Q5];omega) (fun i acc aG eQ hb=>by
  have ho:=jC h (show i<x.zA.length by omega);unfold zRt;simp only
  have e:J0 (yK x i+1) ((i+1:Nat):Int)=enW (pd3 x i).wd:=by show _=enW (J0 (yK x i+1) i);simp only[enW,Q4];rfl
  rw[iE (by omega),zM,show((i+1:Nat):Int)-1=(i:Int)from by omega,zC (n:=(i:Int)) (by omega) (by omega),bs,ho.1,bs,show((yK x i:Nat):Int)+1=((yK x i+1:Nat):Int)from by omega,zC (n:=((yK x i+1:Nat):Int)) (by omega) (by omega),bs,zQH h (by omega),bs,e,show(1:Int)=((pd3 x i).t:Int)from rfl,zEZ h hn (hm i (by omega)) (by simp only[J6,Jg]at hb;omega),bs,show((i+1:Nat):Int)+((pd3 x i).t:Int)=((i+1+1:Nat):Int)from rfl,zC (by omega) (by omega),bs]) (fun acc=>by
  unfold zRt;simp only
  rw[iD (by omega),zK])
 rw[zCb,←Lp]at this;exact this
theorem zEj:f_f x=iz ((cps x).map CPd):=by
 have hl:=zGA (x:=x) hn;have em:(cps x).map CPd=((Ji x.zA.length).flatMap fun i=>(ups x.zA.length i).flatMap fun j=>(ups x.zA.length j).map fun k=>CPd (pd2 x i j k))++(((Ji x.zA.length).flatMap fun i=>(ups x.zA.length i).map fun j=>CPd (pd1 x i j))++(((Ji x.zA.length).flatMap fun i=>(ups x.zA.length i).map fun j=>CPd (pd4 x i j))++(Ji x.zA.length).map fun i=>CPd (pd3 x i))):=by simp only[cps,Kj,List.map_flatMap,Jar];rfl
 have aC:((cps x).map CPd).length≤300:=by rw[Je];exact hl
 rw[em]at aC;simp only[J5]at aC;unfold f_f;rw[yAN h hn,bs,yAP h hn (by omega),bs,yAR h hn (by simp only[J5];omega),bs,yAS h hn (by simp only[J5];omega),bs,em];simp only[Jd]
end
end Go.Pl

namespace Go.Pl
open Go Go.Ab Go.Wk Go.Pc
theorem yBK:zYY=zMU:=rfl
theorem yBL:zYZ=zMU:=rfl
theorem sF.get{x:SPr}:{ds:List PD}→{qs:List (Trc×Trc)}→sF x ds qs→ ∀k(h1:k<ds.length)(h2:k<qs.length),(ds[k]).B x (qs[k]).1 (qs[k]).2
 | [],[],_,k,h1,_=>by simp at h1
 |d::ds,q::qs,h,0,_,_=>h.1
 |d::ds,q::qs,h,k+1,h1,h2=>by simpa using sF.get h.2 k (by simpa using h1) (by simpa using h2)
 | [],_::_,h,_,_,_=>by simp[sF]at h
 |_::_,[],h,_,_,_=>by simp[sF]at h
theorem zQI{p:Int}{D:Nat}{m:zF}{prs:List (Trc×Trc)}{k q:Nat}(hk:k<prs.length):zAe p D m (prs.take (k+1)) q=zAe p D m (prs.take k) q++prR p D m (prs[k]).1 (prs[k]).2 q:=by simp only[zAe];rw[K0 hk,Kj,Qm];simp
section
variable {x:SPr}{m:zF}{D:Nat} (hD:MOk x.zA.length m D)
 include hD
theorem yAT:zH (zRv ⟨m.Prime,(D:Int),idM D⟩) (idM D,0)=iz (gl D fun _=>mkv D fun _=>0):=by
 have h3:=hD.d3;have:=zV (body:=zRv ⟨m.Prime,(D:Int),idM D⟩) (r:=gl D fun _=>mkv D fun _=>0) (fun i=>(gl D fun a=>mkv D fun j=>if j=a then(if a<i then 0 else 1)else 0,(i:Int))) D (fun i hi=>by
  unfold zRv;simp only
  rw[uJ,yY hi,zM,zAS hi,bs,yQ (by rw[yA];exact hi),bs,zC (by omega) (by omega),bs];simp only[J9];rw[zEc,qU]
  congr 3
  refine uB fun a _=>?_
  by_cases e:a=i
  ·subst e
   rw[if_pos rfl];refine zZ fun j _=>?_
   by_cases e2:j=a
   ·rw[if_pos e2,if_pos e2,if_pos (by omega)]
   ·rw[if_neg e2,if_neg e2,if_neg e2]
  ·rw[if_neg e]
   refine zZ fun j _=>?_
   by_cases e2:j=a
   ·rw[if_pos e2,if_pos e2]
    by_cases e3:a<i
    ·rw[if_pos e3,if_pos (by omega)]
    ·rw[if_neg e3,if_neg (by omega)]
   ·rw[if_neg e2,if_neg e2]) (by
  unfold zRv;simp only
  rw[uJ,xR,zK]
  congr 2
  refine uB fun a ha=>zZ fun j _=>?_
  rw[if_pos ha];split<;>rfl)
 have e:(gl D fun a=>mkv D fun j=>if j=a then(if a<0 then(0:Int)else 1)else 0)=idM D:=uB fun a _=>zZ fun j _=>by
  by_cases e2:j=a
  ·rw[if_pos e2,if_pos e2,if_neg (by omega)]
  ·rw[if_neg e2,if_neg e2]
 rw[e]at this;exact this
theorem yAU{N:Nat}(hN:N≤100):zH (zRw m (N:Int)) ([],0)=iz (smx m.Prime D N fun _ _ _=>0):=by
 refine(wW (body:=zRw m (N:Int)) N (fun _=>zU.mk m.Prime (D:Int) (gl D fun _=>mkv D fun _=>0)) (fun i acc hi ha=>?_) (fun acc=>?_)).trans ?_
 ·unfold zRw
  simp only
  rw[yY hi,zM,hD.d,zBc hD.p (by have:=hD.d3;omega),bs];simp only
  rw[yAT hD,bs,yE (by simp only[J6,Jg];omega),bs,zC (by omega) (by omega),bs];rfl
 ·unfold zRw
  simp only
  rw[xR,zK]
 ·rfl
section
variable {N:Nat}{G:Nat→Nat→Nat→Int}{R:Nat→List Int}
abbrev zDD(p:Int)(D:Nat)(G:Nat→Nat→Nat→Int)(R:Nat→List Int)(k:Nat):List Int:=R k++mkv D fun j=>G (k/D) (k%D) j%p
theorem yAV(hN:N≤100)(hR:∀k,(R k).length≤100000){r:Nat}(hr:r<N){z:Mx}:
  zH (zRx m (z,(r:Int)) ⟨m.Prime,(D:Int),gl D fun i=>mkv D fun j=>G r i j%m.Prime⟩) (gl (N*D) fun k=>if k<r*D then zDD m.Prime D G R k else R k,0)=iz (gl (N*D) fun k=>if k<(r+1)*D then zDD m.Prime D G R k else R k):=by
 have h3:=hD.d3;have h1:=hD.d1;have hb:(r+1)*D≤N*D:=K7 D (by omega);have pR:N*D≤100*3:=K1 hN h3;rw[K6]at hb;have:=zV (body:=zRx m (z,(r:Int)) ⟨m.Prime,(D:Int),gl D fun i=>mkv D fun j=>G r i j%m.Prime⟩) (r:=gl (N*D) fun k=>if k<(r+1)*D then zDD m.Prime D G R k else R k) (fun i=>(gl (N*D) fun k=>if k<r*D+i then zDD m.Prime D G R k else R k,(i:Int))) D (fun i hi=>by
  obtain⟨e1,e2⟩:=sT (q:=r) hi;unfold zRx;simp only
  rw[xD,yY hi,zM,zAS hi,bs,hD.d,←Lh,zC (by omega) (by omega),bs,←Ky,zC (by omega) (by omega),bs,zAS (show r*D+i<N*D by omega),bs,if_neg (by omega),yE (by rw[yA];have:=hR (r*D+i);omega),bs,zC (by omega) (by omega),bs];simp only[J9];rw[zEc]
  congr 3
  refine uB fun k _=>?_
  by_cases e:k=r*D+i
  ·subst e
   rw[if_pos rfl,if_pos (by omega),zDD,e1,e2]
  ·rw[if_neg e]
   by_cases e3:k<r*D+i
   ·rw[if_pos e3,if_pos (by omega)]
   ·rw[if_neg e3,if_neg (by omega)]) (by
  unfold zRx;simp only
  rw[xD,xR,zK,K6])
 exact this
theorem yAW(hN:N≤100)(hR:∀k,(R k).length≤100000):zH (zMU m ⟨x,m,smx m.Prime D N G⟩) (gl (N*D) R,0)=iz (gl (N*D) (zDD m.Prime D G R)):=by
 have gj:(smx m.Prime D N G).length=N:=xD;have:=zV (body:=zMU m ⟨x,m,smx m.Prime D N G⟩) (r:=gl (N*D) (zDD m.Prime D G R)) (fun i=>(gl (N*D) fun k=>if k<i*D then zDD m.Prime D G R k else R k,(i:Int))) N (fun i hi=>by
  unfold zMU;simp only
  rw[gj,yY hi,zM,smx,zAS hi,bs,yAV hD hN hR hi,bs,zC (by omega) (by omega),bs];rfl) (by
  unfold zMU;simp only
  rw[gj,xR,zK]
  congr 2
  exact uB fun k hk=>by rw[if_pos hk])
 simp only[Hg,Ui,if_false]at this;exact this
end
end
theorem yAX{x:SPr}(h:Pres x):∀d∈cps x,2≤d.wd.length∧((d.wd.getD 0 0=d.wd.getD 1 0∧d.wd.getD (d.wd.length-1) 0≠d.wd.getD 0 0∧d.t=d.wd.length-2)∨(d.wd.getD 0 0=d.wd.getD 1 0∧d.wd.getD (d.wd.length-1) 0=d.wd.getD 0 0∧d.t=1)∨(d.wd.getD 0 0≠d.wd.getD 1 0∧d.t=1)):=by
 refine zAV.2 ⟨fun i j k h1 h2 h3=>?_,fun i j h1 h2=>?_,fun i j h1 h2=>?_,fun i h1=>?_⟩
 ·refine⟨by simp[pd2],.inr (.inr ⟨?_,rfl⟩)⟩
  show k≠j;omega
 ·have o:=(jC h h2).2
  obtain⟨q,hq⟩:∃q,yK x j=q+2:=⟨yK x j-2,by omega⟩;simp only[pd1,hq,J5,J8,J6,Jg];refine⟨by omega,.inl ⟨rfl,?_,by omega⟩⟩;have:(J0 (q+2) j++[i]).getD (q+2+(0+1)-1) 0=i:=by rw[J2,Jb (by simp)];simp
  rw[this];show i≠j;omega
 ·have o:=(jC h (show i<x.zA.length by omega)).2
  obtain⟨q,hq⟩:∃q,yK x i=q+2:=⟨yK x i-2,by omega⟩;simp only[pd4,hq,J8,J6];refine⟨by omega,.inr (.inr ⟨?_,trivial⟩)⟩;show j≠i;omega
 ·have o:=(jC h h1).2
  obtain⟨q,hq⟩:∃q,yK x i=q+2:=⟨yK x i-2,by omega⟩;simp only[pd3,hq,J8];refine⟨by omega,.inr (.inl ⟨rfl,?_,trivial⟩)⟩;have:(J0 (q+2+1) i).getD (q+2+1-1) 0=i:=by rw[J2];simp
  rw[this];rfl
section
variable {x:SPr}{m:zF}{D:Nat} (h:Pres x) (hn:x.zA.length≤6) (hD:MOk x.zA.length m D)
 include h hn hD
theorem zVW{prs:List (Trc×Trc)}(hq:sF x (cps x) prs){k:Nat}(hk:k<(cps x).length){N:Nat}(hN:N=base x.zA.length x.zA.length):
  zRy x m (N:Int) ((cps x).map CPd) (gl (N*D) (fun q=>zAe m.Prime D m (prs.take k) q),(k:Int))=iz (.inl (gl (N*D) (fun q=>zAe m.Prime D m (prs.take (k+1)) q),((k+1:Nat):Int))):=by
 subst hN;have hl:=hq.len;have hd:=Ka hk;have fp:k<prs.length:=by omega
 have co:=wT x.zA.length (by omega);have h3:=hD.d3;have h1:=hD.d1;have gC:=zGA (x:=x) hn;have cB:=zQF h hn hD hd (hq.get k hk fp) (fun _ _ _=>0);obtain⟨w2,ht⟩:=yAX h _ hd;have hlw:=(zKC h hn _ hd).l;have fN:=(zKC h hn _ hd).ht;have hR:∀q,(zAe m.Prime D m (prs.take k) q).length≤100000:=fun q=>by rw[zIk,Jz];have:min k prs.length*D≤300*3:=K1 (by omega) h3;omega
 have cx:=yAW (x:=x) (G:=zDy m D (-1) (zDy m D 1 (fun _ _ _=>0) (prs[k]).1) (prs[k]).2) hD (show base x.zA.length x.zA.length≤100 by omega) hR;have erow:gl (base x.zA.length x.zA.length*D) (zDD m.Prime D (zDy m D (-1) (zDy m D 1 (fun _ _ _=>0) (prs[k]).1) (prs[k]).2) (fun q=>zAe m.Prime D m (prs.take k) q))=gl (base x.zA.length x.zA.length*D) fun q=>zAe m.Prime D m (prs.take (k+1)) q:=uB fun q _=>by have hm:q%D<D:=Gd _ (by omega);rw[zQI fp,zDD,zT4 hm rfl,show q/D*D+q%D=q from by rw[H0];exact H3 q D]
 rw[erow]at cx;have hix:ixO ((cps x).map CPd) (k:Int)=iz (CPd (cps x)[k]):=by rw[kN (by rw[Je];exact hk)];simp
 generalize (cps x)[k]=d at*
 have key:∀K:xT→Option ((Mx×Int)⊕Mx),((f_l ⟨x,m,smx m.Prime D (base x.zA.length x.zA.length) fun _ _ _=>0⟩ (enW d.wd) 0 1).bind fun r=>(f_t r.2 r.1 1).bind fun k2=>(f_l k2 (enW d.wd) (d.t:Int) (-1)).bind fun r3=>(f_t r3.2 r3.1 (-1)).bind K)=K ⟨x,m,smx m.Prime D (base x.zA.length x.zA.length) (zDy m D (-1) (zDy m D 1 (fun _ _ _=>0) (prs[k]).1) (prs[k]).2)⟩:=fun K=>by have e:=congrArg (fun o=>G4 o K) cB;simp only[Option.bind_assoc,bs]at e;exact e
 unfold zRy;simp only
 rw[Je,yY hk,zM,hix,bs,yAU hD (by omega),bs];simp only[CPd];have i0:=sA (w:=d.wd) (t:=0) (by omega);have i1:=sA (w:=d.wd) (t:=1) (by omega);have il:=sA (w:=d.wd) (t:=d.wd.length-1) (by omega);rw[show((0:Nat):Int)=0 from rfl]at i0;rw[show((1:Nat):Int)=1 from rfl]at i1;rw[i0,bs,i1,bs,Je];rcases ht with⟨t1,t2,t3⟩|⟨t1,t2,t3⟩|⟨t1,t3⟩
 ·rw[show((((d.wd.getD 0 0:Nat):Int)+1)==(((d.wd.getD 1 0:Nat):Int)+1))=iB from by rw[t1];exact beq_self_eq_true _,zM,zC (by omega) (by omega),bs,show(d.wd.length:Int)-1=((d.wd.length-1:Nat):Int)from by omega,il,bs,show((((d.wd.getD (d.wd.length-1) 0:Nat):Int)+1) != (((d.wd.getD 0 0:Nat):Int)+1))=iB from by rw[bne_iff_ne];omega,zM,zC (by omega) (by omega),bs,show(d.wd.length:Int)-2=(d.t:Int)from by omega,key,cx,bs,zC (by omega) (by omega),bs]
  rfl
 ·rw[show((((d.wd.getD 0 0:Nat):Int)+1)==(((d.wd.getD 1 0:Nat):Int)+1))=iB from by rw[t1];exact beq_self_eq_true _,zM,zC (by omega) (by omega),bs,show(d.wd.length:Int)-1=((d.wd.length-1:Nat):Int)from by omega,il,bs,show((((d.wd.getD (d.wd.length-1) 0:Nat):Int)+1) != (((d.wd.getD 0 0:Nat):Int)+1))=iC from by rw[t2];exact bne_self_eq_false _,zK]
  rw[t3]at key;rw[show(1:Int)=((1:Nat):Int)from rfl]at*
  rw[key,yBK,cx,bs,zC (by omega) (by omega),bs];rfl
 ·rw[show((((d.wd.getD 0 0:Nat):Int)+1)==(((d.wd.getD 1 0:Nat):Int)+1))=iC from by rw[beq_eq_false_iff_ne];omega,zK]
  rw[t3]at key;rw[show(1:Int)=((1:Nat):Int)from rfl]at*
  rw[key,yBL,cx,bs,zC (by omega) (by omega),bs];rfl
end
end Go.Pl

namespace Go.Pl
open Go Go.Ab Go.Wk Go.Pc
section
variable {x:SPr}{m:zF}{D:Nat} (hx:zCk x) (hD:MOk x.zA.length m D)
 include hx hD
theorem zI4(hc:wQ (suf x 0))(hr:zF9 x m D):∃K pk,f_n x m=iz K∧f_g x m=iz K∧Red m.Prime (base x.zA.length x.zA.length*D) K pk:=by
 have h6:=hx.n6;have h3:=hD.d3;have h1:=hD.d1;have co:=wT x.zA.length (by omega);have hbD:base x.zA.length x.zA.length*D≤21*3:=K1 co.2.1 h3;obtain⟨prs,hq⟩:=zYH hx hD;have hl:=hq.len;have gC:=zGA (x:=x) h6;have eO:=zV (body:=zRy x m ((base x.zA.length x.zA.length:Nat):Int) ((cps x).map CPd)) (r:=gl (base x.zA.length x.zA.length*D) (fun q=>zAe m.Prime D m prs q)) (fun k=>(gl (base x.zA.length x.zA.length*D) (fun q=>zAe m.Prime D m (prs.take k) q),(k:Int))) (cps x).length (fun k hk=>zVW hx.toPres h6 hD hq hk rfl) (by
  unfold zRy;simp only
  rw[Je,xR,zK,hl,Lj])
 have e0:gl (base x.zA.length x.zA.length*D) (fun q=>zAe m.Prime D m (prs.take 0) q)=J0 (base x.zA.length x.zA.length*D) ([]:List Int):=by simp only[K5,zAe,He,Hn];rw[List.eq_replicate_iff];exact⟨xD,fun b hb=>by obtain⟨i,_,rfl⟩:=Jt.1 hb;rfl⟩
 rw[e0]at eO;have pz:f_g x m=cond (decide (((gl (base x.zA.length x.zA.length*D) (fun q=>zAe m.Prime D m prs q)).length:Int)> 0)) (
   (ixO (gl (base x.zA.length x.zA.length*D) (fun q=>zAe m.Prime D m prs q)) 0).bind fun v32=>(f_J m.Prime (gl (base x.zA.length x.zA.length*D) (fun q=>zAe m.Prime D m prs q)) (v32.length:Int)).bind fun r33=>iz r33) (
   (f_J m.Prime (gl (base x.zA.length x.zA.length*D) (fun q=>zAe m.Prime D m prs q)) 0).bind fun r34=>iz r34):=by
  unfold f_g;rw[zHN rfl h6,bs,hD.d,←Lh,zC (by omega) (by omega),bs,yX (by omega),bs,zEj hx.toPres h6,bs];rw[show((0:Nat):Int)=0 from rfl]at eO;rw[eO,bs]
 rcases U9 x.zA.length with h0|h0
 ·obtain⟨K,pk,k1,k2,k3⟩:=zNX h0 hD
  refine⟨K,pk,k1,?_,?_⟩
  ·rw[pz,h0,show base 0 0=0 from rfl,Hg]
   simp only[gl,Qu,He,Jg];rw[show decide (((0:Nat):Int)> 0)=iC from rfl,zK,k2,bs]
  ·rw[h0,show base 0 0=0 from rfl,Hg];exact k3
 ·obtain⟨K,pk,k1,k2,_⟩:=zGk hx hD h0 hc hr
  obtain⟨K2,j1,j2⟩:=zMz hx hD h0 hc hr hq;rw[k1]at j1;cases j1;refine⟨K,pk,k1,?_,k2⟩;have pA:0<base x.zA.length x.zA.length*D:=Jbt (by omega) h1;rw[pz,xD,iE (by omega),zM,show(0:Int)=((0:Nat):Int)from rfl,zAS pA,bs,zIk,j2,bs]
end
end Go.Pl

namespace Go.Pl
open Go Go.Ab Go.Wk Go.Pc
end Go.Pl

namespace Go.Pl
open Go Go.Ab Go.Wk Go.Pc
theorem zT5{n D:Nat}{v:List Int}(hD:1≤D)(hl:v.length=n*D):(zGo n D v).flatten=v:=by
 have hF:∀i:Nat,(mkv D fun j=>at0 v (i*D+j)).length=D:=fun i=>yA _ _
 have h1:(zGo n D v).flatten.length=n*D:=by have:=zFK (F:=fun i=>mkv D fun j=>at0 v (i*D+j)) hF (Ji n);rw[Kt]at this;exact this
 refine(vY h1).trans (((zZ fun k hk=>?_)).trans (vY hl).symm);have hi:k/D<n:=(Hd (by omega)).2 hk;have hm:k%D<D:=Gd _ (by omega);have e:=zEX (F:=fun i=>mkv D fun j=>at0 v (i*D+j)) hF (Ji n) (k/D) (k%D) (by rw[Kt];exact hi) hm;rw[show k/D*D+k%D=k from by rw[H0];exact H3 k D]at e;rw[Q6,yH hm,show k/D*D+k%D=k from by rw[H0];exact H3 k D]at e;exact e
section
variable {x:SPr}{m:zF}{D:Nat} (hx:zCk x) (hD:MOk x.zA.length m D)
 include hx hD
theorem zQJ:∃R pv,zUQ x m=iz R∧Red m.Prime (base x.zA.length x.zA.length*D) R pv∧base x.zA.length x.zA.length*D≤63∧ ∀v,Row m.Prime (base x.zA.length x.zA.length*D) v→
  Row m.Prime (base x.zA.length x.zA.length*D) (cl m.Prime (base x.zA.length x.zA.length*D) R pv v R.length)∧f_Z m.Prime R v=iz (cl m.Prime (base x.zA.length x.zA.length*D) R pv v R.length)∧
  zUS x m v=iz (zGo (base x.zA.length x.zA.length) D (cl m.Prime (base x.zA.length x.zA.length*D) R pv v R.length)):=by
 have h3:=hD.d3;obtain⟨R,pv,r1,r2,r3,r4,r5,r6⟩:=zNP hx hD;refine⟨R,pv,r1,r4,r6,fun v hv=>?_⟩;have gC:=zKl hD.p (by omega) r4 hv R.length;refine⟨gC,zHJ hD.p (by omega) r4 hv (by omega),?_⟩;unfold zUS zYX;rw[r2,bs,r3,bs,bs,zHO hD.p (by omega) r4 hv (by omega),bs,hD.d,zHR hD.d1 gC.1 (by omega),bs]
theorem zNY{v:List Int}(hv:Row m.Prime (base x.zA.length x.zA.length*D) v):f_s (zGo (base x.zA.length x.zA.length) D v)=iz v:=by have h6:=hx.n6;have h3:=hD.d3;have hb:=wT x.zA.length (by omega);have d5:base x.zA.length x.zA.length*D≤21*3:=K1 hb.2.1 h3;have e:=zT5 hD.d1 hv.1;rw[jE (by have:(zGo (base x.zA.length x.zA.length) D v).length=base x.zA.length x.zA.length:=xD;omega) (by rw[e,hv.1];omega),e]
theorem zKD(hc:wQ (suf x 0))(hr:zF9 x m D):∃C pc K rows,zW3 x m=iz C∧f_g x m=iz K∧zH (zMX x m K) ([],0)=iz rows∧f_j m.Prime rows=iz C∧Red m.Prime (base x.zA.length x.zA.length*D) C pc∧base x.zA.length x.zA.length*D≤63:=by
 obtain⟨R,pv,r1,r2,r3,r4⟩:=zQJ hx hD;obtain⟨K,pk,k1,k2,k3⟩:=zI4 hx hD hc hr;have hK:=k3.len_le;have hl:(gl K.length fun i=>cl m.Prime (base x.zA.length x.zA.length*D) R pv (K.getD i []) R.length).length=K.length:=xD;obtain⟨C,pc,c1,c2,c3,_⟩:=kZ hD.p (n:=base x.zA.length x.zA.length*D) (rows:=gl K.length fun i=>cl m.Prime (base x.zA.length x.zA.length*D) R pv (K.getD i []) R.length) (by omega) (by omega) (fun i hi=>by rw[hl]at hi;rw[xW hi];exact(r4 _ (k3.row i hi)).1)
 refine⟨C,pc,K,_,?_,k2,?_,c2,c3,r3⟩
 ·unfold zW3
  rw[r1,bs,k1,bs,wW (body:=zMV m R K) K.length (fun i=>cl m.Prime (base x.zA.length x.zA.length*D) R pv (K.getD i []) R.length) (fun i acc hi ha=>by
   unfold zMV;simp only
   rw[yY hi,zM,yR [] hi,bs,(r4 _ (k3.row i hi)).2.1,bs,yE (by simp only[J6,Jg];omega),bs,zC (by omega) (by omega),bs];rfl) (fun acc=>by
   unfold zMV;simp only
   rw[xR,zK]),bs]
  show(f_r m.Prime (gl K.length _)).bind _=_;rw[c1,bs]
 ·exact wW (body:=zMX x m K) K.length (fun i=>cl m.Prime (base x.zA.length x.zA.length*D) R pv (K.getD i []) R.length) (fun i acc hi ha=>by
   unfold zMX;simp only
   rw[yY hi,zM,yR [] hi,bs,(r4 _ (k3.row i hi)).2.2,bs,zNY hx hD (r4 _ (k3.row i hi)).1,bs,yE (by simp only[J6,Jg];omega),bs,zC (by omega) (by omega),bs];rfl) (fun acc=>by
   unfold zMX;simp only
   rw[xR,zK])
end
end Go.Pl

namespace Go.Pl
open Go Go.Ab Go.Wk Go.Pc
end Go.Pl

namespace Go.Pl
open Go Go.Ab Go.Wk Go.Pc
def zT6(x:SPr):Prop:=0<x.zA.length∧ ∀i,i<x.zA.length→at0 x.zA i=at0 x.zA 0
theorem zM1{x:SPr}(h0:0<x.zA.length)(hl:x.zA.length≤1048576){f:Option Bool}{body:Int→Option (Int⊕(Unit⊕Bool))}(hf:f=(zH body 0).bind fun r=>match r with|.inl _=>iz iB|.inr r=>iz r)
  (hb:∀s,body s=cond (decide (s<(x.zA.length:Int))) ((ixO x.zA s).bind fun v2=>(ixO x.zA 0).bind fun v3=>cond (v2 != v3) (iz (.inr (.inr iC))) ((rng (s+1)).bind fun v4=>iz (.inl v4))) (iz (.inr (.inl ())))):IsB f (zT6 x):=by
 refine(zDX (body:=body) x.zA.length (fun i=>at0 x.zA i=at0 x.zA 0) hf (fun i hi _=>?_) ?_).iff ⟨fun g=>⟨h0,g⟩,fun g=>g.2⟩
 ·rw[hb,yY hi,zM,yQ hi,bs,show(0:Int)=((0:Nat):Int)from rfl,yQ h0,bs]
  by_cases g:at0 x.zA i=at0 x.zA 0
  ·rw[zCD g,zK,zC (by omega) (by omega),bs]
   exact .inl ⟨rfl,g⟩
  ·rw[zCj g,zM]
   exact .inr ⟨rfl,g⟩
 ·rw[hb,xR,zK]
theorem zI5{x:SPr}(hl:x.zA.length≤1048576):IsB (zW1 x) (kE x∧zT6 x):=by
 unfold zW1;rcases zHB hl with⟨h1,h2⟩|⟨h1,h2⟩
 ·rw[h1,bs,Kc,zK]
  by_cases h0:0<x.zA.length
  ·rw[show(((x.zA.length:Nat):Int)==0)=iC from by rw[beq_eq_false_iff_ne];omega,zK]
   exact(zM1 h0 hl rfl (fun _=>rfl)).iff ⟨fun g=>⟨h2,g⟩,fun g=>g.2⟩
  ·rw[show(((x.zA.length:Nat):Int)==0)=iB from by rw[beq_iff_eq];omega,zM]
   exact .inr ⟨rfl,fun g=>h0 g.2.1⟩
 ·rw[h1,bs,Kq,zM]
  exact .inr ⟨rfl,fun g=>h2 g.1⟩
theorem zI6{x:SPr}(hl:x.zA.length≤1048576):IsB (zW5 x) (kE x∧zT6 x):=by
 unfold zW5;rcases zAR hl with⟨h1,h2⟩|⟨h1,h2⟩
 ·rw[h1,bs,Kc,zK]
  by_cases h0:0<x.zA.length
  ·rw[show(((x.zA.length:Nat):Int)==0)=iC from by rw[beq_eq_false_iff_ne];omega,zK]
   exact(zM1 h0 hl rfl (fun _=>rfl)).iff ⟨fun g=>⟨h2,g⟩,fun g=>g.2⟩
  ·rw[show(((x.zA.length:Nat):Int)==0)=iB from by rw[beq_iff_eq];omega,zM]
   exact .inr ⟨rfl,fun g=>h0 g.2.1⟩
 ·rw[h1,bs,Kq,zM]
  exact .inr ⟨rfl,fun g=>h2 g.1⟩
theorem zIo{x:SPr}(hx:zCk x){body:Int×Int→Option ((Int×Int)⊕Int)}
  (hb:∀s:Int×Int,body s=cond (decide (s.2<(x.zA.length:Int))) ((ixO x.zA s.2).bind fun v1=>(rng (s.1*v1)).bind fun v2=>(rng (s.2+1)).bind fun v3=>iz (.inl (v2,v3))) (iz (.inr s.1))):zH body (1,0)=iz (pr x.zA x.zA.length):=by
 have h6:=hx.n6;have hP:∀j,j<x.zA.length→Prime (at0 x.zA j):=fun j hj=>hx.os.2 j hj
 exact zV (body:=body) (r:=pr x.zA x.zA.length) (fun i=>(pr x.zA i,(i:Int))) x.zA.length (fun i hi=>by
  have e1:=zKb hP (x.zA.length-(i+1)) (by omega);rw[show x.zA.length-(x.zA.length-(i+1))=i+1 from by omega]at e1;have e2:=zF2 (os:=x.zA) (i:=i+1) fun j hj=>hP j (by omega)
  have e3:=hx.pr;simp only[pr]at e1 e2;rw[hb];simp only
  rw[yY hi,zM,yQ hi,bs,zC (n:=pr x.zA i*at0 x.zA i) (by omega) (by omega),bs,zC (by omega) (by omega),bs];rfl) (by
  rw[hb];simp only
  rw[xR,zK])
theorem zNZ{x:SPr}(hl:x.zA.length≤1048576):∃c,zW2 x=iz c∧zW6 x=iz c∧(c=0→kE x∧zT6 x):=by
 unfold zW2 zW6;rcases(zHB hl).both (zAR hl)with⟨s1,i1,hc⟩|⟨s1,i1,_⟩
 ·rw[s1,i1,bs,bs,Kc,zK,zK]
  rcases(zI5 hl).both (zI6 hl)with⟨s2,i2,hp⟩|⟨s2,i2,_⟩
  ·rw[s2,i2,bs,bs,Kc,zK,zK]
   unfold zZa zZc;rw[zIo hc.2.2 (body:=zUZ x) (fun _=>rfl),zIo hc.2.2 (body:=zVa x) (fun _=>rfl)];simp only[bs]
   by_cases g:pr x.zA x.zA.length> 81
   ·rw[iE g,zM]
    exact⟨_,rfl,rfl,fun h=>by cases h⟩
   ·rw[iD g,zK]
    exact⟨_,rfl,rfl,fun _=>hp⟩
  ·rw[s2,i2,bs,bs,Kq,zM,zM]
   exact⟨_,rfl,rfl,fun h=>by cases h⟩
 ·rw[s1,i1,bs,bs,Kq,zM,zM]
  exact⟨_,rfl,rfl,fun h=>by cases h⟩
def zAK(q:Int)(D n:Nat):zF:=⟨q,(D:Int),gl n fun _=>idM D⟩
theorem zB9{q:Int}{D n i:Nat}(h:i<n):(zAK q D n).zP.getD i []=idM D:=by rw[zAK,J2,J3 (by rw[xD];exact h)];simp[gl]
theorem zQK{x:SPr}{q:Int}{D:Nat}(hq:Prime q)(h6:x.zA.length≤6)(hD:D≤8):f_K x q (D:Int)=iz (zAK q D x.zA.length):=by
 unfold f_K;rw[wW (body:=zKH x (D:Int)) x.zA.length (fun _=>idM D) (fun i acc hi ha=>by
  unfold zKH;simp only
  rw[yY hi,zM,zN8 hq hD,bs,yE (by simp only[J6,Jg];omega),bs,zC (by omega) (by omega),bs];rfl) (fun acc=>by
  unfold zKH;simp only
  rw[xR,zK]),bs]
 rfl
theorem zOa{x:SPr}{q:Int}{D:Nat}(hq:Prime q)(h6:x.zA.length≤6)(hD:D≤8):f_R x q (D:Int)=iz (zAK q D x.zA.length):=by
 unfold f_R;rw[wW (body:=zMW x q (D:Int)) x.zA.length (fun _=>idM D) (fun i acc hi ha=>by
  unfold zMW;simp only
  rw[yY hi,zM,zBc hq hD,bs,yE (by simp only[J6,Jg];omega),bs,zC (by omega) (by omega),bs];rfl) (fun acc=>by
  unfold zMW;simp only
  rw[xR,zK]),bs]
 rfl
theorem zVX{q:Int}{D n:Nat}(hq:Prime q)(h1:1≤D)(h3:D≤3):MOk n (zAK q D n) D:=
 ⟨hq,rfl,h1,h3,xD,fun i hi=>by rw[zB9 hi];exact qC hq.pos.1⟩
theorem zDr{q:Int}{D n:Nat}:∀(w:List Nat){B:Mx},Mat q D B→(∀a∈w,a<n)→wM q D (zAK q D n).zP w B=B
 | [],_,_,_=>rfl
 |a::w,B,hB,hw=>by show wM q D (zAK q D n).zP w (PM q D B ((zAK q D n).zP.getD a []))=B;rw[zB9 (hw a (by simp)),zCM hB];exact zDr w hB fun b hb=>hw b (H1 _ hb)
theorem zT7{x:SPr}(h:Pres x){q:Int}{D:Nat}(hq:Prime q):zF9 x (zAK q D x.zA.length) D:=by
 have hI:Mat q D (idM D):=qC hq.pos.1;intro i hi;refine⟨?_,fun j hj1 pP=>?_⟩
 ·show wM q D _ _ _=wM q D _ _ _
  rw[zDr _ hI fun a ha=>by rw[Jm ha];exact hi,zDr _ hI fun a ha=>((tZ h (qX h hi) hi).2 a ha).2]
 ·show PM q D _ _=PM q D _ (wM q D _ _ _)
  have:=tZ h (uC h (show i<j by omega) pP) hi;rw[zB9 hi,zB9 pP,zDr _ hI fun a ha=>(this.2 a (by simpa[lcj]using ha)).2]
theorem zI7{x:SPr}(hc:kE x)(hp:zT6 x):∃C pc,zW4 x=iz C∧zW7 x=iz C∧Red (at0 x.zA 0) (base x.zA.length x.zA.length) C pc∧base x.zA.length x.zA.length≤21:=by
 have h6:=hc.2.2.n6;have hq:=hc.1.os.2 0 hp.1;have hb:=wT x.zA.length (by omega);obtain⟨C,pc,K,rows,c1,c2,c3,c4,c5,_⟩:=zKD (m:=zAK (at0 x.zA 0) 1 x.zA.length) hc.2.2 (zVX hq (by omega) (by omega)) hc.2.1 (zT7 hc.1 hq);rw[Qg]at c5;refine⟨C,pc,?_,?_,c5,hb.2.1⟩
 ·unfold zW4 zZb
  rw[show(0:Int)=((0:Nat):Int)from rfl,yQ hp.1,bs,show(1:Int)=((1:Nat):Int)from rfl,zQK hq h6 (by omega),bs,bs,c1,bs]
 ·unfold zW7
  rw[show(0:Int)=((0:Nat):Int)from rfl,yQ hp.1,bs,show(1:Int)=((1:Nat):Int)from rfl,zOa hq h6 (by omega),bs,c2,bs];have e:zVb=zMX:=rfl;rw[e,show((0:Nat):Int)=0 from rfl,c3,bs];show(f_j (zAK (at0 x.zA 0) 1 x.zA.length).Prime rows).bind _=_;rw[c4,bs]
end Go.Pl

namespace Go.Pl
open Go Go.Ab Go.Wk Go.Pc
theorem zJz{D i:Nat}:(J0 D (0:Int)).set i 1=mkv D fun j=>if j=i then 1 else 0:=by rw[tN,qU]
theorem zOb{D:Nat}(hD:D≤1000):f_C (D:Int)=iz (idM D):=by
 unfold f_C;rw[wW (body:=zIq (D:Int)) D (fun i=>mkv D fun j=>if j=i then 1 else 0) (fun i acc hi ha=>by
  unfold zIq;simp only
  rw[yY hi,zM,yX (by omega),bs,vP,Ke,if_pos hi,bs,J9,zJz,yE (by simp only[J6,Jg];omega),bs,zC (by omega) (by omega),bs];rfl) (fun acc=>by
  unfold zIq;simp only
  rw[xR,zK]),bs]
 rfl
theorem zIp{p:Int}{D:Nat}(hD:D≤1000):f_H p (D:Int)=iz (zU.mk p (D:Int) (idM D)):=by
 unfold f_H;rw[wW (body:=zKF (D:Int)) D (fun i=>mkv D fun j=>if j=i then 1 else 0) (fun i acc hi ha=>by
  unfold zKF;simp only
  rw[yY hi,zM,yX (by omega),bs,vP,Ke,if_pos hi,bs,J9,zJz,yE (by simp only[J6,Jg];omega),bs,zC (by omega) (by omega),bs];rfl) (fun acc=>by
  unfold zKF;simp only
  rw[xR,zK]),bs]
 rfl
theorem zOc{x:SPr}{q:Int}{D:Nat}(h6:x.zA.length≤6)(hD:D≤1000):f_K x q (D:Int)=iz (zAK q D x.zA.length):=by
 unfold f_K;rw[wW (body:=zKH x (D:Int)) x.zA.length (fun _=>idM D) (fun i acc hi ha=>by
  unfold zKH;simp only
  rw[yY hi,zM,zOb hD,bs,yE (by simp only[J6,Jg];omega),bs,zC (by omega) (by omega),bs];rfl) (fun acc=>by
  unfold zKH;simp only
  rw[xR,zK]),bs]
 rfl
theorem zOd{x:SPr}{q:Int}{D:Nat}(h6:x.zA.length≤6)(hD:D≤1000):f_R x q (D:Int)=iz (zAK q D x.zA.length):=by
 unfold f_R;rw[wW (body:=zMW x q (D:Int)) x.zA.length (fun _=>idM D) (fun i acc hi ha=>by
  unfold zMW;simp only
  rw[yY hi,zM,zIp hD,bs,yE (by simp only[J6,Jg];omega),bs,zC (by omega) (by omega),bs];rfl) (fun acc=>by
  unfold zMW;simp only
  rw[xR,zK]),bs]
 rfl
theorem zT8{q:Int}{D n:Nat}(hq:Prime q)(h3:D≤30):zYk n (zAK q D n) D:=
 ⟨hq,rfl,h3,xD,fun i hi=>by rw[zB9 hi];exact qC hq.pos.1⟩
end Go.Pl

namespace Go.Pl
open Go Go.Ab Go.Wk Go.Pc
def zQL(N:Nat)(C:Mx):Mx:=gl N fun i=>mkv C.length fun j=>at0 (C.getD j []) i
theorem zM2{body:List Int×Int→Option ((List Int×Int)⊕List Int)}(n:Nat)(F:Nat→Int)(h:∀i acc,i<n→acc.length=i→body (acc,(i:Int))=iz (.inl (acc++[F i],((i+1:Nat):Int))))(he:∀acc,body (acc,(n:Int))=iz (.inr acc)):
  zH body ([],0)=iz (mkv n F):=wW n F h he
section
variable {q:Int}{N:Nat}{C:Mx} (hC:∀i,i<C.length→Row q N (C.getD i [])) (hl:C.length≤1000)
 include hC hl
theorem zQM{x:SPr}(h6:x.zA.length≤6)(hN:N=base x.zA.length x.zA.length):f_P x C=iz (zQL N C):=by
 have hb:=wT x.zA.length (by omega);unfold f_P;rw[wW (body:=zVd x C) N (fun i=>mkv C.length fun j=>at0 (C.getD j []) i) (fun i acc hi ha=>by
  unfold zVd;simp only
  rw[zBU rfl h6,bs,←hN,yY hi,zM,zM2 (body:=zVc C (acc,(i:Int))) C.length (fun j=>at0 (C.getD j []) i) (fun j acc2 hj ha2=>by
   unfold zVc;simp only
   rw[yY hj,zM,yR [] hj,bs,yQ (by rw[(hC j hj).1];exact hi),bs,yE (by simp only[J6,Jg];omega),bs,zC (by omega) (by omega),bs];rfl) (fun acc2=>by
   unfold zVc;simp only
   rw[xR,zK]),bs,yE (by simp only[J6,Jg];omega),bs,zC (by omega) (by omega),bs]
  rfl) (fun acc=>by
  unfold zVd;simp only
  rw[zBU rfl h6,bs,←hN,xR,zK]),bs]
 rfl
theorem zQN(hN:N≤1000):zH (zR0 C (N:Int)) ([],0)=iz (zQL N C):=
 wW (body:=zR0 C (N:Int)) N (fun i=>mkv C.length fun j=>at0 (C.getD j []) i) (fun i acc hi ha=>by
  unfold zR0;simp only
  rw[yY hi,zM,zM2 (body:=zVe C (acc,(i:Int))) C.length (fun j=>at0 (C.getD j []) i) (fun j acc2 hj ha2=>by
   unfold zVe;simp only
   rw[yY hj,zM,yR [] hj,bs,yQ (by rw[(hC j hj).1];exact hi),bs,yE (by simp only[J6,Jg];omega),bs,zC (by omega) (by omega),bs];rfl) (fun acc2=>by
   unfold zVe;simp only
   rw[xR,zK]),bs,yE (by simp only[J6,Jg];omega),bs,zC (by omega) (by omega),bs]
  rfl) (fun acc=>by
  unfold zR0;simp only
  rw[xR,zK])
end
theorem zM3{N:Nat}{C:Mx}:(zQL N C).length=N:=xD
theorem zT9{N:Nat}{C:Mx}(i:Nat):((zQL N C).getD i []).length≤C.length:=zKm (fun j hj=>by rw[zM3]at hj;rw[zQL,xW hj,yA];exact Jl _) i
theorem zI8{x:SPr}(hx:zAB x):∃g k,zRz x=iz (g,k)∧zR1 x=iz (g,k)∧zAB g:=by
 obtain⟨c,e1,e2,e3⟩:=zNZ (x:=x) hx.1;have bf:zAB ⟨[],[],[]⟩:=⟨by simp[S1,c1],by simp[S2,c2,sm],by simp[S3,c3,sm]⟩;unfold zRz zR1;rw[e1,e2,bs,bs]
 by_cases g:c=0
 ·obtain⟨hc,hp⟩:=e3 g
  have h6:=hc.2.2.n6;have hq:=hc.1.os.2 0 hp.1;obtain⟨C,pc,c1,c2,c3,c4⟩:=zI7 hc hp;have hCl:=c3.len_le;subst g;have hE:zNH x.zA.length C.length x (zAK (at0 x.zA 0) C.length x.zA.length) (zQL (base x.zA.length x.zA.length) C):=zNH.ofX hc.2.2 (zT8 hq (by omega)) zM3 (fun i=>by have:=zT9 (N:=base x.zA.length x.zA.length) (C:=C) i;omega);have hs:=zQ1 hE;rw[show((0:Int) != 0)=iC from rfl,zK,zK,c1,bs,show(0:Int)=((0:Nat):Int)from rfl,yQ hp.1,bs,zOc h6 (by omega),bs,zQM c3.row (by omega) h6 rfl,bs,c2,bs];unfold f_S zYW;rw[zHN rfl h6,bs,show((0:Nat):Int)=0 from rfl,zQN c3.row (by omega) (by omega),bs,show(0:Int)=((0:Nat):Int)from rfl,yQ hp.1,bs,zOd h6 (by omega),bs,zSN hE,bs,bs,zSL hE,bs];rcases(zAi hs.1).both (zAh hs.1)with⟨s1,i1,_⟩|⟨s1,i1,_⟩
  ·simp only[s1,i1,bs,Kc,zK]
   exact⟨_,_,rfl,rfl,hs⟩
  ·simp only[s1,i1,bs,Kq,zM]
   exact⟨_,_,rfl,rfl,bf⟩
 ·rw[show(c != 0)=iB from by simpa using g,zM,zM]
  exact⟨_,_,rfl,rfl,bf⟩
theorem zM4(x0:SPr)(v0:zPl x0)
  (h:zAB x0→ ∃g k,zRz x0=iz (g,k)∧zR1 x0=iz (g,k)∧zAB g):zVf x0=iz iB:=by
 unfold zVf;rw[zH3 v0 (by decide) (by decide),bs];rcases zV7 (c:=zL9 x0) (b:=1048576) (by decide) (by decide)with e|⟨e,a0,b0,w0⟩<;>rw[e]
 ·rfl
 have s0:zAB x0:=zAB.of w0;obtain⟨g,k,hs,hi,sg⟩:=h s0;have t0:=zG1 s0;have tg:=zG1 sg;rw[zK,zH4 s0,bs];simp only[bs];rw[hs,bs,hi,bs];simp only
 rw[zAC sg,bs];simp only[Kc,zK,bne_self_eq_false];rw[zAC s0,bs,Kc,zK,zAk s0 (by decide) (by decide),bs];simp only
 rw[iD (by omega),zK,bs,Kc,zK];rw[zAk sg (by decide) (by decide),bs];simp only
 rw[zFB sg (by decide) (by decide),bs,iD (by omega),zK,bne_self_eq_false,zK,bs];simp only
 rw[zAC sg,bs,Kc,zK,bne_self_eq_false,zK,bs,iD (by omega),zK,bne_self_eq_false,zK]
theorem zI9(x0:SPr)(v0:zPl x0):zVf x0=iz iB:=
 zM4 x0 v0 zI8
end Go.Pl
