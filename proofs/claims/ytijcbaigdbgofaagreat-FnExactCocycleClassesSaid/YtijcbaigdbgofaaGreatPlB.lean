/- The program's CocycleClasses returns what the reference's returns,for all arguments;no conditions. -/
import Derived.Test.YtijcbaigdbgofaaGreatPlA
open List renaming replicate→J1,getD_eq_getElem?_getD→J2,getElem?_eq_getElem→J4,length_append→J5,length_cons→J7,mem_cons→J8,getElem?_append_right→J9,append_assoc→Jb,append_nil→Jd,mem_append→Je,range→Jf,length_replicate→Jh,length_map→Ji,replicate_append_replicate→Jl,mem_map→Jm,map_cons→Jo,length_nil→Jp,replicate_succ→Jq,take_succ_eq_append_getElem→Jr,take_of_length_le→Js,take_left'→Ju,getElem?_append_left→Jv,length_take→Jw,nil_append→Jx,length_drop→Jz,cons_append→K4,getElem?_map→K5,drop_left'→K7,getElem?_eq_none→K8,take_zero→Ka,eq_of_mem_replicate→Kc,getElem?_replicate→Ke,reverse_reverse→Kj,drop_append_of_le_length→Ko,mem_range→Kr,ext_getElem?→Kv,mem_iff_getElem→L7,map_append→L8,length_range→Le,take_succ_cons→Lf,flatten_cons→Li,range_succ→Lj,eq_nil_of_length_eq_zero→Lm,drop_replicate→Lv,replicate_succ'→Lw,getElem?_drop→Lz,drop_eq_getElem_cons→H1,take_length→H5,replicate_zero→Hm,flatMap_append→Ht,set_append_right→G5,foldl_cons→Ge,drop_zero→Gf,getD_cons_zero→Gw,foldl_append→U1,map_nil→U6,getElem?_take_of_lt→U7,length_singleton→Ub,mem_of_mem_drop→Ut,map_congr_left→Qe,ext_getElem→Qk,getElem?_replicate_of_lt→Qm,head?_cons→Qn,map_map→Jak,flatten_append→Jar,range_succ_eq_map→Jat,not_mem_nil→Jau,drop_of_length_le→Jax,cons→Jay,mem_of_mem_head?→Jb4,take→Jbc,reverse_cons→Jbd,length→Jbf,mem_reverse→Jc3,getElem_map→Jc4,getD_cons_succ→Jco
open Int renaming toNat_natCast→Ja,mul_emod→Jt,emod_emod→K6,emod_eq_of_lt→Kb,add_emod→Kd,emod_lt_of_pos→Kh,natCast_mul→Km,emod_nonneg→Kx,mul_zero→Ld,zero_add→Lp,add_mul_emod_self_left→Lt,add_zero→H2,mul_one→Hb,natCast_add→Ho,mul_assoc→Hv,toNat_zero→Gz,mul_comm→U9,add_emod_right→Uc,zero_mul→Uo,sub_mul→Qq,add_mul→Qt,add_emod_emod→Jbj,one_mul→Jbq,toNat_of_nonneg→Jd5
open Nat renaming zero_add→Jc,le_refl→Jg,lt_or_ge→Jk,mul_le_mul→Jy,succ_mul→K1,mul_le_mul_right→K9,sub_self→Kf,zero_le→Kn,add_sub_cancel_left→H3,add_zero→Gv,eq_zero_or_pos→Gy,lt_trichotomy→U8,le_mul_of_pos_right→Uv,mul_succ→Ja0,sub_zero→Jb9,lt_of_not_le→Jbk,lt_irrefl→Jbs
open Bool renaming not_true→K0,not_false→Kk
open Option renaming some→Ln
open Option renaming some→ik,none→im
open Bool renaming true→io,false→iq
namespace Go.Pl
open Go Go.Ab Go.Wk Go.Pc
section
variable {p:Int} (hp:Prime p) {n:Nat}{out:Mx}{pv:Nat→Nat} (h:Red p n out pv) {u:List Int}{k q:Nat} (hu:Row p n u) (hk:k<n) (u1:at0 u k=1) (ul:∀j,j<k→at0 u j=0) (up:∀i,i<out.length→at0 u (pv i)=0) (hq:q≤out.length) (q1:∀i,i<q→pv i<k) (q2:∀i,q≤i→i<out.length→k<pv i)
def oth(p:Int)(n:Nat)(out:Mx)(u:List Int)(k i:Nat):List Int:=uH p n (out.getD i []) (p-at0 (out.getD i []) k) u
def sP(p:Int)(n:Nat)(out:Mx)(u:List Int)(k q i:Nat):List Int:=if i<q then oth p n out u k i else if i=q then u else oth p n out u k (i-1)
def zV2(pv:Nat→Nat)(k q i:Nat):Nat:=if i<q then pv i else if i=q then k else pv (i-1)
 include hp h hu hk u1 ul up hq q1 q2
theorem zNF{i j:Nat}(hj:j<n):at0 (oth p n out u k i) j=(at0 (out.getD i []) j-at0 (out.getD i []) k*at0 u j)%p:=by have _:=hp;have _:=h;have _:=hu;have _:=hk;have _:=u1;have _:=ul;have _:=up;have _:=hq;have _:=q1;have _:=q2;rw[oth,uH,yG hj,show at0 (out.getD i []) j+(p-at0 (out.getD i []) k)*at0 u j=at0 (out.getD i []) j-at0 (out.getD i []) k*at0 u j+p*at0 u j from by rw[Qq];omega,Lt]
theorem zEZ{i j:Nat}(hi:i<out.length)(hj:j<n)(hz:at0 (out.getD i []) k=0∨at0 u j=0):at0 (oth p n out u k i) j=ent out i j:=by
 rw[zNF hp h hu hk u1 ul up hq q1 q2 hj];have:=(h.row i hi).2 j hj;have e:at0 (out.getD i []) k*at0 u j=0:=by rcases hz with g|g<;>rw[g]<;>simp
 rw[e,Int.sub_zero];exact Kb this.1 (by omega)
theorem yAs{i:Nat}:at0 (oth p n out u k i) k=0:=by rw[zNF hp h hu hk u1 ul up hq q1 q2 hk,u1,Hb,Int.sub_self];rfl
theorem zV3{i j:Nat}(hi:i<out.length)(hj:j<pv i)(gj:pv i≠k):at0 (oth p n out u k i) j=0:=by
 have gF:=h.lt i hi;rcases Jk (pv i) k with g|g
 ·rw[zEZ hp h hu hk u1 ul up hq q1 q2 hi (by omega) (.inr (ul j (by omega)))];exact h.low i hi j hj
 ·have:=h.low i hi k (by omega)
  rw[zEZ hp h hu hk u1 ul up hq q1 q2 hi (by omega) (.inl this)];exact h.low i hi j hj
theorem yAt{i:Nat}(hi:i<out.length):pv i≠k:=by have _:=h;have _:=q1;have _:=q2;have _:=hp;have _:=hu;have _:=hk;have _:=ul;have _:=hq;intro e;have:=up i hi;rw[e,u1]at this;cases this
theorem zJ1{i:Nat}(hi:i<out.length+1):(i=q∧sP p n out u k q i=u∧zV2 pv k q i=k)∨ ∃a,a<out.length∧(i<q∧a=i∨q<i∧i=a+1)∧sP p n out u k q i=oth p n out u k a∧zV2 pv k q i=pv a:=by
 have _:=hp;have _:=h;have _:=hu;have _:=hk;have _:=u1;have _:=ul;have _:=up;have _:=q1;have _:=q2;unfold sP zV2;rcases U8 i q with g|g|g
 ·exact .inr ⟨i,by omega,.inl ⟨g,rfl⟩,by rw[if_pos g],by rw[if_pos g]⟩
 ·exact .inl ⟨g,by rw[if_neg (by omega),if_pos g],by rw[if_neg (by omega),if_pos g]⟩
 ·exact .inr ⟨i-1,by omega,.inr ⟨g,by omega⟩,by rw[if_neg (by omega),if_neg (by omega)],by rw[if_neg (by omega),if_neg (by omega)]⟩
theorem zNG:Red p n (mkR (out.length+1) (sP p n out u k q)) (zV2 pv k q):=by
 have nc:=fun i hi=>zJ1 hp h hu hk u1 ul up hq q1 q2 (i:=i) hi
 have pn:=fun i hi=>yAt hp h hu hk u1 ul up hq q1 q2 (i:=i) hi
 refine⟨fun i hi=>?_,fun i hi=>?_,fun i hi=>?_,fun i hi j hj=>?_,fun i j hi hj gj=>?_,fun i j gO hj=>?_⟩<;>rw[sK]at*
 ·rw[kM hi]
  rcases nc i hi with⟨_,e,_⟩|⟨a,_,_,e,_⟩<;>rw[e]
  ·exact hu
  ·exact kV hp
 ·rcases nc i hi with⟨_,_,e⟩|⟨a,ha,_,_,e⟩<;>rw[e]
  ·exact hk
  ·exact h.lt a ha
 ·rw[zEX hi]
  rcases nc i hi with⟨_,e1,e2⟩|⟨a,ha,_,e1,e2⟩<;>rw[e1,e2]
  ·exact u1
  ·rw[zEZ hp h hu hk u1 ul up hq q1 q2 ha (h.lt a ha) (.inr (up a ha))];exact h.one a ha
 ·rw[zEX hi]
  rcases nc i hi with⟨_,e1,e2⟩|⟨a,ha,_,e1,e2⟩<;>rw[e2]at hj<;>rw[e1]
  ·exact ul j hj
  ·exact zV3 hp h hu hk u1 ul up hq q1 q2 ha hj (pn a ha)
 ·rw[zEX hj]
  rcases nc i hi with⟨g1,_,e2⟩|⟨a,ha,ga,_,e2⟩<;>rw[e2]<;>rcases nc j hj with⟨g3,e3,_⟩|⟨b,hb,gb,e3,_⟩<;>rw[e3]
  ·omega
  ·exact yAs hp h hu hk u1 ul up hq q1 q2
  ·exact up a ha
  ·rw[zEZ hp h hu hk u1 ul up hq q1 q2 hb (h.lt a ha) (.inr (up a ha))]
   exact h.off a b ha hb (by omega)
 ·rcases nc i (by omega)with⟨g1,_,e2⟩|⟨a,ha,ga,_,e2⟩<;>rw[e2]<;>rcases nc j hj with⟨g3,_,e4⟩|⟨b,hb,gb,_,e4⟩<;>rw[e4]
  ·omega
  ·exact q2 b (by omega) hb
  ·exact q1 a (by omega)
  ·exact h.mono a b (by omega) hb
theorem zQs:(∀i,i<out.length+1→Sp p n (out++[u]) (sP p n out u k q i))∧(∀i,i<out.length→Sp p n (mkR (out.length+1) (sP p n out u k q)) (out.getD i []))∧Sp p n (mkR (out.length+1) (sP p n out u k q)) u:=by
 have eZ:Sp p n (out++[u]) u:=by have:=qN (p:=p) (n:=n) (R:=out++[u]) (i:=out.length) (by simp);simpa[J2]using this
 have hol:∀i,i<out.length→Sp p n (out++[u]) (out.getD i []):=fun i hi=>by have:=qN (p:=p) (n:=n) (R:=out++[u]) (i:=i) (by simp;omega);simpa[J2,Jv hi]using this
 have ud:∀i,i<out.length→Sp p n (out++[u]) (oth p n out u k i):=fun i hi=>
  zBf (k:=p-at0 (out.getD i []) k) (hol i hi) eZ fun j hj=>by rw[oth,uH,yG hj,K6]
 have a6:Sp p n (mkR (out.length+1) (sP p n out u k q)) u:=by have:=zBZ (p:=p) (n:=n) (m:=out.length+1) (F:=sP p n out u k q) (i:=q) (by omega);rw[show sP p n out u k q q=u from by unfold sP;rw[if_neg (by omega),if_pos rfl]]at this;exact this
 refine⟨fun i hi=>?_,fun i hi=>?_,a6⟩
 ·rcases zJ1 hp h hu hk u1 ul up hq q1 q2 hi with⟨_,e,_⟩|⟨a,ha,_,e,_⟩<;>rw[e]
  ·exact eZ
  ·exact ud a ha
 ·have eh:∃b,b<out.length+1∧sP p n out u k q b=oth p n out u k i:=by
   rcases Jk i q with g|g
   ·exact⟨i,by omega,by unfold sP;rw[if_pos g]⟩
   ·exact⟨i+1,by omega,by unfold sP;rw[if_neg (by omega),if_neg (by omega)];rfl⟩
  obtain⟨b,hb,e⟩:=eh;have h1:=zBZ (p:=p) (n:=n) (m:=out.length+1) (F:=sP p n out u k q) hb;rw[e]at h1;refine zBf (k:=at0 (out.getD i []) k) h1 a6 fun j hj=>?_
  rw[zNF hp h hu hk u1 ul up hq q1 q2 hj,Kd,K6,←Kd,show at0 (out.getD i []) j-at0 (out.getD i []) k*at0 u j+at0 (out.getD i []) k*at0 u j=at0 (out.getD i []) j from by omega]
theorem zMf(hn:n≤100000)(hm:out.length≤100000){x:Int}:
  ((zI (zIH p (out,x) (k:Int) u) ([],iq,0)).bind fun r32=>cond (!r32.2) ((xW r32.1 [u]).bind fun v33=>ik v33) (ik r32.1))=ik (mkR (out.length+1) (sP p n out u k q)):=by
 have _:=u1;have _:=ul;have _:=up;have h7:=hp.pos;have ho:∀i,i<out.length→f_w p (out.getD i []) (p-at0 (out.getD i []) k) u=ik (oth p n out u k i)∧ixO (out.getD i []) (k:Int)=ik (at0 (out.getD i []) k)∧0≤at0 (out.getD i []) k∧at0 (out.getD i []) k≤p-1∧f_F (out.getD i [])=ik (pv i:Int):=fun i hi=>by have hr:=h.row i hi;have fy:=hr.2 k hk;have gA:=h.one i hi;have fS:=h.low i hi;simp only[ent]at gA fS;exact⟨by rw[uZ hp hr hu ⟨by omega,by omega⟩ (by omega)];rfl,yV (by rw[hr.1];exact hk),fy.1,fy.2,zKq hr.1 (by omega) (h.lt i hi) fS (by rw[gA];decide)⟩
 have a7:∀{m:Nat}{F:Nat→List Int},mkR m F++[F m]=mkR (m+1) F:=fun{m F}=>by simp[mkR,Lj]
 have:=zX (body:=zIH p (out,x) (k:Int) u) (r:=(if out.length≤q then(mkR out.length (sP p n out u k q),iq)else(mkR (out.length+1) (sP p n out u k q),io)))
  (fun j=>if j≤q then(mkR j (sP p n out u k q),iq,(j:Int))else(mkR (j+1) (sP p n out u k q),io,(j:Int))) out.length (fun j hj=>by
   obtain⟨a1,a2,a3,a4,a5⟩:=ho j hj;have dE:rng (p-at0 (out.getD j []) k)=ik (p-at0 (out.getD j []) k):=zE (by omega) (by omega);rcases U8 j q with g|g|g
   ·have hpj:=q1 j g
    rw[if_pos (by omega),if_pos (by omega)];unfold zIH;simp only
    rw[yZ hj,zM,Kk,zM,yQ [] hj];simp only[bs,a5];rw[ir (by omega),zR,a2];simp only[bs,dE,a1];rw[yO (by rw[sK];simp;omega),bs,zE (by omega) (by omega),bs,cs];have:sP p n out u k q j=oth p n out u k j:=by unfold sP;rw[if_pos g]
    rw[←this,a7]
   ·subst g
    have hpj:=q2 j (Jg _) hj;rw[if_pos (by omega),if_neg (by omega)];unfold zIH;simp only
    rw[yZ hj,zM,Kk,zM,yQ [] hj];simp only[bs,a5];rw[iu (by omega),zM,yO (by rw[sK];simp;omega),a2];simp only[bs,dE,a1];have e1:sP p n out u k j j=u:=by unfold sP;rw[if_neg (by omega),if_pos rfl]
    have e2:sP p n out u k j (j+1)=oth p n out u k j:=by unfold sP;rw[if_neg (by omega),if_neg (by omega)];rfl
    have e3:mkR j (sP p n out u k j)++[u]=mkR (j+1) (sP p n out u k j):=by rw[←a7,e1]
    rw[e3,yO (by rw[sK];simp;omega),bs,zE (by omega) (by omega),bs,cs,←e2,a7]
   ·rw[if_neg (by omega),if_neg (by omega)]
    unfold zIH;simp only
    rw[yZ hj,zM,K0,zR,yQ [] hj];simp only[bs,a2,dE,a1];have e2:sP p n out u k q (j+1)=oth p n out u k j:=by unfold sP;rw[if_neg (by omega),if_neg (by omega)];rfl
    rw[yO (by rw[sK];simp;omega),bs,zE (by omega) (by omega),bs,cs,←e2,a7]) (by
   by_cases g:out.length≤q
   ·rw[if_pos g,if_pos g]
    unfold zIH;simp only
    rw[vU,zR]
   ·rw[if_neg g,if_neg g]
    unfold zIH;simp only
    rw[vU,zR])
 rw[if_pos (Kn _),show((0:Nat):Int)=0 from rfl,show mkR 0 (sP p n out u k q)=[]from rfl]at this;rw[this,bs]
 by_cases g:out.length≤q
 ·have e1:sP p n out u k q out.length=u:=by unfold sP;rw[if_neg (by omega),if_pos (by omega)]
  rw[if_pos g];simp only
  rw[Kk,zM,yO (by rw[sK];simp;omega),bs]
  congr 1
  rw[←a7,e1]
 ·rw[if_neg g]
  simp only
  rw[K0,zR]
end
end Go.Pl

namespace Go.Pl
open Go Go.Ab Go.Wk Go.Pc
theorem zNH{p:Int}{n:Nat}{R out:Mx}{cf:Nat→Int}(ho:∀i,i<out.length→Sp p n R (out.getD i [])){u:List Int}(hu:∀j,j<n→at0 u j%p=(S out.length fun k=>cf k*ent out k j)%p):Sp p n R u:=
 kW ho ⟨cf,fun j hj=>(hu j hj).symm⟩
theorem Red.len_le{p:Int}{n:Nat}{R:Mx}{pv:Nat→Nat}(h:Red p n R pv):R.length≤n:=by
 have key:∀i,i<R.length→i≤pv i:=by
  intro i
  induction i with
  |zero=>intro _;omega
  |succ i ih=>
   intro hi;have h1:=ih (by omega);have h2:=h.mono i (i+1) (by omega) hi;omega
 rcases Gy R.length with g|g
 ·omega
 ·have h1:=key (R.length-1) (by omega)
  have h2:=h.lt (R.length-1) (by omega);omega
theorem zDt{xs:Mx}{v:List Int}{i:Nat}(h:i<xs.length):(xs++[v]).getD i []=xs.getD i []:=by simp only[J2,Jv h]
theorem zDu{xs:Mx}{v:List Int}:(xs++[v]).getD xs.length []=v:=by simp[J2]
section
variable {p:Int} (hp:Prime p) {n:Nat} (hn:n≤100000)
 include hp hn
theorem zNI{w:List Int}(hw:Row p n w){r:Int}(h0:0≤r)(h1:r≤p-1):zWs p r w=ik (mkv n fun j=>(at0 w j*r)%p):=by
 have h7:=hp.pos;unfold zWs;rw[hw.1,xL (by omega),bs,uZ hp (zHU (by omega)) hw ⟨by omega,by omega⟩ (by omega),bs]
 congr 1
 refine yC fun j hj=>?_
 rw[show at0 (z0 n) j=0 from by simp[z0,at0,J2,hj],Lp,U9]
variable {rows:Mx} (hm:rows.length≤600000) (hr:∀i,i<rows.length→Row p n (rows.getD i []))
 include hm hr
theorem zFa:∃R pv,f_q p rows=ik R∧(Red p n R pv∧R.length≤rows.length)∧jM p n R rows:=by
 have h7:=hp.pos;unfold f_q;have main:=tL (body:=zQP p rows) (s:=([],0)) (Q:=fun R=> ∃pv,(Red p n R pv∧R.length≤rows.length)∧jM p n R rows)
  (fun i s=> ∃(out:Mx)(pv:Nat→Nat),s=(out,(i:Int))∧Red p n out pv∧jM p n out (rows.take i)∧out.length≤i∧i≤rows.length) rows.length (fun i s hi hI=>?_) (fun s hI=>?_) ⟨[],fun _=>0,rfl,Red.empty,by rw[Ka];exact jM.refl,Kn _,Kn _⟩
 ·obtain⟨R,h1,pv,h2,h3⟩:=main
  rw[h1,bs];exact⟨R,pv,rfl,h2,h3⟩
 ·obtain⟨out,pv,rfl,h,hs,hl,_⟩:=hI
  have hon:out.length≤n:=h.len_le;left;have hv:=hr i hi;have hw:=zKr hp hn h hv out.length;have gE:=zHV hp hn h hv (by omega);have hpz:=zYm hp hn h hv out.length (Jg _);obtain⟨cf,cX⟩:=zV1 hp hn h hv out.length (Jg _);obtain⟨k,k1,k2,k3,k4⟩:=zJ0 hw.1 (by omega);have ey:rows.take (i+1)=rows.take i++[rows.getD i []]:=by rw[Jr hi,J2,J4 hi];rfl
  have bJ:(rows.take i).length=i:=by rw[Jw];omega
  have fM:∀u,Sp p n (rows.take i) u→Sp p n (rows.take (i+1)) u:=fun u hu=>kW (fun a ha=>by have:=qN (p:=p) (n:=n) (R:=rows.take (i+1)) (i:=a) (by rw[ey,J5];omega);rw[ey,zDt ha,←ey]at this;exact this) hu
  have cY:Sp p n (rows.take (i+1)) (rows.getD i []):=by
   have:=qN (p:=p) (n:=n) (R:=rows.take (i+1)) (i:=i) (by rw[ey,J5,bJ];simp);rw[ey]at this;have e:(rows.take i++[rows.getD i []]).getD i []=rows.getD i []:=by have:=zDu (xs:=rows.take i) (v:=rows.getD i []);rw[bJ]at this;exact this
   rw[e,←ey]at this;exact this
  by_cases pN:k=n
  ·
   refine⟨(out,((i+1:Nat):Int)),?_,out,pv,rfl,h,⟨fun a ha=>fM _ (hs.1 a ha),fun a ha=>?_⟩,by omega,by omega⟩
   ·unfold zQP
    simp only
    rw[yZ hi,zM,yQ [] hi];simp only[bs,gE,k2];rw[hw.1,zMc (by omega),zM,zE (by omega) (by omega),bs,cs]
   ·rw[ey,J5,bJ,Ub]at ha
    rw[ey];rcases Jk a i with g|g
    ·rw[zDt (by omega)];exact hs.2 a (by omega)
    ·have:a=i:=by omega
     subst this;have e:(rows.take a++[rows.getD a []]).getD a []=rows.getD a []:=by have:=zDu (xs:=rows.take a) (v:=rows.getD a []);rw[bJ]at this;exact this
     rw[e];refine zNH (out:=out) (cf:=fun q=> -1*cf q) (fun a ha=>qN ha) fun j hj=>?_
     have h1:=cX j hj;rw[k3 j (by omega)]at h1;rw[xR (g:=fun q=> -1*(cf q*ent out q j)) (fun q _=>by rw[Hv]),zCP];have h2:(at0 (rows.getD a []) j+S out.length fun q=>cf q*ent out q j)%p=0:=by rw[←h1];rfl
     rw[show at0 (rows.getD a []) j=(at0 (rows.getD a []) j+S out.length fun q=>cf q*ent out q j)+ -1*(S out.length fun q=>cf q*ent out q j)from by omega,Kd,h2,Lp,K6]
  ·have hk:k<n:=by omega
   have hwk:=hw.2 k hk;have gj:=k4 hk;obtain⟨r,r1,r2,r3,r4⟩:=zSD hp (x:=at0 (cl p n out pv (rows.getD i []) out.length) k) (by omega) (by omega);have bK:=zNI hp hn hw r2 r3;have hu:Row p n (mkv n fun j=>(at0 (cl p n out pv (rows.getD i []) out.length) j*r)%p):=⟨zZ _ _,fun j hj=>by have e1:=Kx (at0 (cl p n out pv (rows.getD i []) out.length) j*r) (show p≠0 by omega);have e2:=Kh (at0 (cl p n out pv (rows.getD i []) out.length) j*r) (show 0<p by omega);rw[yG hj];omega⟩
   have ua:∀j,j<n→at0 (mkv n fun j=>(at0 (cl p n out pv (rows.getD i []) out.length) j*r)%p) j=(at0 (cl p n out pv (rows.getD i []) out.length) j*r)%p:=fun j hj=>yG hj
   generalize mkv n (fun j=>(at0 (cl p n out pv (rows.getD i []) out.length) j*r)%p)=u at bK hu ua
   have u1:at0 u k=1:=by rw[ua k hk];exact r4
   have ul:∀j,j<k→at0 u j=0:=fun j hj=>by rw[ua j (by omega),k3 j hj];simp
   have up:∀a,a<out.length→at0 u (pv a)=0:=fun a ha=>by rw[ua _ (h.lt a ha),hpz a ha];simp
   obtain⟨q,⟨hq,dX⟩,eF⟩:=zDE (p:=fun q=>q≤out.length∧(q<out.length→k<pv q)) ⟨out.length,Jg _,fun g=>by omega⟩;have q1:∀a,a<q→pv a<k:=fun a ha=>by
    have h1:¬(k<pv a):=fun g=>eF a ha ⟨by omega,fun _=>g⟩
    have h2:pv a≠k:=fun e=>by have:=up a (by omega);rw[e,u1]at this;cases this
    omega
   have q2:∀a,q≤a→a<out.length→k<pv a:=fun a ha ha2=>by
    have h1:=dX (by omega);rcases Jk q a with g|g
    ·have:=h.mono q a g ha2;omega
    ·rw[show a=q from by omega];exact h1
   have f8:=zMf hp h hu hk u1 ul up hq q1 q2 hn (by omega) (x:=(i:Int));have dH:=zNG hp h hu hk u1 ul up hq q1 q2;obtain⟨s1,s2,s3⟩:=zQs hp h hu hk u1 ul up hq q1 q2;refine⟨(mkR (out.length+1) (sP p n out u k q),((i+1:Nat):Int)),?_,_,_,rfl,dH,⟨fun a ha=>?_,fun a ha=>?_⟩,by rw[sK];omega,by omega⟩
   ·unfold zQP
    simp only
    rw[yZ hi,zM,yQ [] hi];simp only[bs,gE,k2];rw[hw.1,zMd (by omega),zR,yV (by rw[hw.1];exact hk)];simp only[bs,r1,bK];cases eA:zI (zIH p (out,(i:Int)) (k:Int) u) ([],iq,0)with
    |none=>rw[eA]at f8;cases f8
    |some r32=>
     rw[eA,bs]at f8;simp only[bs];obtain⟨a1,a2⟩:=r32;cases a2 with
     |true=>
      simp only[K0,zR]at f8 ⊢
      rw[zE (by omega) (by omega),bs,cs,Ln.inj f8]
     |false=>
      simp only[Kk,zM]at f8 ⊢
      cases hap:xW a1 [u]with
      |none=>rw[hap]at f8;cases f8
      |some v33=>
       rw[hap,bs]at f8;simp only[bs];rw[zE (by omega) (by omega),bs,cs,Ln.inj f8]
   ·rw[sK]at ha
    rw[kM ha];refine kW (fun b hb=>?_) (s1 a ha);rw[J5,Ub]at hb;rcases Jk b out.length with g|g
    ·rw[zDt g];exact fM _ (hs.1 b g)
    ·rw[show b=out.length from by omega,zDu]
     have dj:Sp p n (rows.take (i+1)) (cl p n out pv (rows.getD i []) out.length):=by
      have mb:Sp p n (rows.take (i+1)) (mkv n fun j=>S out.length fun k=>cf k*ent out k j):=zNH (out:=out) (cf:=cf) (fun b hb=>fM _ (hs.1 b hb)) fun j hj=>by rw[yG hj]
      refine zBf (k:=1) cY mb fun j hj=>?_
      rw[cX j hj,yG hj,Jbq]
     refine zBf (k:=r) (zEW (u:=[]) fun j _=>by simp[at0]) dj fun j hj=>?_
     rw[ua j hj,K6,show at0 ([]:List Int) j=0 from by simp[at0],Lp,U9]
   ·rw[ey,J5,bJ,Ub]at ha
    rw[ey];rcases Jk a i with g|g
    ·rw[zDt (by omega)]
     exact kW s2 (hs.2 a (by omega))
    ·have hai:a=i:=by omega
     subst hai;have e:(rows.take a++[rows.getD a []]).getD a []=rows.getD a []:=by have:=zDu (xs:=rows.take a) (v:=rows.getD a []);rw[bJ]at this;exact this
     rw[e];have dj:Sp p n (mkR (out.length+1) (sP p n out u k q)) (cl p n out pv (rows.getD a []) out.length):=by
      refine zBf (k:=at0 (cl p n out pv (rows.getD a []) out.length) k) (zEW (u:=[]) fun j _=>by simp[at0]) s3 fun j hj=>?_
      rw[ua j hj,show at0 ([]:List Int) j=0 from by simp[at0],Lp];rw[Jt,K6,←Jt,←Hv,U9 (at0 (cl p n out pv (rows.getD a []) out.length) k),Hv,Jt,r4,Hb,K6]
     have mb:Sp p n (mkR (out.length+1) (sP p n out u k q)) (mkv n fun j=>S out.length fun k=>cf k*ent out k j):=zNH (out:=out) (cf:=cf) s2 fun j hj=>by rw[yG hj]
     refine zBf (k:=-1) dj mb fun j hj=>?_
     rw[yG hj,Kd,cX j hj,←Kd]
     congr 1;omega
 ·obtain⟨out,pv,rfl,h,hs,hl,_⟩:=hI
  refine⟨out,?_,pv,⟨h,hl⟩,by rw[H5]at hs;exact hs⟩;unfold zQP;simp only
  rw[vU,zR]
theorem zMg:∃R pv,f_q p rows=ik R∧Red p n R pv∧jM p n R rows:=by obtain⟨R,pv,h1,h2,h3⟩:=zFa hp hn hm hr;exact⟨R,pv,h1,h2.1,h3⟩
theorem zHW{R:Mx}{pv:Nat→Nat}(h:Red p n R pv)(hs:jM p n R rows):R.length≤rows.length:=by have h7:=hp.pos;obtain⟨R',pv',_,h2,h3⟩:=zFa hp hn hm hr;rw[h.unique (by omega) h2.1 (hs.trans h3.symm)];exact h2.2
theorem kX:∃R pv,f_q p rows=ik R∧f_i p rows=ik R∧Red p n R pv∧jM p n R rows:=by have h7:=hp.pos;obtain⟨R,pv,h1,h2,h3⟩:=zMg hp hn hm hr;obtain⟨R',pv',g1,g2,g3⟩:=zMe hp hn hm hr;have e:=h2.unique (by omega) g2 (h3.trans g3.symm);exact⟨R,pv,h1,by rw[e];exact g1,h2,h3⟩
end
end Go.Pl

namespace Go.Pl
open Go Go.Ab Go.Wk Go.Pc
theorem tA{β:Type}{body:List β×Int→Option ((List β×Int)⊕List β)}(n:Nat)(F:Nat→β)(h:∀i acc,i<n→acc.length=i→body (acc,(i:Int))=ik (.inl (acc++[F i],((i+1:Nat):Int))))(he:∀acc,body (acc,(n:Int))=ik (.inr acc)):
  zI body ([],0)=ik ((Jf n).map F):=by
 have:=zX (body:=body) (r:=(Jf n).map F) (fun i=>((Jf i).map F,(i:Int))) n (by grind[Lj]) (he _);exact this
theorem zQt{xs:Mx}(hx:xs.length≤100000)(hf:xs.flatten.length≤1000000):zW2 xs=ik xs.flatten:=by
 unfold zW2;have:=zX (body:=zMU xs) (r:=xs.flatten) (fun i=>((xs.take i).flatten,(i:Int))) xs.length (fun i hi=>by
  have h1:=zFO hi;have h2:=zKm (xs:=xs) (i+1);have h3:=congrArg Jbf h1;rw[J5]at h3;unfold zMU;simp only
  rw[yZ hi,zM,yQ [] hi,bs,yO (by omega),bs,zE (by omega) (by omega),bs,cs,h1]) (by
  unfold zMU;simp)
 grind
theorem zPo{p:Int}{L:Nat}{v:List Int}:Row p L v↔v.length=L∧ ∀a∈v,0≤a∧a≤p-1:=by
 constructor
 ·rintro⟨h1,h2⟩
  refine⟨h1,fun a ha=>?_⟩;obtain⟨i,hi,rfl⟩:=L7.1 ha
  grind
 ·rintro⟨h1,h2⟩
  refine⟨h1,fun i hi=>?_⟩
  simp_all
def kY(D k:Nat):List Int:=mkv D fun j=>if j=k then 1 else 0
theorem zQu{p:Int}{D k:Nat}(hp:2≤p):Row p D (kY D k):=⟨zZ _ _,by grind[kY,yG]⟩
theorem zG1{D k:Nat}(hk:k<D)(hD:D≤1000000):zMA (D:Int) (k:Int)=ik (kY D k):=by grind[zMA,xL,yV,tM,jL,kY]
end Go.Pl

namespace Go.Pl
open Go Go.Ab Go.Wk Go.Pc
abbrev gl{β:Type}(m:Nat)(F:Nat→β):List β:=(Jf m).map F
theorem wT{β:Type}{m:Nat}{F:Nat→β}:(gl m F).length=m:=by simp[gl]
theorem zFb{β:Type}{m:Nat}{F:Nat→β}{i:Nat}(h:i<m):ixO (gl m F) (i:Int)=ik (F i):=by rw[kK (by grind)];simp[gl]
theorem zSE{β:Type}{m:Nat}{F G:Nat→β}(h:∀i,i<m→F i=G i):gl m F=gl m G:=by grind[Qe]
theorem zKs{β:Type}{m:Nat}{F:Nat→β}{i:Nat}{a:β}:(gl m F).set i a=gl m (fun k=>if k=i then a else F k):=by
 apply Kv
 grind
theorem zCb{β:Type}{m:Nat}{F:Nat→β}:gl m F++[F m]=gl (m+1) F:=by simp[gl,Lj]
def base(n i:Nat):Nat:=n+i*n-i*(i+1)/2
theorem zCc:∀n,n<7→ ∀i,i<n→base n i+(n-1-i)≤base n n:=by decide
theorem vT:∀n,n<7→n≤base n n∧base n n≤21∧base n 0=n:=by decide
theorem zNJ:∀n:Nat,n<7→ ∀j:Nat,j<n→ ∀i:Nat,i<j→zYT (n:Int) (i:Int) (j:Int)=ik ((base n i+(j-i-1):Nat):Int):=by decide+kernel
def exP(n D:Nat)(x:SPr)(T:Mx)(i:Nat):List Int:=if i<n then x.zU.getD i []++T.getD i []else J1 (n+D) 0
def exF(n:Nat)(x:SPr)(m:zB)(T:Mx)(i j:Nat):List Int:=if j<n-1-i then(x.zF.getD i []).getD j []++T.getD (base n i+j) []else J1 n 0++(m.zG.getD i []).getD (j-(n-1-i)) []
def unC(N i:Nat):Mx:=gl (N-1-i) fun j=>kY N (i+1+j)
def exC(n D:Nat)(x:SPr)(m:zB)(T:Mx)(i:Nat):Mx:=if i<n then gl (n+D-1-i) (exF n x m T i)else unC (n+D) i
def ext(n D:Nat)(x:SPr)(m:zB)(T:Mx):SPr:=⟨x.zA++J1 D m.Prime,gl (n+D) (exP n D x T),gl (n+D) (exC n D x m T)⟩
end Go.Pl

namespace Go.Pl
open Go Go.Ab Go.Wk Go.Pc
end Go.Pl

namespace Go.Pl
open Go Go.Ab Go.Wk Go.Pc
theorem zSF{α:Type}{c:α→Nat}{b:Nat}:∀{xs:List α},(∀x∈xs,c x≤b)→sm c xs≤xs.length*b
 | [],_=>by simp[sm]
 |x::xs,h=>by
  have h1:=zSF (xs:=xs) fun y hy=>h y (by simp[hy])
  grind[sm,K1]
theorem zEp{x:SPr}{n:Nat}(ho:x.zA.length=n)(hn:n≤6):zU3 x=ik ((base n n:Nat):Int):=by
 unfold zU3;rw[ho];have key:∀n:Nat,n<7→((rng ((n:Int)-1)).bind fun v1=>(rng ((n:Int)*v1)).bind fun v2=>(tR v2 2).bind fun v3=>(rng ((n:Int)+v3)).bind fun v4=>ik v4)=ik ((base n n:Nat):Int):=by decide+kernel
 grind
theorem zHX{x:SPr}{n:Nat}(ho:x.zA.length=n)(hn:n≤6):zU4 x=ik ((base n n:Nat):Int):=by
 unfold zU4;rw[ho];have key:∀n:Nat,n<7→((rng ((n:Int)+1)).bind fun v1=>(rng ((n:Int)*v1)).bind fun v2=>(tR v2 2).bind fun v3=>ik v3)=ik ((base n n:Nat):Int):=by decide+kernel
 grind
end Go.Pl

namespace Go.Pl
open Go Go.Ab Go.Wk Go.Pc
def zSG(x:SPr):Nat:=c1 x.zA+sm c1 x.zU+sm (sm c1) x.zF
def zWX(x:SPr)(k:Int):SPr:=⟨m1 k x.zA,m2 (k+c1 x.zA) x.zU,m3 (k+c1 x.zA+sm c1 x.zU) x.zF⟩
theorem zPp{x:SPr}(h:zDJ x):zSG x≤3145728:=by obtain⟨h1,h2,h3⟩:=h;have g2:=zS2 (x:=x.zU);have g3:=zKi (x:=x.zF);simp only[S1]at h1;simp only[S2]at h2;simp only[S3]at h3;simp only[zSG];omega
theorem zD7{x:SPr}{k:Int}(h:zDJ x)(k0:0≤k)(k1:k≤1000000000):zWl x k=ik (k+zSG x,zWX x k):=by have ht:=zPp h;simp only[zSG]at ht;unfold zWl;rw[zHB h.1 k0 (by omega),bs,zGp h.2.1 (by simp only;omega) (by simp only;omega),bs,zBQ h.2.2 (by simp only;omega) (by simp only;omega),bs];simp only[zSG,zWX,Ho,Int.add_assoc]
end Go.Pl

namespace Go.Pl
open Go Go.Ab Go.Wk Go.Pc
end Go.Pl

namespace Go.Pl
open Go Go.Ab Go.Wk Go.Pc
end Go.Pl

namespace Go.Pl
open Go Go.Ab Go.Wk Go.Pc
theorem zNK{v:List Int}{k:Nat}(hl:v.length≤1000000)(hk:k<v.length)(h0:∀j,j<k→at0 v j=0)(h1:at0 v k≠0):zWz v=ik (k:Int):=by
 unfold zWz;have:=zX (body:=zJ8 v) (r:=.inr (k:Int)) (fun i=>(i:Int)) k (fun i hi=>by
  unfold zJ8 zWy;rw[yZ (by omega),zM,yV (by omega),bs,bs,h0 i hi,bne_self_eq_false,zR,zE (by omega) (by omega),bs,cs]) (by
  unfold zJ8 zWy;rw[yZ hk,zM,yV hk,bs,bs,kR h1,zM])
 have e:zI (zJ8 v) 0=ik (.inr (k:Int)):=this;rw[e,bs]
section
variable {p:Int} (hp:Prime p) {n:Nat} (hn:n≤100000) {R:Mx}{pv:Nat→Nat} (h:Red p n R pv) {v:List Int} (hv:Row p n v)
 include hp hn h
theorem zMh(hm:R.length≤100000):zW0 R=ik (gl R.length fun i=>(pv i:Int)):=by
 have h7:=hp.pos;unfold zW0;rw[tA (body:=zMT R) R.length (fun i=>(pv i:Int)) (fun i acc hi ha=>by
  have hr:=h.row i hi;have h1:=h.one i hi;unfold zMT;simp only
  rw[yZ hi,zM,yQ [] hi,bs,zNK (k:=pv i) (by rw[hr.1];omega) (by rw[hr.1];exact h.lt i hi) (fun j hj=>h.low i hi j hj) (by simp only[ent]at h1;omega),bs,yO (by simp;omega),bs,zE (by omega) (by omega),bs,cs]) (fun acc=>by
  unfold zMT;simp only
  rw[vU,zR]),bs]
 include hv
theorem zYn{i:Nat}(hi:i<R.length):uH p n (cl p n R pv v i) (0-at0 (cl p n R pv v i) (pv i)) (R.getD i [])=cl p n R pv v (i+1):=by
 have _:=hp;have _:=hn;have _:=h;have _:=hv;have _:=hi;rw[cl];refine yC fun j _=>?_
 generalize at0 (cl p n R pv v i) (pv i)=a
 generalize at0 (R.getD i []) j=b
 rw[Qq,Qq,Uo];have e:at0 (cl p n R pv v i) j+(p*b-a*b)=at0 (cl p n R pv v i) j+(0-a*b)+p*b:=by omega
 rw[e,Lt]
theorem zHY{c:Int}(hm:R.length≤100000):zW1 (zT.mk p c R) v=ik (cl p n R pv v R.length):=by
 have h7:=hp.pos;have:=zX (body:=zJ9 (zT.mk p c R) (gl R.length fun i=>(pv i:Int))) (r:=cl p n R pv v R.length) (fun i=>(cl p n R pv v i,(i:Int))) R.length (fun i hi=>by
  have hr:=zKr hp hn h hv i;have ha:=hr.2 (pv i) (h.lt i hi);unfold zJ9;simp only
  rw[wT,yZ hi,zM,zFb hi,bs,yQ [] hi,bs,yV (by rw[hr.1];exact h.lt i hi),bs,zE (by omega) (by omega),bs,zA3 hp hr (h.row i hi) (by omega) (by omega),bs,zE (by omega) (by omega),bs,cs,zYn hp hn h hv hi]) (by
  unfold zJ9;simp only
  rw[wT,vU,zR])
 unfold zW1;rw[zCa (by rw[hv.1];omega),bs];simp only
 rw[zMh hp hn h hm,bs];have e:zI (zJ9 (zT.mk p c R) (gl R.length fun i=>(pv i:Int))) (v,0)=ik (cl p n R pv v R.length):=this;rw[e,bs]
end
end Go.Pl

namespace Go.Pl
open Go Go.Ab Go.Wk Go.Pc
section
variable {p:Int} (hp:1<p) {n:Nat}{R R':Mx}{pv pv':Nat→Nat} (h:Red p n R pv) (h':Red p n R' pv') (hs:∀i,i<R.length→Sp p n R' (R.getD i []))
 include hp h h' hs
theorem Red.lt_of{i i2 k k2:Nat}(hii:i<i2)(eh:i2<R.length)(hk:k<R'.length)(e:pv' k=pv i)(e2:pv' k2=pv i2):k<k2:=by
 have _:=hp;have _:=hs;have h1:=h.mono i i2 hii eh;refine Classical.byContradiction fun hn=>?_
 rcases Jk k2 k with g|g
 ·have:=h'.mono k2 k g hk;omega
 ·have:k=k2:=by omega
  subst this;omega
theorem Red.low_in:∀i,i<R.length→ ∃k,k<R'.length∧pv' k=pv i∧i≤k:=by
 intro i
 induction i with
 |zero=>intro hi;obtain⟨k,hk,e⟩:=h.piv_in hp h' hs hi;exact⟨k,hk,e,by omega⟩
 |succ i ih=>
  intro hi;obtain⟨k,hk,e,aD⟩:=ih (by omega);obtain⟨k2,fy,e2⟩:=h.piv_in hp h' hs hi;have:=h.lt_of hp h' hs (show i<i+1 by omega) hi hk e e2;exact⟨k2,fy,e2,by omega⟩
theorem Red.le_of:R.length≤R'.length:=by
 rcases Gy R.length with g|g
 ·omega
 ·obtain⟨k,hk,_,aD⟩:=h.low_in hp h' hs (R.length-1) (by omega)
  omega
end
end Go.Pl

namespace Go.Pl
open Go Go.Ab Go.Wk Go.Pc
end Go.Pl

namespace Go.Pl
open Go Go.Ab Go.Wk Go.Pc
theorem zKt{u v:List Int}{j:Nat}:at0 (u++v) j=if j<u.length then at0 u j else at0 v (j-u.length):=by grind
theorem zCS{v:List Int}{c j:Nat}:at0 (v.drop c) j=at0 v (c+j):=by simp
theorem zMi{v:List Int}{c j:Nat}(h:j<c):at0 (v.take c) j=at0 v j:=by grind
theorem zGD{f:Nat→Int}(t:Nat):∀d:Nat,S (t+d) f=S t f+S d (fun i=>f (t+i))
 |0=>by simp[S]
 |d+1=>by rw[←Nat.add_assoc];simp only[S];rw[zGD t d];omega
theorem zYo{f:Nat→Int}{t n:Nat}(ht:t≤n)(h:∀i,i<t→f i=0):S n f=S (n-t) (fun i=>f (t+i)):=by
 have e:n=t+(n-t):=by omega
 conv=>lhs;rw[e,zGD,xR (g:=fun _=>0) h,qM]
 omega
theorem xY{F:Nat→List Int}{m i:Nat}(h:i<m):(gl m F).getD i []=F i:=by grind
def ur(N i:Nat):List Int:=mkv N fun j=>if j=i then 1 else 0
def wd(N:Nat)(A:Mx):Mx:=gl N fun i=>A.getD i []++ur N i
def Gr(p:Int)(c N:Nat)(A:Mx)(u:List Int):Prop:=∀j,j<c→at0 u j%p=(S N fun k=>at0 u (c+k)*ent A k j)%p
section
variable {p:Int} (hp:1<p) {c N:Nat}{A:Mx} (hA:∀i,i<N→Row p c (A.getD i []))
 include hA
theorem zCT:(wd N A).length=N:=by have _:=hA;exact wT
theorem zKu{i j:Nat}(hi:i<N)(hj:j<c):ent (wd N A) i j=ent A i j:=by rw[ent,wd,xY hi,zKt,(hA i hi).1,if_pos hj]
theorem zB7{i l:Nat}(hi:i<N)(hl:l<N):ent (wd N A) i (c+l)=if l=i then 1 else 0:=by
 rw[ent,wd,xY hi,zKt,(hA i hi).1,if_neg (by omega),H3,ur,yG hl]
 include hp
theorem zSH{i:Nat}(hi:i<N):Row p (c+N) ((wd N A).getD i []):=by
 refine⟨by rw[wd,xY hi,J5,(hA i hi).1,ur,zZ],fun j hj=>?_⟩;rcases Jk j c with g|g
 ·have:=(hA i hi).2 j g
  have e:=zKu hA hi g
  grind
 ·have e:=zB7 hA (l:=j-c) hi (by omega)
  grind
theorem yAu{u:List Int}:Sp p (c+N) (wd N A) u↔Gr p c N A u:=by
 have _:=hp;constructor
 ·rintro⟨cf,cX⟩ j hj
  rw[zCT hA]at cX;rw[←cX j (by omega)];refine kT fun k hk=>?_
  have h1:=cX (c+k) (by omega);rw[zAm (k:=k) hk (fun i hi gj=>by rw[zB7 hA hi hk,if_neg (Ne.symm gj),Ld]),zB7 hA hk hk,if_pos rfl,Hb]at h1;rw[zKu hA hk hj,Jt,h1,←Jt]
 ·intro h
  refine⟨fun k=>at0 u (c+k),fun j hj=>?_⟩;rw[zCT hA];rcases Jk j c with g|g
  ·rw[h j g]
   refine congrArg (· %p) (xR fun k hk=>?_);rw[zKu hA hk g]
  ·obtain⟨l,rfl⟩:∃l,j=c+l:=⟨j-c,by omega⟩
   rw[zAm (k:=l) (by omega) (fun i hi gj=>by rw[zB7 hA hi (by omega),if_neg (Ne.symm gj),Ld]),zB7 hA (by omega) (by omega),if_pos rfl,Hb]
variable {W:Mx}{pv:Nat→Nat} (hW:Red p (c+N) W pv) (hs:jM p (c+N) W (wd N A))
 include hW
theorem zYp:∃t,t≤W.length∧(∀i,i<t→pv i<c)∧ ∀i,t≤i→i<W.length→c≤pv i:=by
 have _:=hA;have _:=hp;obtain⟨t,ht,eF⟩:=zDE (p:=fun t=>W.length≤t∨c≤pv t) ⟨W.length,.inl (Jg _)⟩;have gF:∀i,i<t→i<W.length∧pv i<c:=fun i hi=>by have:=eF i hi;exact⟨Jbk fun h=>this (.inl h),Jbk fun h=>this (.inr h)⟩
 refine⟨t,Nat.le_of_not_lt fun h=>?_,fun i hi=>(gF i hi).2,fun i hi eh=>?_⟩
 ·have:=(gF W.length h).1;omega
 ·rcases ht with h|h
  ·omega
  ·rcases Jk t i with g|g
   ·have:=hW.mono t i g eh;omega
   ·rw[show i=t from by omega];exact h
def nul(c t:Nat)(W:Mx):Mx:=gl (W.length-t) fun i=>(W.getD (t+i) []).drop c
 omit hp hA hW in
theorem zFc{t i j:Nat}(hi:t+i<W.length):ent (nul c t W) i j=ent W (t+i) (c+j):=by rw[ent,nul,xY (by omega),zCS]
variable {t:Nat} (ht:t≤W.length) (h1:∀i,i<t→pv i<c) (h2:∀i,t≤i→i<W.length→c≤pv i)
 include ht h1 h2
theorem zV4:Red p N (nul c t W) (fun i=>pv (t+i)-c):=by
 have _:=hp;have _:=hA;have _:=h1;have _:=ht;have hl:(nul c t W).length=W.length-t:=wT;have hpc:∀i,i<W.length-t→c≤pv (t+i):=by grind
 refine⟨fun i hi=>?_,fun i hi=>?_,fun i hi=>?_,fun i hi j hj=>?_,fun i k hi hk gj=>?_,fun i j gO hj=>?_⟩
 ·rw[hl]at hi
  have hr:=hW.row (t+i) (by omega);refine⟨by rw[nul,xY hi,Jz,hr.1];omega,fun j hj=>?_⟩;have:=hr.2 (c+j) (by omega)
  grind[nul]
 ·rw[hl]at hi
  have:=hW.lt (t+i) (by omega)
  grind
 ·rw[hl]at hi
  rw[zFc (by omega),show c+(pv (t+i)-c)=pv (t+i)from by grind];exact hW.one _ (by omega)
 ·rw[hl]at hi
  rw[zFc (by omega)];exact hW.low _ (by omega) _ (by omega)
 ·rw[hl]at hi hk
  rw[zFc (by omega),show c+(pv (t+i)-c)=pv (t+i)from by grind];exact hW.off _ _ (by omega) (by omega) (by omega)
 ·rw[hl]at hj
  have:=hW.mono (t+i) (t+j) (by omega) (by omega)
  grind
 include hs
theorem yAv{u:List Int}:Sp p (c+N) W u↔Gr p c N A u:=by have _:=hW;have _:=ht;have _:=h1;have _:=h2;exact hs.iff.trans (yAu hp hA)
theorem zYq{x:List Int}:Sp p N (nul c t W) x↔ ∀j,j<c→(S N fun k=>at0 x k*ent A k j)%p=0:=by
 have hl:(nul c t W).length=W.length-t:=wT;constructor
 ·rintro⟨cf,cX⟩ j hj
  rw[hl]at cX;have e1:(S N fun k=>at0 x k*ent A k j)%p=(S N fun k=>(S (W.length-t) fun i=>cf i*ent (nul c t W) i k)*ent A k j)%p:=by grind[kT,Jt]
  have e2:(S N fun k=>(S (W.length-t) fun i=>cf i*ent (nul c t W) i k)*ent A k j)=S (W.length-t) fun i=>cf i*S N fun k=>ent W (t+i) (c+k)*ent A k j:=by
   rw[xR (g:=fun k=>S (W.length-t) fun i=>cf i*(ent W (t+i) (c+k)*ent A k j)) (fun k hk=>by rw[←zLO];exact xR (by grind[zFc])),zHM]
   grind[zCP]
  have e3:(S (W.length-t) fun i=>cf i*S N fun k=>ent W (t+i) (c+k)*ent A k j)%p=(S (W.length-t) fun _=>0)%p:=kT fun i hi=>by have h:=(yAv hp hA hW hs ht h1 h2).1 (qN (p:=p) (n:=c+N) (R:=W) (i:=t+i) (by omega)) j hj;have hz:=hW.low (t+i) (by omega) j (by grind);simp only[ent]at hz;rw[hz]at h;rw[Jt,show(S N fun k=>ent W (t+i) (c+k)*ent A k j)%p=0 from h.symm,Ld]
  rw[e1,e2,e3,qM];rfl
 ·intro h0
  let u:List Int:=mkv (c+N) fun j=>if j<c then 0 else at0 x (j-c)
  have cB:∀j,j<c→at0 u j=0:=fun j hj=>by rw[yG (by omega),if_pos hj]
  have fV:∀k,k<N→at0 u (c+k)=at0 x k:=fun k hk=>by rw[yG (by omega),if_neg (by omega),H3]
  have hg:Gr p c N A u:=fun j hj=>by rw[cB j hj,xR (g:=fun k=>at0 x k*ent A k j) (by grind),h0 j hj];rfl
  have hx:=hW.expand ((yAv hp hA hW hs ht h1 h2).2 hg);refine⟨fun i=>at0 u (pv (t+i)),fun j hj=>?_⟩;have h3:=hx (c+j) (by omega);rw[fV j hj,zYo ht (by grind)]at h3;rw[hl,h3];exact congrArg (· %p) (xR (by grind[zFc]))
end
end Go.Pl

namespace Go.Pl
open Go Go.Ab Go.Wk Go.Pc
theorem zKv{v:List Int}(hl:v.length≤1000000):IsB (zTO v) (∀i,i<v.length→at0 v i=0):=by
 refine zAe v.length (fun i=>at0 v i=0) rfl (fun i hi _=>?_) ?_
 ·refine tV (o:=ik (at0 v i==0)) (IsB.of_bool (by simp)) (by omega) ?_
  unfold zJ6;rw[yZ hi,zM,yV hi,bs,bs];rfl
 ·unfold zJ6
  simp
end Go.Pl

namespace Go.Pl
open Go Go.Ab Go.Wk Go.Pc
end Go.Pl

namespace Go.Pl
open Go Go.Ab Go.Wk Go.Pc
end Go.Pl

namespace Go.Pl
open Go Go.Ab Go.Wk Go.Pc
structure Nul (p:Int) (c N:Nat) (A W:Mx) (pv:Nat→Nat) (t:Nat):Prop where
 row:∀i,i<N→Row p c (A.getD i [])
 len:A.length=N
 red:Red p (c+N) W pv
 sp:jM p (c+N) W (wd N A)
 le:t≤W.length
 lo:∀i,i<t→pv i<c
 hi:∀i,t≤i→i<W.length→c≤pv i
section
variable {p:Int} (hp:Prime p) {c N:Nat} (fH:c+N≤100000) {A W:Mx}{pv:Nat→Nat}{t:Nat}
 include hp fH
theorem Nul.get(hr:∀i,i<N→Row p c (A.getD i []))(hl:A.length=N):∃W pv t,Nul p c N A W pv t∧f_q p (wd N A)=ik W∧f_i p (wd N A)=ik W:=by have h7:=hp.pos;obtain⟨W,pv,r1,r2,r3,r4⟩:=kX hp (n:=c+N) fH (rows:=wd N A) (by rw[zCT hr];omega) (fun i hi=>zSH (by omega) hr (by rwa [zCT hr]at hi));obtain⟨t,t1,t2,t3⟩:=zYp (by omega) hr r3;exact⟨W,pv,t,⟨hr,hl,r3,r4,t1,t2,t3⟩,r1,r2⟩
variable (h:Nul p c N A W pv t)
 include h
theorem Nul.nred:Red p N (nul c t W) (fun i=>pv (t+i)-c):=by have _:=fH;have h7:=hp.pos;exact zV4 (by omega) h.row h.red h.le h.lo h.hi
theorem Nul.nsp{x:List Int}:Sp p N (nul c t W) x↔ ∀j,j<c→(S N fun k=>at0 x k*ent A k j)%p=0:=by have _:=fH;have h7:=hp.pos;exact zYq (by omega) h.row h.red h.sp h.le h.lo h.hi
theorem Nul.full:W.length=N:=by
 have h7:=hp.pos;have g1:W.length≤(wd N A).length:=zHW hp (n:=c+N) fH (by rw[zCT h.row];omega) (fun i hi=>zSH (by omega) h.row (by rwa [zCT h.row]at hi)) h.red h.sp;rw[zCT h.row]at g1;have hl:(gl W.length fun i=>(W.getD i []).drop c).length=W.length:=wT;have hR:∀i,i<W.length→Row p N ((gl W.length fun i=>(W.getD i []).drop c).getD i []):=fun i hi=>by have hr:=h.red.row i hi;rw[xY hi];refine⟨by rw[Jz,hr.1];omega,fun j hj=>?_⟩;rw[zCS];exact hr.2 (c+j) (by omega)
 obtain⟨R3,pv3,_,_,g3,g4⟩:=kX hp (n:=N) (by omega) (rows:=gl W.length fun i=>(W.getD i []).drop c) (by omega) (by rw[hl];exact hR);have g5:=zHW hp (n:=N) (by omega) (by omega) (by rw[hl];exact hR) g3 g4;have eZ:(gl N (ur N)).length=N:=wT;have m6:∀i j,i<N→j<N→ent (gl N (ur N)) i j=if j=i then 1 else 0:=fun i j hi hj=>by rw[ent,xY hi,ur,yG hj]
 have e7:Red p N (gl N (ur N)) (fun i=>i):=by
  refine⟨fun i hi=>?_,fun i hi=>by omega,fun i hi=>?_,fun i hi j hj=>?_,fun i k hi hk gj=>?_,fun i j gO hj=>gO⟩
  ·rw[eZ]at hi
   rw[xY hi];refine⟨zZ _ _,fun j hj=>?_⟩;rw[ur,yG hj];split<;>omega
  ·rw[eZ]at hi
   rw[m6 i i hi hi,if_pos rfl]
  ·rw[eZ]at hi
   rw[m6 i j hi (by omega),if_neg (by omega)]
  ·rw[eZ]at hi hk
   rw[m6 k i hk hi,if_neg (Ne.symm gj)]
 have g6:=e7.le_of (by omega) g3 (fun i hi=>by rw[eZ]at hi;refine g4.iff.2 ?_;obtain⟨cf,cX⟩:=h.sp.2 i (by rw[zCT h.row];exact hi);refine⟨cf,fun j hj=>?_⟩;have h1:=cX (c+j) (by omega);have h2:=zB7 h.row hi hj;simp only[ent]at h2;rw[h2]at h1;have h3:=m6 i j hi hj;simp only[ent]at h3;rw[h3,hl,←h1];exact congrArg (· %p) (xR fun k hk=>by rw[ent,xY hk,zCS]))
 omega
 omit h in
theorem zNL{N:Nat}(hN:N≤100000):f_N (N:Int)=ik (gl N (ur N)):=by
  have _:=hp;have _:=fH;unfold f_N;rw[tA (body:=zM8 (N:Int)) N (ur N) (fun i acc hi ha=>by
    unfold zM8;simp only
    rw[yZ hi,zM,xL (by omega),bs,vW,Ke,if_pos hi,bs,Ja,tM,jL,yO (by simp;omega),bs,zE (by omega) (by omega),bs,cs];rfl) (fun acc=>by
    unfold zM8;simp only
    rw[vU,zR]),bs]
 omit h in
theorem zQv(hr:∀i,i<N→Row p c (A.getD i []))(hl:A.length=N):zWt p A=f_q p (wd N A):=by
  unfold zWt;rw[hl,zNL hp fH (by omega),bs,tA (body:=zMM A (gl N (ur N))) N (fun i=>A.getD i []++ur N i) (fun i acc hi ha=>by
    unfold zMM;simp only
    rw[hl,yZ hi,zM,yQ [] (by omega),bs,qS (by rw[(hr i hi).1];omega),bs,zFb hi,bs,yO (by rw[(hr i hi).1,ur,zZ];omega),bs,yO (by simp;omega),bs,zE (by omega) (by omega),bs,cs]) (fun acc=>by
    unfold zMM;simp only
    rw[hl,vU,zR]),bs]
  show(f_q p (wd N A)).bind _=_;cases f_q p (wd N A)<;>rfl
theorem zQw:zI (zJ7 (c:Int) W) ([],0)=ik (nul c t W):=by
 have hf:=h.full hp fH;have cV:=h.le;have:=zX (body:=zJ7 (c:Int) W) (r:=nul c t W) (fun i=>(gl (i-t) (fun k=>(W.getD (t+k) []).drop c),(i:Int))) W.length (fun i hi=>by
  have hr:=h.red.row i hi;have h1:=h.red.one i hi;have gF:=h.red.lt i hi;have aA:=zKq (n:=c+N) hr.1 (by omega) gF (h.red.low i hi) (by simp only[ent]at h1;omega);unfold zJ7;simp only
  rw[yZ hi,zM,yQ [] hi,bs,aA,bs];rcases Jk i t with g|g
  ·have:=h.lo i g
   rw[ir (by omega),zR,zE (by omega) (by omega),bs,cs,show i-t=0 from by omega,show i+1-t=0 from by omega]
  ·have:=h.hi i g hi
   have e:yB (W.getD i []) (c:Int) ((W.getD i []).length:Int)=ik ((W.getD i []).drop c):=by unfold yB;rw[if_pos ⟨by omega,by rw[hr.1];omega,by omega⟩,Ja,Ja,Js (by rw[Jz];omega)]
   rw[iu (by omega),zM,bs,e,bs,qS (by rw[Jz,hr.1];omega),bs,yO (by rw[wT];simp;omega),bs,zE (by omega) (by omega),bs,cs,show i+1-t=(i-t)+1 from by omega,←zCb,show t+(i-t)=i from by omega]) (by
  unfold zJ7;simp only
  rw[vU,zR];rfl)
 rw[show 0-t=0 from by omega]at this;exact this
end
end Go.Pl

namespace Go.Pl
open Go Go.Ab Go.Wk Go.Pc
theorem zPq{β:Type}{n:Nat}{F:Nat→β}:gl (n+1) F=gl n F++[F n]:=zCb.symm
theorem zPr{β:Type}{L:Nat}{F:Nat→List β}:∀{n:Nat},(∀i,i<n→(F i).length=L)→(gl n F).flatten.length=n*L
 |0,_=>by simp[gl]
 |n+1,h=>by
  rw[zPq,Jar,J5,zPr fun i hi=>h i (by omega),K1]
  grind
theorem zSI{β:Type}{body:List β×Int→Option ((List β×Int)⊕List β)}(n L:Nat)(F:Nat→List β)(a0:List β)(hF:∀i,i<n→(F i).length=L)
  (h:∀i acc,i<n→acc.length=a0.length+i*L→body (acc,(i:Int))=ik (.inl (acc++F i,((i+1:Nat):Int))))(he:∀acc,body (acc,(n:Int))=ik (.inr acc)):
  zI body (a0,0)=ik (a0++(gl n F).flatten):=by
 have:=zX (body:=body) (r:=a0++(gl n F).flatten) (fun i=>(a0++(gl i F).flatten,(i:Int))) n (fun i hi=>by rw[h i _ hi (by grind[zPr]),zPq,Jar,Jb];simp) (he _)
 grind
end Go.Pl

namespace Go.Pl
open Go Go.Ab Go.Wk Go.Pc
end Go.Pl

namespace Go.Pl
open Go Go.Ab Go.Wk Go.Pc
theorem zHZ{α:Type}{f:α→α}{a:α}(h:f a=a):∀k,iter k f a=a
 |0=>rfl
 |k+1=>by show iter k f (f a)=a;rw[h];exact zHZ h k
theorem zSJ{p:Int}{D:Nat}{A:List Mx}:∀(v:Vec)(o:Nat)(B:Mx),o+v.length≤A.length→wM p D A (nw o v) B=img (PM p D) (A.drop o) v B
 | [],o,B,_=>by simp[nw,wM,img]
 |a::v,o,B,h=>by
  simp only[J7]at h;have e:A.drop o=A.getD o []::A.drop (o+1):=by grind[H1]
  rw[e];simp only[nw,img];rw[zDs,zHQ,zSJ v (o+1) _ (by omega)]
theorem zCU:∀(k o:Nat),nw o (zeros k)=[]
 |0,_=>rfl
 |k+1,o=>by rw[show zeros (k+1)=0::zeros k from rfl];simp only[nw];rw[zCU k];rfl
section
variable {x:SPr}{m:zB}{D:Nat} (h:Pres x) (hm:zS8 x.zA.length m D) (hr:zD6 x m D)
 include hm
 include h hr
theorem zPs:∀(d k:Nat),k+d=x.zA.length→Rel (PM m.Prime D) (idM D) (suf x k) (m.zG.drop k)
 |0,k,hk=>by rw[vX (by omega),Jax (by rw[hm.len];omega)];exact rfl
 |d+1,k,mr=>by
  have h6:=h.os.1;have hk:k<x.zA.length:=by omega
  have gf:=hm.len;have e:m.zG.drop k=m.zG.getD k []::m.zG.drop (k+1):=by simp_all
  obtain⟨t1,t2,t3⟩:=h.tl k hk;obtain⟨r1,r2⟩:=hr k hk;have t9:∀v,Exp x.zA v k→wM m.Prime D m.zG (nw 0 v) (idM D)=img (PM m.Prime D) (m.zG.drop (k+1)) (v.drop (k+1)) (idM D):=fun v hv=>by
   have hl:=hv.1.1
   conv=>lhs;rw[zA1 hv hk]
   rw[zDr,zCU,Jx,yA,zSJ _ _ _ (by grind),Jc]
  rw[yE hk,e];refine⟨?_,fun q c dd hc hd=>?_,zPs d (k+1) (by omega)⟩
  ·grind[pw,lvl,zHQ]
  ·rw[Lz]at hc
   have hq:k+1+q<m.zG.length:=by grind
   have bU:c=m.zG.getD (k+1+q) []:=by grind
   have m8:dd=((x.zF.getD k []).getD q []).drop (k+1):=by grind[lvl]
   have:=r2 (k+1+q) (by omega) (by omega);rw[show k+1+q-(k+1)=q from by omega]at this;rw[bU,m8,this,t9 _ (t3 q (by omega))]
end
end Go.Pl

namespace Go.Pl
open Go Go.Ab Go.Wk Go.Pc
theorem zFd{p:Int}{c N:Nat}(fH:c+N≤100000){A:Mx}(hr:∀i,i<N→Row p c (A.getD i []))(hl:A.length=N):zWp A=ik (wd N A):=by
 unfold zWp;rw[tA (body:=zMH A) N (fun i=>A.getD i []++ur N i) (fun i acc hi ha=>by
  have h1:=(hr i hi).1;have e:wQ (J1 (c+N) (0:Int)) 0 ((A.getD i []).take (((J1 (c+N) (0:Int)).length)-0))=A.getD i []++J1 N 0:=by unfold wQ;rw[Jh,Js (l:=A.getD i []) (by omega),Ka,Jx,h1,Lv];simp
  have e2:ixO (A.getD i []++J1 N (0:Int)) ((c+i:Nat):Int)=ik 0:=by rw[vW,J9 (by omega),h1,Ke,if_pos (by omega)]
  unfold zMH;simp only
  rw[hl,yZ hi,zM,yQ [] (by omega),bs,h1,←Ho,zE (by omega) (by omega),bs,xL (by omega),bs,←Ho,zE (by omega) (by omega),bs,e,e2,bs,Ja,G5 _ _ (by omega),h1,H3,tM,jL,yO (by simp;omega),bs,zE (by omega) (by omega),bs,cs];rfl) (fun acc=>by
  unfold zMH
  grind),bs]
 rfl
end Go.Pl

namespace Go.Pl
open Go Go.Ab Go.Wk Go.Pc
theorem zMj{p:Int}(hp:Prime p){n:Nat}(hn:n≤100000){R:Mx}{pv:Nat→Nat}(h:Red p n R pv):f_q p R=ik R∧f_i p R=ik R:=by
 have h7:=hp.pos;have hl:R.length≤n:=h.len_le;obtain⟨R2,pv2,r1,r2,r3,r4⟩:=kX hp hn (rows:=R) (by omega) h.row;have e:=r3.unique (by omega) h r4
 grind
section
variable {p:Int} (hp:Prime p) {c N:Nat} (fH:c+N≤100000) {A W:Mx}{pv:Nat→Nat}{t:Nat}
 include hp fH
theorem zMk(h:Nul p c N A W pv t):zI (zQV (c:Int) W) ([],0)=ik (nul c t W):=by
 have h7:=hp.pos;have hf:=h.full hp fH;have cV:=h.le;have:=zX (body:=zQV (c:Int) W) (r:=nul c t W) (fun i=>(gl (i-t) (fun k=>(W.getD (t+k) []).drop c),(i:Int))) W.length (fun i hi=>by
  have hr:=h.red.row i hi;have h1:=h.red.one i hi;have e0:yB (W.getD i []) 0 (c:Int)=ik ((W.getD i []).take c):=by unfold yB;rw[if_pos ⟨by omega,by omega,by rw[hr.1];omega⟩,Ja,show(0:Int).toNat=0 from rfl,Gf,Jb9]
  have cC:((W.getD i []).take c).length=c:=by rw[Jw,hr.1];omega
  have hz:=zKv (v:=(W.getD i []).take c) (by omega);unfold zQV;simp only
  rw[yZ hi,zM,yQ [] hi,bs,e0,bs];rcases Jk i t with g|g
  ·have eA:=h.lo i g
   rcases hz with⟨_,z⟩|⟨z,_⟩
   ·grind
   ·rw[z,bs,zR,zE (by omega) (by omega),bs,cs,show i-t=0 from by omega,show i+1-t=0 from by omega]
  ·have fF:=h.hi i g hi
   have e:yB (W.getD i []) (c:Int) ((W.getD i []).length:Int)=ik ((W.getD i []).drop c):=by unfold yB;rw[if_pos (by grind),Ja,Ja,Js (by rw[Jz];omega)]
   rcases hz with⟨z,_⟩|⟨_,z⟩
   ·rw[z,bs,zM,e,bs,yO (by grind),bs,zE (by omega) (by omega),bs,cs,show i+1-t=(i-t)+1 from by omega,←zCb,show t+(i-t)=i from by omega]
   ·refine absurd (fun j hj=>?_) z
    rw[cC]at hj;rw[zMi hj];have:=h.red.low i hi j (by omega);omega) (by
  unfold zQV;simp only
  rw[vU,zR];rfl)
 grind
theorem zFP(hr:∀i,i<N→Row p c (A.getD i []))(hl:A.length=N):∃K pk,zWu p A (c:Int)=ik K∧f_L p A (c:Int)=ik K∧Red p N K pk∧ ∀x,Sp p N K x↔ ∀j,j<c→(S N fun k=>at0 x k*ent A k j)%p=0:=by
 obtain⟨W,pv,t,h1,h2,h3⟩:=Nul.get hp fH hr hl;refine⟨nul c t W,_,?_,?_,h1.nred hp fH,fun x=>h1.nsp hp fH⟩
 ·grind[zWu,zQv,zQw]
 ·unfold f_L
  rw[zFd fH hr hl,bs,h3,bs,zMk hp fH h1,bs,(zMj hp (by omega) (h1.nred hp fH)).2,bs]
end
end Go.Pl

namespace Go.Pl
open Go Go.Ab Go.Wk Go.Pc
section
variable {x:SPr} (h:Pres x)
 include h
theorem zSK:∀k,k≤x.zA.length→2*((Jf k).flatMap (R2 x)).length+k*k+k=2*(x.zA.length*k)
 |0,_=>by simp
 |k+1,hk=>by
  have ih:=zSK k (by omega);have t2:=(h.tl k (by omega)).2.1;have e:((Jf (k+1)).flatMap (R2 x)).length=((Jf k).flatMap (R2 x)).length+(x.zF.getD k []).length:=by rw[Lj,Ht,J5];simp[R2]
  have e3:(k+1)*(k+1)=k*k+2*k+1:=by rw[Ja0 (k+1) k,K1 k k];omega
  have e4:x.zA.length*(k+1)=x.zA.length*k+x.zA.length:=Ja0 _ _;rw[e,e3,e4];omega
theorem zQx:2*(wX x).length=x.zA.length*(x.zA.length+1):=by have:=zSK h x.zA.length (Jg _);simp only[wX,J5,Ji,Le];rw[Ja0];omega
end
theorem zFQ{α:Type}{F:α→List Int}{D:Nat}:∀(L:List α),(∀q∈L,(F q).length=D)→((L.map F).flatten).length=L.length*D
 | [],_=>by simp
 |y::L,h=>by
  have:=zFQ L fun q hq=>h q (by simp[hq])
  have:=h y (by simp);simp only[Jo,Li,J5,J7,K1];omega
def zMl{α:Type}(N:Nat)(F:Nat→α→List Int)(L:List α):Mx:=gl N fun k=>(L.map (F k)).flatten
section
variable {α:Type}{p:Int}{N D:Nat}{F:Nat→α→List Int} (hF:∀k,k<N→ ∀q,Row p D (F k q))
 include hF
theorem zQy(L:List α):∀k,k<N→Row p (L.length*D) ((zMl N F L).getD k []):=by intro k hk;rw[zMl,xY hk];refine zPo.2 ⟨zFQ L fun q _=>(hF k hk q).1,fun v hv=>?_⟩;obtain⟨r,h1,h2⟩:=List.mem_flatten.1 hv;obtain⟨q,_,rfl⟩:=Jm.1 h1;exact(zPo.1 (hF k hk q)).2 v h2
end
def zB8(n D:Nat)(v:List Int):Mx:=gl n fun i=>mkv D fun j=>at0 v (i*D+j)
theorem zSL{v:List Int}{D a:Nat}(h:a+D≤v.length):(v.drop a).take D=mkv D fun j=>at0 v (a+j):=by
 have hl:((v.drop a).take D).length=D:=by rw[Jw,Jz];omega
 rw[uA hl];exact yC fun j hj=>by rw[zMi hj,zCS]
theorem zFR{v:List Int}{D a:Nat}(h:a+D≤v.length):yB v (a:Int) ((a+D:Nat):Int)=ik (mkv D fun j=>at0 v (a+j)):=by unfold yB;rw[if_pos ⟨by omega,by omega,by omega⟩,Ja,Ja,H3,zSL h]
theorem zYr{p:Int}{n D:Nat}{v:List Int}(hv:Row p (n*D) v):VOk n p D (zB8 n D v):=by
 refine⟨wT,fun i hi=>?_⟩;rw[zB8,xY hi];refine⟨zZ _ _,fun j hj=>?_⟩;rw[yG hj];have:i*D+D≤n*D:=by have:=K9 D (show i+1≤n by omega);rw[K1]at this;exact this
 exact hv.2 _ (by omega)
end Go.Pl

namespace Go.Pl
open Go Go.Ab Go.Wk Go.Pc
end Go.Pl

namespace Go.Pl
open Go Go.Ab Go.Wk Go.Pc
theorem zPt{n D i:Nat}(hi:i<n):i*D+D≤n*D:=by
 have:=K9 D (show i+1≤n by omega)
 grind
theorem zEq{n D:Nat}(hD:1≤D){v:List Int}(hl:v.length=n*D)(hs:n*D≤100000):f_Y v (D:Int)=ik (zB8 n D v):=by
 have hn:n≤n*D:=Uv n hD;have:=zX (body:=zU5 v (D:Int)) (r:=zB8 n D v) (fun i=>(gl i fun i=>mkv D fun j=>at0 v (i*D+j),((i*D:Nat):Int))) n (fun i hi=>by
  have h1:=zPt (D:=D) hi;unfold zU5;simp only
  rw[iu (by omega),zM,←Ho,zE (by omega) (by omega),bs,zFR (by omega),bs,zCa (by grind[zZ]),bs,yO (by rw[wT];simp;omega),bs,bs,zCb,←K1]) (by
  unfold zU5;simp only
  rw[ir (by omega),zR];rfl)
 grind[f_Y]
theorem zMm{n D:Nat}(hD:1≤D)(hD3:D≤1000){v:List Int}(hl:v.length=n*D)(hs:n*D≤100000):zQW v (D:Int)=ik (zB8 n D v):=by
 have hn:n≤n*D:=Uv n hD;have:=zX (body:=zMV v (D:Int)) (r:=zB8 n D v) (fun i=>(gl i fun i=>mkv D fun j=>at0 v (i*D+j),((i*D:Nat):Int))) n (fun i hi=>by
  have h1:=zPt (D:=D) hi;unfold zMV;simp only
  rw[←Ho,zE (by omega) (by omega),bs,iu (by omega),zM,bs,zFR (by omega),bs,qS (by grind[zZ]),bs,yO (by rw[wT];simp;omega),bs,bs,zCb,←K1]) (by
  unfold zMV;simp only
  rw[←Ho,zE (by omega) (by omega),bs,ir (by omega),zR];rfl)
 grind[zQW]
section
variable {x:SPr} (h:Pres x) {m:zB}{D:Nat} (hm:MOk x.zA.length m D)
 include h hm
section
variable {vals:Mx} (hv:VOk x.zA.length m.Prime D vals)
 include hv
theorem zNM:f_t x m vals=ik ((wX x).map (dfc m D vals)):=by
 have h6:=h.os.1;have h7:=hm.p.pos;have h3:=hm.d3;have pz:=h.pl;have gE:=h.cl;have hz:=zHU (p:=m.Prime) (D:=D) (by omega);unfold f_t;rw[hm.d,xL (by omega),bs];have e1:=tA (body:=zUD x m vals D) x.zA.length (fun i=>dfc m D vals (r1 x i)) (fun i acc hi ha=>by
  obtain⟨p1,p2⟩:=jE h.os (h.tl i hi).1;have ho:=(h.os.2 i hi).pos;unfold zUD;simp only
  rw[yZ hi,zM];rw[vZ (S:=Row m.Prime D) (body:=zUC x m vals (acc,(i:Int))) (fun v=>v) (fun v=>stp m D vals v i) (at0 x.zA i) (by omega) (by grind[zBY]) (fun u q hu hq=>by
   unfold zUC;simp only
   rw[yV hi,bs,iu hq,zM,zB6 hm h6 hv hu hi,bs,zE (by omega) (by omega),bs,cs]) (fun u hu=>by
   unfold zUC;simp only
   rw[yV hi,bs,ir (by omega),zR]) hz,bs,zE (by omega) (by omega),bs,yQ [] (by omega),bs,zGt hm h6 hv hz p1 p2,bs,←zNC]
  have e1:f_w m.Prime (ev m D vals (z0 D) (J1 (at0 x.zA i).toNat i)) (m.Prime-1) (ev m D vals (z0 D) (nw 0 (x.zU.getD i [])))=ik (dfc m D vals (r1 x i)):=by rw[uZ hm.p (zEo hm h6 hv hz _) (zEo hm h6 hv hz _) (by omega) (by omega),zEn];rfl
  grind[yO,zE]) (fun acc=>by
  unfold zUD;simp)
 rw[e1,bs];have da:=zHT h;have e2:=zX (body:=zUF x m vals D) (r:=(wX x).map (dfc m D vals)) (fun i=>(((Jf x.zA.length).map (fun i=>dfc m D vals (r1 x i)))++((Jf i).flatMap (R2 x)).map (dfc m D vals),(i:Int))) x.zA.length (fun i hi=>by
  have t2:=(h.tl i hi).2.1;have hfi:=da i (by omega);unfold zUF;simp only
  rw[yZ hi,zM,zE (by omega) (by omega),bs,cs];have gT:=zX (body:=zUE x m vals D (((Jf x.zA.length).map (fun i=>dfc m D vals (r1 x i)))++((Jf i).flatMap (R2 x)).map (dfc m D vals),(i:Int)))
   (r:=((Jf x.zA.length).map (fun i=>dfc m D vals (r1 x i)))++((Jf (i+1)).flatMap (R2 x)).map (dfc m D vals))
   (fun j=>(((Jf x.zA.length).map (fun i=>dfc m D vals (r1 x i)))++((Jf i).flatMap (R2 x)).map (dfc m D vals)++(Jf j).map (fun j=>dfc m D vals (r2 x i j)),((i+1+j:Nat):Int))) (x.zF.getD i []).length (fun j hj=>by
   obtain⟨c1,c2⟩:=jE h.os ((h.tl i hi).2.2 j hj);have bR:i+1+j<x.zA.length:=by omega
   have s1:=zB6 hm h6 hv hz bR;have s2:=zB6 hm h6 hv (zBY hm h6 hv (v:=z0 D) (w:=i+1+j)) hi;have s3:=zB6 hm h6 hv hz hi;have s4:=zGt hm h6 hv (zBY hm h6 hv (v:=z0 D) (w:=i)) c1 c2;unfold zUE;simp only
   rw[yZ bR,zM,s1,bs,s2,bs,s3,bs,yQ [] (by omega),bs,zE (by omega) (by omega),bs,zE (by omega) (by omega),bs,show(((i+1+j:Nat):Int)-(i:Int)-1)=(j:Int)from by omega,yQ [] hj,bs,s4,bs,zE (by omega) (by omega),bs];have e2:f_w m.Prime (stp m D vals (stp m D vals (z0 D) (i+1+j)) i) (m.Prime-1) (ev m D vals (stp m D vals (z0 D) i) (nw 0 ((x.zF.getD i []).getD j [])))=ik (dfc m D vals (r2 x i j)):=by
    rw[uZ hm.p (zBY hm h6 hv) (by grind[zEo,zBY]) (by omega) (by omega),zEn];simp only[dfc,r2,ev,Ge,List.foldl_nil]
    grind
   rw[e2,bs,yO (by grind[Ji]),bs,zE (by omega) (by omega),bs,cs,Lj,L8,Jb];rfl) (by
   unfold zUE;simp only
   rw[show i+1+(x.zF.getD i []).length=x.zA.length from by omega,vU,zR,Lj (n:=i),Ht,L8,←Jb];simp[R2])
  simp_all) (by
  unfold zUF;simp only
  rw[vU,zR];simp only[wX,L8,Jak];rfl)
 simp_all
end
def uv(n D k:Nat):Mx:=zB8 n D (kY (n*D) k)
theorem zPu{k:Nat}:VOk x.zA.length m.Prime D (uv x.zA.length D k):=by have _:=h;have h7:=hm.p.pos;exact zYr (zQu h7.1)
theorem zYs:∀k,k<x.zA.length*D→ ∀q,Row m.Prime D (dfc m D (uv x.zA.length D k) q):=fun k _ q=>by have _:=h;exact kV hm.p
theorem zSM{k:Nat}:f_Y (kY (x.zA.length*D) k) (D:Int)=ik (uv x.zA.length D k):=by have h6:=h.os.1;have h3:=hm.d3;have cS:x.zA.length*D≤9*3:=Jy h6 h3;exact zEq hm.d1 (zZ _ _) (by omega)
theorem zYt{k:Nat}:zQW (kY (x.zA.length*D) k) (D:Int)=ik (uv x.zA.length D k):=by have h6:=h.os.1;have h3:=hm.d3;have cS:x.zA.length*D≤9*3:=Jy h6 h3;exact zMm hm.d1 (by omega) (zZ _ _) (by omega)
theorem zIa{vals:Mx}{L:List Rl}:((L.map (dfc m D vals)).flatten).length=L.length*D:=by have _:=h;have _:=hm;grind[zFQ,zS9]
theorem zG2:zUH x m=ik (zMl (x.zA.length*D) (fun k=>dfc m D (uv x.zA.length D k)) (wX x)):=by
 have h6:=h.os.1;have h3:=hm.d3;have cS:x.zA.length*D≤9*3:=Jy h6 h3;have cO:=zKn h hm (zPu h hm (k:=0));have aZ:(wX x).length*D≤100*3:=Jy cO h3;unfold zUH;rw[hm.d,←Km,zE (by omega) (by omega),bs];rw[tA (body:=zMX x m ((x.zA.length*D:Nat):Int)) (x.zA.length*D) (fun k=>((wX x).map (dfc m D (uv x.zA.length D k))).flatten) (fun k acc hk ha=>by
  unfold zMX;simp only
  rw[yZ hk,zM,zG1 hk (by omega),bs,hm.d,zSM h hm,bs,zKo h hm (zPu h hm (k:=k)),bs,zAT (by simp;omega) (by rw[zIa h hm];omega),bs,yO (by simp;omega),bs,zE (by omega) (by omega),bs,cs]) (fun acc=>by
  unfold zMX;simp),bs]
 rfl
theorem zQz{k N:Nat}:(J1 N (0:Int)).set k 1=kY N k:=by have _:=h;have _:=hm;rw[tM,jL,kY]
theorem zMn:zW3 x m=ik (zMl (x.zA.length*D) (fun k=>dfc m D (uv x.zA.length D k)) (wX x)):=by
 have h6:=h.os.1;have h3:=hm.d3;have cS:x.zA.length*D≤9*3:=Jy h6 h3;have cO:=zKn h hm (zPu h hm (k:=0));have aZ:(wX x).length*D≤100*3:=Jy cO h3;unfold zW3;rw[hm.d,←Km,zE (by omega) (by omega),bs];rw[tA (body:=zMW x m ((x.zA.length*D:Nat):Int)) (x.zA.length*D) (fun k=>((wX x).map (dfc m D (uv x.zA.length D k))).flatten) (fun k acc hk ha=>by
  unfold zMW;simp only
  rw[yZ hk,zM,xL (by omega),bs,vW,Ke,if_pos hk,bs,Ja,zQz h hm,hm.d,zYt h hm,bs,zNM h hm (zPu h hm (k:=k)),bs,zQt (by simp;omega) (by rw[zIa h hm];omega),bs,yO (by simp;omega),bs,zE (by omega) (by omega),bs,cs]) (fun acc=>by
  unfold zMW;simp),bs]
 rfl
end
end Go.Pl

namespace Go.Pl
open Go Go.Ab Go.Wk Go.Pc
end Go.Pl

namespace Go.Pl
open Go Go.Ab Go.Wk Go.Pc
end Go.Pl

namespace Go.Pl
open Go Go.Ab Go.Wk Go.Pc
theorem zIb{N c:Nat}{f:Nat→Int}:(mkv N f).drop c=mkv (N-c) fun i=>f (c+i):=by
 have hl:((mkv N f).drop c).length=N-c:=by rw[Jz,zZ]
 grind[uA,yC,zCS,yG]
theorem kZ{n j:Nat}:xN n j=mkv n fun i=>if i=j then 1 else 0:=by rw[xN,show zeros n=J1 n (0:Int)from rfl,tM,jL]
theorem sE{n i:Nat}:at0 (zeros n) i=0:=by
 rcases Jk i n with g|g
 ·simp[zeros,at0,J2,g]
 ·simp[zeros,at0,J2,g]
structure ExB (n D:Nat) (x:SPr) (m:zB) (T:Mx):Prop where
 hn:n≤6
 o:x.zA.length=n
 p:x.zU.length=n
 c:x.zF.length=n
 cl:∀i,i<n→(x.zF.getD i []).length=n-1-i
 t:T.length=base n n
 m:zS8 n m D
section
variable {D:Nat}{x:SPr}{m:zB}{T:Mx} (h:Pres x) (hE:ExB x.zA.length D x m T) (hT:∀i,i<T.length→Row m.Prime D (T.getD i []))
 include h hE hT
abbrev exx(D:Nat)(x:SPr)(m:zB)(T:Mx):SPr:=ext x.zA.length D x m T
theorem wI:(exx D x m T).zA.length=x.zA.length+D:=by have _:=h;have _:=hE;have _:=hT;simp[exx,ext]
theorem tG{i:Nat}(hi:i<x.zA.length):at0 (exx D x m T).zA i=at0 x.zA i:=by
 have _:=h;have _:=hE;have _:=hT;show at0 (x.zA++J1 D m.Prime) i=_
 grind
theorem zCd{i:Nat}(hi:x.zA.length≤i)(h2:i<x.zA.length+D):at0 (exx D x m T).zA i=m.Prime:=by
 have _:=h;have _:=hE;have _:=hT;show at0 (x.zA++J1 D m.Prime) i=_
 grind
theorem zNN{v t:List Int}{i:Nat}(hv:v.length=x.zA.length)(hr:∀j,j<x.zA.length→0≤at0 v j∧at0 v j≤at0 x.zA j-1)(hz:∀j,j≤i→j<x.zA.length→at0 v j=0)(ht:Row m.Prime D t)(hi:i<x.zA.length):Exp (exx D x m T).zA (v++t) i:=by
 have hl:=wI h hE hT;refine⟨⟨by rw[J5,hv,ht.1,hl],fun j hj=>?_⟩,fun j hj=>?_⟩
 ·rw[J5,hv,ht.1]at hj
  rw[zKt,hv];split
  ·grind[tG]
  ·next g=>rw[zCd h hE hT (by omega) hj];exact ht.2 _ (by omega)
 grind
theorem zMo(i:Nat)(hi:i<base x.zA.length x.zA.length):Row m.Prime D (T.getD i []):=by have _:=h;exact hT i (by rw[hE.t];exact hi)
theorem zGE:zGr (exx D x m T):=by
 have hn:=hE.hn;have h3:=hE.m.d3;have h7:=hE.m.p.pos;have hl:=wI h hE hT;have hb:=vT x.zA.length (by omega);refine⟨⟨trivial,fun i hi=>?_⟩,by rw[hl];exact wT,by rw[hl];exact wT,fun i hi=>?_⟩
 ·rw[hl]at hi
  rcases Jk i x.zA.length with g|g
  ·rw[tG h hE hT g];exact h.os.2 i g
  ·rw[zCd h hE hT g hi];exact hE.m.p
 ·rw[hl]at hi
  have hP:(exx D x m T).zU.getD i []=exP x.zA.length D x T i:=xY hi;have hC:(exx D x m T).zF.getD i []=exC x.zA.length D x m T i:=by
   show(gl (x.zA.length+D) (exC x.zA.length D x m T)).getD i []=_
   grind
  refine⟨?_,?_,?_⟩
  ·rw[hP,exP]
   rcases Jk i x.zA.length with g|g
   ·rw[if_pos g]
    obtain⟨t1,_,_⟩:=h.tl i g;exact zNN h hE hT t1.1.1 (fun j hj=>t1.1.2 j (by rw[t1.1.1];exact hj)) (fun j hj _=>t1.2 j hj) (by grind[zMo]) g
   ·rw[if_neg (by omega)]
    have hz:∀j,at0 (J1 (x.zA.length+D) (0:Int)) j=0:=fun j=>sE
    refine⟨⟨by grind,fun j hj=>?_⟩,fun j _=>hz j⟩;rw[Jh]at hj;rw[hz];rcases Jk j x.zA.length with g2|g2
    ·rw[tG h hE hT g2];have:=(h.os.2 j g2).pos;omega
    grind[zCd]
  ·grind[exC,unC]
  ·rw[hC,exC]
   split
   ·next g=>
    intro j hj;rw[wT]at hj;rw[xY hj,exF];split
    ·next g2=>
     have gE:=hE.cl i g;have cK:=zCc x.zA.length (by omega) i g;obtain⟨_,_,t3⟩:=h.tl i g;have t:=t3 j (by omega);exact zNN h hE hT t.1.1 (fun q hq=>t.1.2 q (by rw[t.1.1];exact hq)) (fun q hq _=>t.2 q hq) (by grind[zMo]) g
    ·next g2=>
     have hz:∀j,at0 (J1 x.zA.length (0:Int)) j=0:=fun j=>sE
     refine zNN h hE hT (by simp) (fun q hq=>?_) (fun q _ _=>hz q) ((hE.m.mat i g).2 _ (by omega)) g;rw[hz];have:=(h.os.2 q hq).pos;omega
   ·next g=>
    intro j hj;rw[unC,wT]at hj;rw[unC,xY hj];refine⟨⟨by rw[hl];exact zZ _ _,fun q hq=>?_⟩,fun q hq=>?_⟩
    ·rw[kY,zZ]at hq
     rw[kY,yG hq];rcases Jk q x.zA.length with g2|g2
     ·rw[tG h hE hT g2];have:=(h.os.2 q g2).pos;omega
     grind[zCd]
    ·rw[kY,yG (by omega),if_neg (by omega)]
theorem zB9{k:Nat}(hk:k<x.zA.length):(lvl (exx D x m T) k).o=at0 x.zA k:=tG h hE hT hk
theorem zIc{k:Nat}(hk:k<x.zA.length):(lvl (exx D x m T) k).w=(lvl x k).w++T.getD k []:=by have t1:=(h.tl k hk).1.1.1;have _:=hE;have _:=hT;show((exx D x m T).zU.getD k []).drop (k+1)=_;have hP:(exx D x m T).zU.getD k []=exP x.zA.length D x T k:=xY (by omega);rw[hP,exP,if_pos hk,Ko (by omega)];rfl
def eC1(x:SPr)(T:Mx)(k:Nat):List Vec:=gl (x.zA.length-1-k) fun j=>(lvl x k).cs.getD j []++T.getD (base x.zA.length k+j) []
def eC2(x:SPr)(m:zB)(D k:Nat):List Vec:=((gl D fun j=>(m.zG.getD k []).getD j []).map fun r=>zeros (x.zA.length-1-k)++r)
theorem zCe{k:Nat}(hk:k<x.zA.length):(lvl (exx D x m T) k).cs=eC1 x T k++eC2 x m D k:=by
 have gE:=hE.cl k hk;have _:=hT;show((exx D x m T).zF.getD k []).map (·.drop (k+1))=_;have hC:(exx D x m T).zF.getD k []=exC x.zA.length D x m T k:=by
  show(gl (x.zA.length+D) (exC x.zA.length D x m T)).getD k []=_
  grind
 rw[hC,exC,if_pos hk];apply Kv;intro j
 by_cases hj:j<x.zA.length+D-1-k
 ·have e1:((gl (x.zA.length+D-1-k) (exF x.zA.length x m T k)).map (·.drop (k+1)))[j]? =ik ((exF x.zA.length x m T k j).drop (k+1)):=by grind
  rw[e1,exF]
  by_cases g:j<x.zA.length-1-k
  ·rw[if_pos g,Jv (by grind[eC1])]
   have t:=(h.tl k hk).2.2 j (by omega);rw[Ko (by have:=t.1.1;omega)];have e2:(eC1 x T k)[j]? =ik ((lvl x k).cs.getD j []++T.getD (base x.zA.length k+j) []):=by simp[eC1,gl,g]
   rw[e2]
   congr 2
   simp only[lvl,J2,K5]
   grind
  ·rw[if_neg g,J9 (by grind[eC1]),eC1,wT]
   have e2:(eC2 x m D k)[j-(x.zA.length-1-k)]? =ik (zeros (x.zA.length-1-k)++(m.zG.getD k []).getD (j-(x.zA.length-1-k)) []):=by simp[eC2,gl,show j-(x.zA.length-1-k)<D by omega]
   rw[e2,Ko (by simp;omega),Lv,show x.zA.length-(k+1)=x.zA.length-1-k from by omega];rfl
 ·rw[K8 (by grind),K8 (by simp[eC1,eC2,gl];omega)]
end
def tlv(p:Int):Nat→Pcp
 |0=>[]
 |d+1=>⟨p,zeros d,wL d⟩::tlv p d
theorem zGF{p:Int}:∀d,(tlv p d).length=d
 |0=>rfl
 |d+1=>by simp[tlv,zGF d]
theorem zDP{p:Int}:∀(d:Nat)(v:Vec),V (tlv p d) v↔Row p d v
 |0,v=>by
  constructor
  ·intro h
   obtain rfl:v=[]:=h;exact⟨rfl,fun i hi=>by omega⟩
  ·intro h
   have:=Lm h.1;subst this;exact rfl
 |d+1,v=>by
  cases v with
  |nil=>exact⟨fun h=>h.elim,fun h=>by have:=h.1;grind⟩
  |cons a v=>
   show((0≤a∧a<p)∧V (tlv p d) v)↔_;rw[zDP d v];constructor
   ·rintro⟨⟨h0,h1⟩,h2⟩
    refine⟨by simp[h2.1],fun i hi=>?_⟩;cases i with
    |zero=>grind
    |succ i=>have:=h2.2 i (by omega);grind
   ·intro h
    have h0:=h.2 0 (by omega);simp only[at0,Gw]at h0;refine⟨⟨h0.1,by omega⟩,by have:=h.1;grind,fun i hi=>?_⟩;have:=h.2 (i+1) (by omega)
    grind
abbrev adv(p:Int)(D:Nat)(u v:List Int):List Int:=mkv D fun j=>(at0 u j+at0 v j)%p
theorem qG{p:Int}{D:Nat}{u v:List Int}(hp:0<p):Row p D (adv p D u v):=by refine⟨zZ _ _,fun j hj=>?_⟩;rw[yG hj];have e1:=Kx (at0 u j+at0 v j) (show p≠0 by omega);have e2:=Kh (at0 u j+at0 v j) hp;omega
theorem zId{p:Int}{D:Nat}{c:List Int}(hp:0<p):∀(k:Nat)(acc:List Int),Row p D acc→iter k (fun w=>adv p D w c) acc=mkv D fun j=>(at0 acc j+(k:Int)*at0 c j)%p
 |0,acc,ha=>by
  show acc=_
  conv=>lhs;rw[uA ha.1]
  refine yC fun j hj=>?_
  have:=ha.2 j hj;rw[Int.natCast_zero,Uo,H2,Kb this.1 (by omega)]
 |k+1,acc,ha=>by
  show iter k (fun w=>adv p D w c) (adv p D acc c)=_;rw[zId hp k _ (qG hp)];refine yC fun j hj=>?_
  grind[yG,Kd,K6]
theorem zYu{f:Nat→Int}{n:Nat}:S (n+1) f=f 0+S n fun i=>f (i+1):=by
 rw[Nat.add_comm,zGD 1 n];simp only[S]
 grind
theorem zGG{p:Int}{D:Nat}(hp:0<p):∀(cs:List Vec)(v acc:Vec),v.length=cs.length→(∀i,i<v.length→0≤at0 v i)→Row p D acc→img (adv p D) cs v acc=mkv D fun j=>(at0 acc j+S cs.length fun k=>at0 v k*ent cs k j)%p
 | [],v,acc,hl,_,ha=>by
  show acc=_
  conv=>lhs;rw[uA ha.1]
  refine yC fun j hj=>?_
  have:=ha.2 j hj;simp only[Jp,S];rw[H2,Kb this.1 (by omega)]
 |c::cs,[],acc,hl,_,_=>by simp at hl
 |c::cs,a::v,acc,hl,hv,ha=>by
  have h0:=hv 0 (by simp);simp only[at0,Gw]at h0;have fO:Row p D (iter a.toNat (fun w=>adv p D w c) acc):=vO (S:=Row p D) (fun _ _=>qG hp) _ ha;show img (adv p D) cs v (iter a.toNat (fun w=>adv p D w c) acc)=_;rw[zGG hp cs v _ (by grind) (fun i hi=>by have:=hv (i+1) (by grind);grind) fO,zId hp _ _ ha];refine yC fun j hj=>?_
  rw[yG hj,J7,zYu,Kd,K6,←Kd,Jd5 h0,Int.add_assoc];rfl
theorem zDv{α:Type}{S:α→Prop}{m m':α→α→α}(hm:∀a b,S a→S b→m a b=m' a b)(hc:∀a b,S a→S b→S (m' a b)):∀(cs:List α)(v:Vec)(acc:α),(∀c∈cs,S c)→S acc→img m cs v acc=img m' cs v acc
 | [],_,_,_,_=>by simp[img]
 |c::cs,[],_,_,_=>by simp[img]
 |c::cs,a::v,acc,h1,h2=>by
  have mb:=h1 c (by simp);have e:∀k acc,S acc→iter k (fun w=>m w c) acc=iter k (fun w=>m' w c) acc∧S (iter k (fun w=>m' w c) acc):=by
   intro k
   induction k with
   |zero=>intro acc ha;exact⟨rfl,ha⟩
   |succ k ih=>
    intro acc ha;show iter k (fun w=>m w c) (m acc c)=iter k (fun w=>m' w c) (m' acc c)∧_;rw[hm acc c ha mb];exact ih _ (hc _ _ ha mb)
  show img m cs v (iter a.toNat (fun w=>m w c) acc)=img m' cs v (iter a.toNat (fun w=>m' w c) acc);rw[(e _ _ h2).1];exact zDv hm hc cs v _ (by grind) (e _ _ h2).2
theorem zDw{d k j:Nat}(hk:k<d)(hj:j<d):ent (wL d) k j=if j=k then 1 else 0:=by
 have e:(wL d).getD k []=xN d k:=by grind[wL]
 rw[ent,e,kZ,yG hj]
theorem xP{p:Int}{D:Nat}(hp:0<p):Row p D (zeros D):=zHU hp
theorem qW{p:Int}(hp:2≤p):∀(d:Nat)(u v:Vec),Row p d u→Row p d v→mul (tlv p d) u v=adv p d u v
 |0,u,v,hu,_=>by rfl
 |d+1,u,v,hu,hv=>by
  have ih:=qW hp d;have tn:=(zDP (d+1) u).2 hu;have mf:=(zDP (d+1) v).2 hv;cases u with
  |nil=>exact tn.elim
  |cons a u=>
   cases v with
   |nil=>exact mf.elim
   |cons b v=>
    obtain⟨⟨a0,a1⟩,fV⟩:=tn;obtain⟨⟨b0,b1⟩,fK⟩:=mf;have hu3:=(zDP d u).1 fV;have f9:=(zDP d v).1 fK;change a<p at a1;change b<p at b1;have er:∀w,Row p d w→sig (tlv p d) ⟨p,zeros d,wL d⟩ w=w:=fun w hw=>by
     have dt:∀c∈wL d,Row p d c:=fun c hc=>by obtain⟨k,hk,rfl⟩:=Jm.1 hc;rw[kZ];exact⟨zZ _ _,by grind[yG]⟩
     unfold sig;rw[zGF,zDv (S:=Row p d) (m':=adv p d) (by omega) (fun _ _ _ _=>qG (by omega)) (wL d) w _ dt (xP (by omega)),zGG (by omega) (wL d) w _ (by rw[hw.1];simp[wL]) (fun i hi=>(hw.2 i (by rw[←hw.1];exact hi)).1) (xP (by omega))]
     conv=>rhs;rw[uA hw.1]
     refine yC fun j hj=>?_
     have eZ:(wL d).length=d:=by simp[wL]
     have:=hw.2 j hj;rw[eZ,sE,Lp,zAm (k:=j) hj (fun k hk gj=>by rw[zDw hk hj,if_neg (Ne.symm gj),Ld]),zDw hj hj,if_pos rfl,Hb,Kb this.1 (by omega)]
    have eg:∀k,iter k (sig (tlv p d) ⟨p,zeros d,wL d⟩) u=u:=by grind[zHZ]
    show mul (⟨p,zeros d,wL d⟩::tlv p d) (a::u) (b::v)=_;rw[yY,eg,ih u v hu3 f9];have hz:adv p d (zeros d) (adv p d u v)=adv p d u v:=by
     refine yC fun j hj=>?_
     rw[yG hj,sE,Lp,K6]
    rw[ih _ _ (xP (by omega)) (qG (by omega)),hz];have aK:adv p (d+1) (a::u) (b::v)=(a+b)%p::adv p d u v:=by
     simp only[adv,mkv,Jat,Jo,Jak]
     congr 1
    rw[aK];split
    ·next g=>
     have g:a+b≥p:=g;have e:(a+b)%p=a+b-p:=by rw[show a+b=(a+b-p)+p from by omega,Uc,Kb (by omega) (by omega)];omega
     grind
    ·next g=>
     have g:¬a+b≥p:=g
     congr 1
     exact(Kb (by omega) (by omega)).symm
end Go.Pl

namespace Go.Pl
open Go Go.Ab Go.Wk Go.Pc
theorem zPv{α:Type}{m:α→α→α}:∀(c1:List α)(y:Vec)(c2:List α)(u:Vec)(acc:α),c1.length=y.length→img m (c1++c2) (y++u) acc=img m c2 u (img m c1 y acc)
 | [],[],_,_,_,_=>by rfl
 | [],_::_,_,_,_,h=>by simp at h
 |_::_,[],_,_,_,h=>by simp at h
 |c::c1,a::y,c2,u,acc,h=>zPv c1 y c2 u _ (by grind)
theorem zFe{α β:Type}{S:α→Prop}{m:α→α→α}{n:β→β→β}(φ:α→β)(hS:∀a b,S a→S b→S (m a b))(hm:∀a b,S a→S b→φ (m a b)=n (φ a) (φ b)):∀(cs:List α)(v:Vec)(a:α),(∀c∈cs,S c)→S a→φ (img m cs v a)=img n (cs.map φ) v (φ a)
 | [],v,a,_,_=>by rfl
 |_::_,[],_,_,_=>rfl
 |c::cs,t::v,a,hc,ha=>by
  have mb:=hc c (by simp);have e:∀k a,S a→φ (iter k (fun w=>m w c) a)=iter k (fun w=>n w (φ c)) (φ a)∧S (iter k (fun w=>m w c) a):=by
   intro k
   induction k with
   |zero=>intro a ha;exact⟨rfl,ha⟩
   |succ k ih=>
    intro a ha;have:=ih (m a c) (hS _ _ ha mb);rw[hm a c ha mb]at this;exact this
  show φ (img m cs v (iter t.toNat (fun w=>m w c) a))=img n (cs.map φ) v (iter t.toNat (fun w=>n w (φ c)) (φ a));rw[←(e _ a ha).1];exact zFe φ hS hm cs v _ (by grind) (e _ a ha).2
theorem jN{p:Int}{D:Nat}{r:List Int}(hr:Row p D r):wC p D r (idM D)=r:=by
 conv=>rhs;rw[uA hr.1]
 refine yC fun j hj=>?_
 have:=hr.2 j hj;have e:∀l,l<D→ent (idM D) l j=if j=l then 1 else 0:=fun l hl=>by rw[ent,zDq hl,yG hj]
 rw[zAm (k:=j) hj (by grind),e j hj,if_pos rfl,Hb,qE this]
theorem zFf{p:Int}{D:Nat}{r:List Int}{A B:Mx}(hA:A.length=D):wC p D (wC p D r A) B=wC p D r (PM p D A B):=by
 refine yC fun j hj=>?_
 have e1:S D (fun l=>at0 (wC p D r A) l*ent B l j)%p=S D (fun l=>S D (fun i=>at0 r i*ent A i l)*ent B l j)%p:=kT (by grind[wC,yG,Jt,K6]);have e2:S D (fun l=>at0 r l*ent (PM p D A B) l j)%p=S D (fun i=>at0 r i*S D (fun l=>ent A i l*ent B l j))%p:=kT (by grind[zN9,Jt,K6]);rw[e1,e2]
 congr 1
 have e3:S D (fun l=>S D (fun i=>at0 r i*ent A i l)*ent B l j)=S D (fun l=>S D (fun i=>at0 r i*ent A i l*ent B l j)):=xR (by grind[zLO]);rw[e3,zHM];refine xR fun i _=>?_
 rw[←zCP];exact xR (by grind)
theorem uB{p:Int}{D:Nat}{v:List Int}(hv:Row p D v):adv p D (zeros D) v=v:=by
 conv=>rhs;rw[uA hv.1]
 refine yC fun j hj=>?_
 rw[sE,Lp,qE (hv.2 j hj)]
theorem zAH{p:Int}{D:Nat}{v:List Int}(hv:Row p D v):adv p D v (zeros D)=v:=by
 conv=>rhs;rw[uA hv.1]
 refine yC fun j hj=>?_
 rw[sE,H2,qE (hv.2 j hj)]
theorem zSN{p:Int}{D:Nat}{acc v:List Int}{A:Mx}(hl:A.length=D):(mkv D fun j=>(at0 acc j+S A.length fun k=>at0 v k*ent A k j)%p)=adv p D acc (wC p D v A):=by grind[yC,wC,yG,Jbj]
theorem tO{p:Int}{D:Nat}{u v:List Int}:adv p D u v=adv p D v u:=by grind
theorem zV5{p:Int}{D:Nat}{u v w:List Int}(hv:Row p D v)(hw:Row p D w):adv p D u v=adv p D u w↔v=w:=by
 constructor
 ·intro h
  rw[uA hv.1,uA hw.1];refine yC fun j hj=>?_
  have e:at0 (adv p D u v) j=at0 (adv p D u w) j:=by rw[h]
  rw[adv,adv,yG hj,yG hj]at e;have h1:=hv.2 j hj;have h2:=hw.2 j hj;have h3:=Int.emod_emod_of_dvd (at0 u j+at0 v j) (Int.dvd_refl p);have e4:(at0 u j+at0 v j-at0 u j)%p=(at0 u j+at0 w j-at0 u j)%p:=by rw[Int.sub_emod,e,←Int.sub_emod]
  rw[show at0 u j+at0 v j-at0 u j=at0 v j from by omega,show at0 u j+at0 w j-at0 u j=at0 w j from by omega,qE h1,qE h2]at e4;exact e4
 grind
section
variable {D:Nat}{x:SPr}{m:zB}{T:Mx} (h:Pres x) (hE:ExB x.zA.length D x m T) (hT:∀i,i<T.length→Row m.Prime D (T.getD i []))
 include h hE hT
theorem zAy:∀(d k:Nat),x.zA.length≤k→k+d=x.zA.length+D→suf (exx D x m T) k=tlv m.Prime d
 |0,k,hk,hd=>by rw[vX (by grind[wI])];rfl
 |d+1,k,hk,hd=>by
  have hl:=wI h hE hT;rw[yE (by omega),zAy d (k+1) (by omega) (by omega),tlv]
  congr 1
  have hP:(exx D x m T).zU.getD k []=exP x.zA.length D x T k:=xY (by omega);have hC:(exx D x m T).zF.getD k []=exC x.zA.length D x m T k:=by
   show(gl (x.zA.length+D) (exC x.zA.length D x m T)).getD k []=_
   grind
  unfold lvl;rw[hP,hC,exP,exC,if_neg (by omega),if_neg (by omega),zCd h hE hT hk (by omega),Lv,show x.zA.length+D-(k+1)=d from by omega]
  congr 1
  rw[unC,wL,gl,Jak,show x.zA.length+D-1-k=d from by omega];refine Qe fun j hj=>?_
  have hj:=Kr.1 hj;show(kY (x.zA.length+D) (k+1+j)).drop (k+1)=xN d j;rw[kY,zIb,kZ,show x.zA.length+D-(k+1)=d from by omega];simp
theorem sL:∀(d k:Nat),k+d=x.zA.length→ ∀v,V (suf (exx D x m T) k) v↔ ∃y u,v=y++u∧V (suf x k) y∧Row m.Prime D u
 |0,k,hk,v=>by
  rw[zAy h hE hT D k (by omega) (by omega),zDP,vX (x:=x) (k:=k) (by omega)];constructor
  ·intro g;exact⟨[],v,rfl,rfl,g⟩
  ·rintro⟨y,u,rfl,hy,hu⟩
   obtain rfl:y=[]:=hy;exact hu
 |d+1,k,hk,v=>by
  have hl:=wI h hE hT;have ih:=sL d (k+1) (by omega);rw[yE (x:=exx D x m T) (by omega),yE (x:=x) (by omega)];cases v with
  |nil=>
   refine⟨fun g=>g.elim,?_⟩
   rintro⟨y,u,e,hy,hu⟩
   cases y with
   |nil=>exact hy.elim
   |cons a y=>simp at e
  |cons a v=>
   show((0≤a∧a<(lvl (exx D x m T) k).o)∧V (suf (exx D x m T) (k+1)) v)↔_;rw[zB9 h hE hT (by omega),ih v];constructor
   ·rintro⟨g,y,u,rfl,hy,hu⟩
    exact⟨a::y,u,rfl,⟨g,hy⟩,hu⟩
   ·rintro⟨y,u,e,hy,hu⟩
    cases y with
    |nil=>exact hy.elim
    |cons b y=>
     simp only[K4,Jay.injEq]at e;obtain⟨rfl,rfl⟩:=e;exact⟨hy.1,y,u,rfl,hy.2,hu⟩
theorem zFg:∀(d k:Nat),k+d=x.zA.length→ ∀y u r,V (suf x k) y→Row m.Prime D u→Row m.Prime D r→mul (suf (exx D x m T) k) (y++u) (zeros d++r)=y++adv m.Prime D u r
 |0,k,hk,y,u,r,hy,hu,hr=>by have hp:=hE.m.p.pos;rw[vX (x:=x) (k:=k) (by omega)]at hy;obtain rfl:y=[]:=hy;rw[zAy h hE hT D k (by omega) (by omega)];exact qW (by omega) D u r hu hr
 |d+1,k,hk,y,u,r,hy,hu,hr=>by
  have hl:=wI h hE hT;rw[yE (x:=x) (by omega)]at hy;cases y with
  |nil=>exact hy.elim
  |cons a y=>
   obtain⟨⟨a0,a1⟩,hy⟩:=hy;change a<at0 x.zA k at a1;rw[yE (x:=exx D x m T) (by omega)];show mul _ (a::(y++u)) (0::(zeros d++r))=_;rw[yY,zB9 h hE hT (by omega),if_neg (by omega)];show(a+0)::mul _ (y++u) (zeros d++r)=_;rw[zFg d (k+1) (by omega) y u r hy hu hr,H2];rfl
theorem uF{k:Nat}(hk:k≤x.zA.length+D):Pc.Ok (suf (exx D x m T) k):=(zGE h hE hT).okAt (by grind[wI])
theorem zNO{d k:Nat}(hk:k+d=x.zA.length):∀(rs:List Vec)(v:Vec)(y u:Vec),(∀r∈rs,Row m.Prime D r)→V (suf x k) y→Row m.Prime D u→img (mul (suf (exx D x m T) k)) (rs.map fun r=>zeros d++r) v (y++u)=y++img (adv m.Prime D) rs v u
 | [],v,y,u,_,_,_=>by rfl
 |_::_,[],_,_,_,_,_=>rfl
 |c::rs,t::v,y,u,hr,hy,hu=>by
  have hp:=hE.m.p.pos;have hc:=hr c (by simp);have e:∀q u,Row m.Prime D u→iter q (fun w=>mul (suf (exx D x m T) k) w (zeros d++c)) (y++u)=y++iter q (fun w=>adv m.Prime D w c) u:=by
   intro q
   induction q with
   |zero=>intro u _;rfl
   |succ q ih=>
    intro u hu;show iter q _ (mul _ (y++u) (zeros d++c))=_;rw[zFg h hE hT d k hk y u c hy hu hc,ih _ (qG (by omega))];rfl
  show img _ (rs.map fun r=>zeros d++r) v (iter t.toNat (fun w=>mul (suf (exx D x m T) k) w (zeros d++c)) (y++u))=_;rw[e _ _ hu,zNO hk rs v y _ (by grind) hy (vO (S:=Row m.Prime D) (fun _ _=>qG (by omega)) _ hu)];rfl
theorem zYv{k:Nat}(hk:k<x.zA.length):(gl D fun j=>(m.zG.getD k []).getD j [])=m.zG.getD k []:=by
 have _:=h;have _:=hT;have hl:=(hE.m.mat k hk).1;apply Kv
 grind
def sgG(D:Nat)(x:SPr)(m:zB)(T:Mx)(k:Nat)(y:Vec):Vec:=img (mul (suf (exx D x m T) (k+1))) (eC1 x T k) y (zeros (suf (exx D x m T) (k+1)).length)
theorem tX{k:Nat}:(eC1 x T k).length=x.zA.length-1-k:=by have _:=h;have _:=hE;have _:=hT;grind[eC1]
theorem zPw{k:Nat}(hk:k<x.zA.length):∀c∈eC1 x T k,V (suf (exx D x m T) (k+1)) c:=by intro c hc;have ok:=uF h hE hT (k:=k) (by omega);rw[yE (by grind[wI])]at ok;exact ok.2.2.2.1 c (by grind[zCe])
theorem zBg{k:Nat}(hk:k≤x.zA.length):zeros (suf (exx D x m T) k).length=zeros (x.zA.length-k)++zeros D:=by grind[yP,wI,zeros,Jl]
theorem zIe{k:Nat}(hk:k<x.zA.length){y:Vec}:V (suf (exx D x m T) (k+1)) (sgG D x m T k y):=by have ok:=uF h hE hT (k:=k+1) (by omega);exact qV (xG ok) _ _ (zPw h hE hT hk) (wP ok)
theorem zCf{k:Nat}(hk:k<x.zA.length){y u:Vec}(hy:V (suf x (k+1)) y)(hu:Row m.Prime D u):
  sig (suf (exx D x m T) (k+1)) (lvl (exx D x m T) k) (y++u)=(sgG D x m T k y).take (x.zA.length-(k+1))++adv m.Prime D ((sgG D x m T k y).drop (x.zA.length-(k+1))) (wC m.Prime D u (m.zG.getD k [])):=by
 have hp:=hE.m.p.pos;have hA:=hE.m.mat k hk;have ex:=vC h (by omega) hy;unfold sig;rw[zCe h hE hT hk,zPv _ _ _ _ _ (by grind[tX])];show img _ (eC2 x m D k) u (sgG D x m T k y)=_;obtain⟨y1,u1,e,fh,cB⟩:=(sL h hE hT (x.zA.length-(k+1)) (k+1) (by omega) _).1 (zIe h hE hT hk (y:=y));have gM:=vC h (by omega) fh;rw[e,eC2,zYv h hE hT hk,show x.zA.length-1-k=x.zA.length-(k+1)from by omega,zNO h hE hT (by omega) _ _ _ _ (fun r hr=>?_) fh cB,zGG (by omega) _ _ _ (by rw[hA.1,hu.1]) (fun i hi=>(hu.2 i (by rw[←hu.1];exact hi)).1) cB,zSN hA.1,Ju gM,K7 gM];obtain⟨j,hj,rfl⟩:=L7.1 hr;have fT:=hA.1;have:=hA.2 j (by omega)
 grind
theorem zGH{k:Nat}(hk:k<x.zA.length){u:Vec}(hu:Row m.Prime D u):
  sig (suf (exx D x m T) (k+1)) (lvl (exx D x m T) k) (zeros (x.zA.length-(k+1))++u)=zeros (x.zA.length-(k+1))++wC m.Prime D u (m.zG.getD k []):=by
 have hp:=hE.m.p.pos;have ok:=h.okAt (k:=k+1) (by omega);have hz:=wP ok;rw[yP]at hz;have e:sgG D x m T k (zeros (x.zA.length-(k+1)))=zeros (x.zA.length-(k+1))++zeros D:=by grind[sgG,qD,zBg]
 rw[zCf h hE hT hk hz hu,e,Ju (yA _),K7 (yA _),uB (vB (by omega))]
theorem zIf{k:Nat}(hk:k<x.zA.length):∀(q:Nat){u:Vec},Row m.Prime D u→
  iter q (sig (suf (exx D x m T) (k+1)) (lvl (exx D x m T) k)) (zeros (x.zA.length-(k+1))++u)=zeros (x.zA.length-(k+1))++iter q (fun u=>wC m.Prime D u (m.zG.getD k [])) u
 |0,u,_=>rfl
 |q+1,u,hu=>by have hp:=hE.m.p.pos;show iter q _ (sig _ _ _)=_;rw[zGH h hE hT hk hu,zIf hk q (vB (by omega))];rfl
end
end Go.Pl

namespace Go.Pl
open Go Go.Ab Go.Wk Go.Pc
theorem zFS{p:Int}{D:Nat}{A:Mx}(hA:Mat p D A)(hp:2≤p){r:List Int}(hr:Row p D r):∀q,iter q (fun u=>wC p D u A) r=wC p D r (pw (PM p D) (idM D) A q)
 |0=>(jN hr).symm
 |q+1=>by
  have hm:Mat p D (pw (PM p D) (idM D) A q):=vO (S:=Mat p D) (fun _ hB=>zBU (by omega) hB.1) q (tW hp);unfold pw at*
  rw[vG,vG,zFS hA hp hr q];exact zFf hm.1
theorem zSO{p:Int}{D:Nat}(hp:0<p){r:List Int}:iter p.toNat (fun w=>adv p D w r) (zeros D)=zeros D:=by
 rw[zId hp _ _ (xP hp)];rw[show zeros D=mkv D fun _=>0 from tM D];refine yC fun j hj=>?_
 rw[yG hj,Jd5 (by omega),Lp,Int.mul_emod_right]
theorem zAI{p:Int}{D:Nat}{A:Mx}:wC p D (zeros D) A=zeros D:=by
 rw[show zeros D=mkv D fun _=>0 from tM D];refine yC fun j hj=>?_
 rw[xR (g:=fun _=>0) fun l hl=>by rw[yG hl,Uo],qM,Int.zero_emod]
theorem zQ0{p:Int}{D q:Nat}{A:Mx}(hq:q<D)(hA:Mat p D A):wC p D (xN D q) A=A.getD q []:=by
 have hr:=hA.2 q hq
 conv=>rhs;rw[uA hr.1]
 refine yC fun j hj=>?_
 rw[kZ,zAm (k:=q) hq (fun i hi gj=>by rw[yG hi,if_neg gj,Uo]),yG hq,if_pos rfl,Jbq,qE (hr.2 j hj)]
theorem sF{p:Int}{D q:Nat}(hp:2≤p):Row p D (xN D q):=by rw[kZ];exact⟨zZ _ _,by grind[yG]⟩
theorem zMp{N D q:Nat}(hq:q<D):xN (N+D) (N+q)=zeros N++xN D q:=by
 rw[zAw (by omega),zAw hq,←Jb]
 grind[zeros,Jl]
def aM(m:zB)(D k:Nat)(v:Vec):Mx:=img (PM m.Prime D) (m.zG.drop k) v (idM D)
theorem zSP{p:Int}{D:Nat}(hp:2≤p):Mon (Mat p D) (PM p D) (idM D):=
 ⟨fun ha _=>zBU (by omega) ha.1,tW (by omega),fun ha hb _=>zLP ha.1 hb.1,fun ha=>zBV ha,fun ha=>zCQ ha⟩
section
variable {D:Nat}{x:SPr}{m:zB}{T:Mx} (h:Pres x) (hE:ExB x.zA.length D x m T) (hT:∀i,i<T.length→Row m.Prime D (T.getD i []))
 include h hE hT
theorem zSQ{k:Nat}(hk:k<x.zA.length):(eC1 x T k).map (·.take (x.zA.length-(k+1)))=(lvl x k).cs:=by
 have _:=hE;have _:=hT;have gE:=zA2 h.w hk;apply Kv;intro j
 by_cases g:j<x.zA.length-(k+1)
 ·obtain⟨c,_,_,c3,c4⟩:=zEQ h hk g
  have hl:=vC h (by omega) c3;have e1:((eC1 x T k).map (·.take (x.zA.length-(k+1))))[j]? =ik (((lvl x k).cs.getD j []++T.getD (base x.zA.length k+j) []).take (x.zA.length-(k+1))):=by simp[eC1,gl,show j<x.zA.length-1-k by omega]
  grind
 ·rw[K8 (by simp[eC1,gl];omega),K8 (by omega)]
theorem yBq{k:Nat}{v:Vec}:Mat m.Prime D (aM m D k v):=by
 have _:=h;have _:=hT;have hp:=hE.m.p.pos;refine qV (fun ha _=>zBU (by omega) ha.1) _ _ (fun c hc=>?_) (tW (by omega));obtain⟨i,hi,rfl⟩:=L7.1 (Ut hc);have:=hE.m.mat i (by rw[←hE.m.len];exact hi)
 grind
theorem zMq{k:Nat}(hk:k<x.zA.length):m.zG.drop k=m.zG.getD k []::m.zG.drop (k+1):=by
 have _:=h;have _:=hT;have hl:=hE.m.len
 grind[H1]
theorem zV6{k:Nat}(hk:k<x.zA.length){b:Int}{y:Vec}:aM m D k (b::y)=PM m.Prime D (pw (PM m.Prime D) (idM D) (m.zG.getD k []) b.toNat) (aM m D (k+1) y):=by
 have M:=zSP hE.m.p.pos.1 (D:=D);unfold aM;rw[zMq h hE hT hk];refine qR M (hE.m.mat k hk) fun c hc=>?_
 obtain⟨i,hi,rfl⟩:=L7.1 (Ut hc);have:=hE.m.mat i (by rw[←hE.m.len];exact hi)
 grind
theorem pwM{k q:Nat}(hk:k<x.zA.length):Mat m.Prime D (pw (PM m.Prime D) (idM D) (m.zG.getD k []) q):=by have _:=h;have _:=hT;have _:=hk;have hp:=hE.m.p.pos;exact vO (S:=Mat m.Prime D) (fun _ hB=>zBU (by omega) hB.1) q (tW (by omega))
theorem zPx:∀(d k:Nat),k+d=x.zA.length→ ∀r y v,Row m.Prime D r→V (suf x k) y→Row m.Prime D v→mul (suf (exx D x m T) k) (zeros d++r) (y++v)=y++adv m.Prime D (wC m.Prime D r (aM m D k y)) v
 |0,k,hk,r,y,v,hr,hy,hv=>by
  have hp:=hE.m.p.pos;rw[vX (x:=x) (k:=k) (by omega)]at hy;obtain rfl:y=[]:=hy;rw[zAy h hE hT D k (by omega) (by omega)];have e:aM m D k []=idM D:=by unfold aM;cases m.zG.drop k<;>rfl
  rw[e,jN hr];exact qW (by omega) D r v hr hv
 |d+1,k,hk,r,y,v,hr,hy,hv=>by
  have hl:=wI h hE hT;have hp:=hE.m.p.pos;have hA:=hE.m.mat k (by omega);rw[yE (x:=x) (by omega)]at hy;cases y with
  |nil=>exact hy.elim
  |cons b y=>
   obtain⟨⟨b0,b1⟩,hy⟩:=hy;change b<at0 x.zA k at b1;rw[yE (x:=exx D x m T) (by omega)];show mul _ (0::(zeros d++r)) (b::(y++v))=_;have e:=zIf h hE hT (k:=k) (by omega) b.toNat hr;rw[show x.zA.length-(k+1)=d from by omega]at e;rw[yY,zB9 h hE hT (by omega),if_neg (by omega),e,zFS hA (by omega) hr,zPx d (k+1) (by omega) _ y v (vB (by omega)) hy hv,Lp,zV6 h hE hT (by omega),←zFf (pwM h hE hT (by omega)).1];rfl
theorem zMr{k:Nat}(hk:k<x.zA.length)(ih:∀a b,V (suf (exx D x m T) (k+1)) a→V (suf (exx D x m T) (k+1)) b→(mul (suf (exx D x m T) (k+1)) a b).take (x.zA.length-(k+1))=mul (suf x (k+1)) (a.take (x.zA.length-(k+1))) (b.take (x.zA.length-(k+1)))){v:Vec}(hv:V (suf (exx D x m T) (k+1)) v):
  (sig (suf (exx D x m T) (k+1)) (lvl (exx D x m T) k) v).take (x.zA.length-(k+1))=sig (suf x (k+1)) (lvl x k) (v.take (x.zA.length-(k+1))):=by
 have ok:=uF h hE hT (k:=k+1) (by omega);obtain⟨y,u,rfl,hy,hu⟩:=(sL h hE hT (x.zA.length-(k+1)) (k+1) (by omega) _).1 hv;have ex:=vC h (by omega) hy;obtain⟨y1,u1,e,fh,cB⟩:=(sL h hE hT (x.zA.length-(k+1)) (k+1) (by omega) _).1 (zIe h hE hT hk (y:=y));have gM:=vC h (by omega) fh;rw[zCf h hE hT hk hy hu,Ju (by grind),Ju ex];unfold sgG sig;rw[zFe (S:=V (suf (exx D x m T) (k+1))) (n:=mul (suf x (k+1))) (·.take (x.zA.length-(k+1))) (fun a b=>xG ok) ih _ _ _ (zPw h hE hT hk) (wP ok),zSQ h hE hT hk,zBg h hE hT (by omega),Ju (yA _),yP]
theorem zKw:∀(d k:Nat),k+d=x.zA.length→ ∀a b,V (suf (exx D x m T) k) a→V (suf (exx D x m T) k) b→(mul (suf (exx D x m T) k) a b).take d=mul (suf x k) (a.take d) (b.take d)
 |0,k,hk,a,b,_,_=>by rw[vX (x:=x) (by omega),Ka];rfl
 |d+1,k,hk,a,b,ha,hb=>by
  have hl:=wI h hE hT;have ih:=zKw d (k+1) (by omega);have hd:d=x.zA.length-(k+1):=by omega
  have ok:=uF h hE hT (k:=k+1) (by omega);have ok0:=uF h hE hT (k:=k) (by omega);rw[hd]at ih;have hs:=fun v hv=>zMr h hE hT (k:=k) (by omega) ih (v:=v) hv
  rw[yE (x:=exx D x m T) (by omega)]at ha hb ok0 ⊢
  rw[yE (x:=x) (by omega)];cases a with
  |nil=>rfl
  |cons a u=>
  cases b with
  |nil=>rfl
  |cons b v=>
   have eg:∀q u,V (suf (exx D x m T) (k+1)) u→(iter q (sig (suf (exx D x m T) (k+1)) (lvl (exx D x m T) k)) u).take d=iter q (sig (suf x (k+1)) (lvl x k)) (u.take d)∧V (suf (exx D x m T) (k+1)) (iter q (sig (suf (exx D x m T) (k+1)) (lvl (exx D x m T) k)) u):=by
    intro q
    induction q with
    |zero=>intro u hu;exact⟨rfl,hu⟩
    |succ q ihq=>
     intro u hu;have:=ihq _ (zCE ok0 hu);rw[hd,hs u hu]at this;rw[hd];exact this
   obtain⟨aE,eh⟩:=eg b.toNat u ha.2;have hm:=xG ok eh hb.2;rw[yY,Lf,Lf,yY,zB9 h hE hT (by omega),show(lvl x k).o=at0 x.zA k from rfl];have e1:=ih _ _ eh hb.2;rw[←hd,aE]at e1;split
   ·rw[Lf]
    have e2:=ih _ _ ok0.2.1 hm;rw[←hd,e1]at e2;rw[e2]
    congr 2
    have ht:=(h.tl k (by omega)).1;have hw:=jT ht (by omega);have hwl:(lvl x k).w.length=x.zA.length-(k+1):=vC h (by omega) hw;rw[zIc h hE hT (by omega),Ju (by omega)]
   grind
end
end Go.Pl

namespace Go.Pl
open Go Go.Ab Go.Wk Go.Pc
theorem zQ1{p:Int}{d:Nat}(hp:2≤p):∀c∈wL d,Row p d c:=fun c hc=>by obtain⟨k,_,rfl⟩:=Jm.1 hc;exact sF hp
theorem zV7{p:Int}(hp:2≤p){d:Nat}{w:Vec}(hw:Row p d w):sig (tlv p d) ⟨p,zeros d,wL d⟩ w=w:=by
 unfold sig;rw[zGF,zDv (S:=Row p d) (m':=adv p d) (by grind[qW]) (fun _ _ _ _=>qG (by omega)) (wL d) w _ (zQ1 hp) (xP (by omega)),zGG (by omega) (wL d) w _ (by rw[hw.1];simp[wL]) (fun i hi=>(hw.2 i (by rw[←hw.1];exact hi)).1) (xP (by omega))]
 conv=>rhs;rw[uA hw.1]
 refine yC fun j hj=>?_
 have eZ:(wL d).length=d:=by simp[wL]
 rw[eZ,sE,Lp,zAm (k:=j) hj (fun k hk gj=>by rw[zDw hk hj,if_neg (Ne.symm gj),Ld]),zDw hj hj,if_pos rfl,Hb,qE (hw.2 j hj)]
structure LCn (x e:SPr) (k:Nat):Prop where
 c1:∀j,k+1≤j→j<x.zA.length→pw (mul (suf e (k+1))) (zeros (suf e (k+1)).length) ((lvl e k).cs.getD (j-(k+1)) []) (at0 e.zA j).toNat=sig (suf e (k+1)) (lvl e k) ((e.zU.getD j []).drop (k+1))
 c2:∀i,k+1≤i→i<x.zA.length→ ∀j,i+1≤j→j<x.zA.length→
  mul (suf e (k+1)) ((lvl e k).cs.getD (j-(k+1)) []) ((lvl e k).cs.getD (i-(k+1)) [])=mul (suf e (k+1)) ((lvl e k).cs.getD (i-(k+1)) []) (sig (suf e (k+1)) (lvl e k) (((e.zF.getD i []).getD (j-(i+1)) []).drop (k+1)))
 c3:sig (suf e (k+1)) (lvl e k) (lvl e k).w=(lvl e k).w
 c4:∀j,k+1≤j→j<x.zA.length→mul (suf e (k+1)) (lvl e k).w (iter (lvl e k).o.toNat (sig (suf e (k+1)) (lvl e k)) (xN (e.zA.length-(k+1)) (j-(k+1))))=mul (suf e (k+1)) (xN (e.zA.length-(k+1)) (j-(k+1))) (lvl e k).w
section
variable {D:Nat}{x:SPr}{m:zB}{T:Mx} (h:Pres x) (hE:ExB x.zA.length D x m T) (hT:∀i,i<T.length→Row m.Prime D (T.getD i []))
 include h hE hT
theorem zSR{k j:Nat}(hk:k<x.zA.length)(hj:x.zA.length≤j)(h2:j<x.zA.length+D):(lvl (exx D x m T) k).cs.getD (j-(k+1)) []=zeros (x.zA.length-(k+1))++(m.zG.getD k []).getD (j-x.zA.length) []:=by
 rw[zCe h hE hT hk,J2,J9 (by grind[tX]),tX h hE hT,eC2]
 grind
theorem zIg{k j:Nat}(hk:k<x.zA.length)(hj:k+1≤j)(h2:j<x.zA.length):(lvl (exx D x m T) k).cs.getD (j-(k+1)) []=(lvl x k).cs.getD (j-(k+1)) []++T.getD (base x.zA.length k+(j-(k+1))) []:=by
 rw[zCe h hE hT hk,J2,Jv (by grind[tX]),eC1]
 grind
theorem zDQ{i j:Nat}(hi:i<j)(hj:j<x.zA.length):Row m.Prime D (T.getD (base x.zA.length i+(j-(i+1))) []):=by have _:=h;have hn:=hE.hn;have hb:=zCc x.zA.length (by omega) i (by omega);exact hT _ (by rw[hE.t];omega)
theorem zCg{i:Nat}(hi:i<x.zA.length):Row m.Prime D (T.getD i []):=by have _:=h;have hn:=hE.hn;have hb:=vT x.zA.length (by omega);exact hT _ (by rw[hE.t];omega)
theorem zEr{k j:Nat}(hj:k≤j)(h2:j<x.zA.length):((exx D x m T).zU.getD j []).drop (k+1)=(x.zU.getD j []).drop (k+1)++T.getD j []:=by have t1:=(h.tl j h2).1.1.1;have _:=hE;have _:=hT;have hP:(exx D x m T).zU.getD j []=exP x.zA.length D x T j:=xY (by omega);rw[hP,exP,if_pos h2,Ko (by omega)]
theorem zYw{k j:Nat}(hk:k<x.zA.length)(hj:x.zA.length≤j)(h2:j<x.zA.length+D):((exx D x m T).zU.getD j []).drop (k+1)=zeros (x.zA.length-(k+1))++zeros D:=by
 have _:=h;have _:=hE;have _:=hT;have hP:(exx D x m T).zU.getD j []=exP x.zA.length D x T j:=xY (by omega);rw[hP,exP,if_neg (by omega),Lv]
 grind[zeros,Jl]
theorem zIh{i:Nat}(hi:i<x.zA.length+D):(exx D x m T).zF.getD i []=exC x.zA.length D x m T i:=by
 have _:=h;have _:=hE;have _:=hT;show(gl (x.zA.length+D) (exC x.zA.length D x m T)).getD i []=_
 grind
theorem zFT{k i j:Nat}(hk:k≤i)(hi:i<j)(hj:j<x.zA.length):(((exx D x m T).zF.getD i []).getD (j-(i+1)) []).drop (k+1)=((x.zF.getD i []).getD (j-(i+1)) []).drop (k+1)++T.getD (base x.zA.length i+(j-(i+1))) []:=by obtain⟨_,t2,t3⟩:=h.tl i (by omega);have t:=(t3 (j-(i+1)) (by omega)).1.1;rw[zIh h hE hT (by omega),exC,if_pos (by omega),xY (by omega),exF,if_pos (by omega),Ko (by omega)]
theorem zYx{k i j:Nat}(hk:k<x.zA.length)(hi:i<x.zA.length)(hj:x.zA.length≤j)(h2:j<x.zA.length+D):(((exx D x m T).zF.getD i []).getD (j-(i+1)) []).drop (k+1)=zeros (x.zA.length-(k+1))++(m.zG.getD i []).getD (j-x.zA.length) []:=by rw[zIh h hE hT (by omega),exC,if_pos (by omega),xY (by omega),exF,if_neg (by omega),Ko (by simp;omega),Lv,show j-(i+1)-(x.zA.length-1-i)=j-x.zA.length from by omega];rfl
theorem zYy{k i j:Nat}(hk:k<x.zA.length)(hi:x.zA.length≤i)(hj:i<j)(h2:j<x.zA.length+D):(((exx D x m T).zF.getD i []).getD (j-(i+1)) []).drop (k+1)=zeros (x.zA.length-(k+1))++xN D (j-x.zA.length):=by
 rw[zIh h hE hT (by omega),exC,if_neg (by omega),unC,xY (by omega),kY,zIb,←zMp (by omega),kZ]
 grind
theorem zV8(hr:zD6 x m D){k:Nat}(hk:k<x.zA.length):pw (PM m.Prime D) (idM D) (m.zG.getD k []) (at0 x.zA k).toNat=aM m D (k+1) (lvl x k).w∧
  ∀i,k<i→i<x.zA.length→PM m.Prime D (m.zG.getD i []) (m.zG.getD k [])=PM m.Prime D (m.zG.getD k []) (aM m D (k+1) ((lvl x k).cs.getD (i-(k+1)) [])):=by
 have R:=zPs h hE.m hr (x.zA.length-k) k (by omega);rw[yE hk,zMq h hE hT hk]at R;obtain⟨r1,r2,_⟩:=R;refine⟨r1,fun i h1 h2=>?_⟩;have gE:=zA2 h.w hk;have hl:=hE.m.len;refine r2 (i-(k+1)) _ _ ?_ ?_
 all_goals grind
theorem zv{k:Nat}(hk:k≤x.zA.length):V (suf x k) (zeros (x.zA.length-k)):=by
 have _:=hE;have _:=hT;have:=wP (h.okAt hk)
 grind[yP]
theorem zSS(hr:zD6 x m D){k:Nat}(hk:k<x.zA.length)(hc:LCn x (exx D x m T) k):LC (exx D x m T) k:=by
 have hp:=hE.m.p.pos;have hl:=wI h hE hT;have hA:=hE.m.mat k hk;obtain⟨r1,r2⟩:=zV8 h hE hT hr hk;have hz:=zv h hE hT (k:=k+1) (by omega);have aT:Row m.Prime D (zeros D):=xP (by omega);have hw:=(zYi h hk).2;refine⟨fun j h1 h2=>?_,fun i h1 h2 j h3 h4=>?_,hc.c3,fun j h1 h2=>?_⟩
 ·rw[hl]at h2
  rcases Jk j x.zA.length with g|g
  ·exact hc.c1 j h1 g
  ·have hq:=hA.2 (j-x.zA.length) (by omega)
   rw[zSR h hE hT hk g h2,zYw h hE hT hk g h2,zGH h hE hT hk aT,zAI,zCd h hE hT g h2,zBg h hE hT (by omega)];have e:=zNO h hE hT (d:=x.zA.length-(k+1)) (k:=k+1) (by omega) [(m.zG.getD k []).getD (j-x.zA.length) []] [m.Prime] _ _ (by grind) hz aT;have e2:iter m.Prime.toNat (fun w=>adv m.Prime D w ((m.zG.getD k []).getD (j-x.zA.length) [])) (zeros D)=zeros D:=zSO (by omega);unfold pw;refine e.trans ?_;show zeros _++iter m.Prime.toNat (fun w=>adv m.Prime D w ((m.zG.getD k []).getD (j-x.zA.length) [])) (zeros D)=_;rw[e2]
 ·rw[hl]at h4
  rcases Jk j x.zA.length with g|g
  ·exact hc.c2 i h1 (by omega) j h3 g
  ·have hq:=hA.2 (j-x.zA.length) (by omega)
   rw[zSR h hE hT hk g h4];rcases Jk i x.zA.length with gi|gi
   ·have hAi:=hE.m.mat i gi
    have d4:=hAi.2 (j-x.zA.length) (by omega);have pb:=(kS h hk h1 gi).2.2;have ht:=zDQ h hE hT (i:=k) (j:=i) (by omega) gi;rw[zIg h hE hT hk h1 gi,zYx h hE hT hk gi g h4,zGH h hE hT hk d4,zPx h hE hT _ (k+1) (by omega) _ _ _ hq pb ht,zFg h hE hT _ (k+1) (by omega) _ _ _ pb ht (vB (by omega)),tO]
    congr 2
    rw[←zBT (by rw[hA.1];omega),←zBT (by rw[hAi.1];omega),r2 i (by omega) gi]
   ·have d4:=hA.2 (i-x.zA.length) (by omega)
    rw[zSR h hE hT hk gi (by omega),zYy h hE hT hk gi (by omega) h4,zGH h hE hT hk (sF (by omega)),zQ0 (by omega) hA,zFg h hE hT _ (k+1) (by omega) _ _ _ hz hq d4,zFg h hE hT _ (k+1) (by omega) _ _ _ hz d4 hq,tO]
 ·rw[hl]at h2 ⊢
  rcases Jk j x.zA.length with g|g
  ·have:=hc.c4 j h1 g
   grind
  ·have ht:=zCg h hE hT hk
   have hu:Row m.Prime D (xN D (j-x.zA.length)):=sF (by omega);rw[show x.zA.length+D-(k+1)=x.zA.length-(k+1)+D from by omega,show j-(k+1)=x.zA.length-(k+1)+(j-x.zA.length)from by omega,zMp (by omega),zB9 h hE hT hk,zIf h hE hT hk _ hu,zIc h hE hT hk,zFS hA (by omega) hu,r1,zPx h hE hT _ (k+1) (by omega) _ _ _ hu hw ht,zFg h hE hT _ (k+1) (by omega) _ _ _ hw ht (vB (by omega)),tO]
theorem zYz{k:Nat}(hk:x.zA.length≤k)(h2:k<x.zA.length+D):LC (exx D x m T) k:=by
 have hp:=hE.m.p.pos;have hl:=wI h hE hT;have hs:=zAy h hE hT (x.zA.length+D-(k+1)) (k+1) (by omega) (by omega);have hL:=zAy h hE hT (x.zA.length+D-(k+1)+1) k (by omega) (by omega);rw[yE (by omega),hs,tlv]at hL;have bP:lvl (exx D x m T) k=⟨m.Prime,zeros (x.zA.length+D-(k+1)),wL (x.zA.length+D-(k+1))⟩:=(Jay.inj hL).1
 generalize hd:x.zA.length+D-(k+1)=d at*
 have er:∀w,Row m.Prime d w→sig (tlv m.Prime d) ⟨m.Prime,zeros d,wL d⟩ w=w:=by grind[zV7]
 have bG:Row m.Prime d (zeros d):=xP (by omega);have dv:∀j,(wL d).getD j []=if j<d then xN d j else[]:=fun j=>by
  by_cases g:j<d
  ·rw[if_pos g,zHI g]
  ·rw[if_neg g,J2,K8 (by grind[wL])];rfl
 refine⟨fun j h1 h3=>?_,fun i h1 h3 j h4 h5=>?_,?_,fun j h1 h3=>?_⟩
 ·rw[hl]at h3
  have hP:(exx D x m T).zU.getD j []=exP x.zA.length D x T j:=xY (by omega);rw[hs,bP,zCd h hE hT (by omega) h3,hP,exP,if_neg (by omega),Lv,hd];show pw (mul (tlv m.Prime d)) (zeros (tlv m.Prime d).length) ((wL d).getD (j-(k+1)) []) m.Prime.toNat=sig (tlv m.Prime d) ⟨m.Prime,zeros d,wL d⟩ (zeros d);rw[er _ bG,dv,if_pos (by omega),zGF];have e:=zDv (S:=Row m.Prime d) (m':=adv m.Prime d) (fun a b ha hb=>qW (by omega) d a b ha hb) (fun _ _ _ _=>qG (by omega)) [xN d (j-(k+1))] [m.Prime] (zeros d) (by grind[sF]) bG;exact e.trans (zSO (by omega))
 ·rw[hl]at h3 h5
  rw[hs,bP,zIh h hE hT h3,exC,if_neg (by omega),unC,xY (by omega),kY,zIb,hd];have e:(mkv d fun q=>if k+1+q=i+1+(j-(i+1))then(1:Int)else 0)=xN d (j-(k+1)):=by
   rw[kZ]
   grind
  rw[e,er _ (sF (by omega))];show mul (tlv m.Prime d) ((wL d).getD (j-(k+1)) []) ((wL d).getD (i-(k+1)) [])=mul (tlv m.Prime d) ((wL d).getD (i-(k+1)) []) (xN d (j-(k+1)));rw[dv,dv,if_pos (by omega),if_pos (by omega),qW (by omega) d _ _ (sF (by omega)) (sF (by omega)),qW (by omega) d _ _ (sF (by omega)) (sF (by omega)),tO]
 ·grind
 ·rw[hl]at h3 ⊢
  have hu:Row m.Prime d (xN d (j-(k+1))):=sF (by omega);rw[hs,bP,hd,zHZ (er _ hu),qW (by omega) d _ _ bG hu,qW (by omega) d _ _ hu bG,tO]
theorem zIi:∀(d k:Nat),x.zA.length≤k→k+d=x.zA.length+D→wR (suf (exx D x m T) k)
 |0,k,hk,hd=>by rw[vX (by grind[wI])];simp only[wR]
 |d+1,k,hk,hd=>(zAF (zGE h hE hT) (by rw[wI h hE hT];omega)).2 ⟨zIi d (k+1) (by omega) (by omega),by grind[zYz]⟩
theorem zPy(hr:zD6 x m D):wR (suf (exx D x m T) 0)↔ ∀k,k<x.zA.length→LCn x (exx D x m T) k:=by
 have hl:=wI h hE hT;have key:∀(d k:Nat),k+d=x.zA.length→(wR (suf (exx D x m T) k)↔ ∀i,k≤i→i<x.zA.length→LCn x (exx D x m T) i):=by
  intro d
  induction d with
  |zero=>grind[zIi]
  |succ d ih=>
   intro k hk;rw[zAF (zGE h hE hT) (by omega),ih (k+1) (by omega)];constructor
   ·rintro⟨g1,g2⟩ i h1 h2
    rcases Jk k i with g|g
    ·grind
    ·obtain rfl:i=k:=by omega
     exact⟨fun j a b=>g2.c1 j a (by omega),fun i a b j c d=>g2.c2 i a (by omega) j c (by omega),g2.c3,fun j a b=>g2.c4 j a (by omega)⟩
   grind[zSS]
 simp_all
end
end Go.Pl

namespace Go.Pl
open Go Go.Ab Go.Wk Go.Pc
def prE(x:SPr)(k:Nat)(w:Vec):zJ:=⟨fv k (w.take (x.zA.length-k)),w.drop (x.zA.length-k)⟩
theorem qX{x:SPr}{k:Nat}{y u:Vec}(hy:y.length=x.zA.length-k):prE x k (y++u)=⟨fv k y,u⟩:=by grind[prE]
theorem zCh{α α' β:Type}{body:α×α'×Int→Option ((α×α'×Int)⊕(α×α'))}{S:β→Prop}(e1:β→α)(e2:β→α')(g:β→β)(n:Int)(hn:0≤n)(hS:∀a,S a→S (g a))
  (h:∀a(i:Nat),S a→(i:Int)<n→body (e1 a,e2 a,(i:Int))=ik (.inl (e1 (g a),e2 (g a),((i+1:Nat):Int))))(he:∀a,S a→body (e1 a,e2 a,n)=ik (.inr (e1 a,e2 a))){a:β}(ha:S a):
  zI body (e1 a,e2 a,0)=ik (e1 (iter n.toNat g a),e2 (iter n.toNat g a)):=by
 have eg:∀k,S (iter k g a):=fun k=>vO (S:=S) hS k ha
 exact zX (body:=body) (r:=(e1 (iter n.toNat g a),e2 (iter n.toNat g a))) (fun i=>(e1 (iter i g a),e2 (iter i g a),(i:Int))) n.toNat (by grind[vG]) (by grind)
structure Mv (D n:Nat) (m0 m:zB):Prop where
 pr:m0.Prime=m.Prime
 mv:∀k,k<n→ ∀u,Row m.Prime D u→zWw m0 u (k:Int)=ik (wC m.Prime D u (m.zG.getD k []))
section
variable {D:Nat}{x:SPr}{m0 m:zB}{T:Mx} (h:Pres x) (hE:ExB x.zA.length D x m T) (hT:∀i,i<T.length→Row m.Prime D (T.getD i []))
def zST(D:Nat)(x:SPr)(m0 m:zB)(T:Mx)(k:Nat)(g:zY→Int→zJ→zJ→Option zJ):Prop:=
 ∀a b,V (suf (exx D x m T) k) a→V (suf (exx D x m T) k) b→g ⟨x,m0,T⟩ k (prE x k a) (prE x k b)=ik (prE x k (mul (suf (exx D x m T) k) a b))
def zSU(D:Nat)(x:SPr)(m0 m:zB)(T:Mx)(k:Nat)(g:zY→Int→zJ→Option zJ):Prop:=
 ∀v,V (suf (exx D x m T) (k+1)) v→g ⟨x,m0,T⟩ k (prE x (k+1) v)=ik (prE x (k+1) (sig (suf (exx D x m T) (k+1)) (lvl (exx D x m T) k) v))
 include h hE hT
theorem zPz{k i j:Nat}(hk:k≤i)(hi:i<j)(hj:j<x.zA.length):f_Z ⟨x,m0,T⟩ (i:Int) (j:Int)=ik (prE x (k+1) ((((exx D x m T).zF.getD i []).getD (j-(i+1)) []).drop (k+1)))∧V (suf (exx D x m T) (k+1)) ((((exx D x m T).zF.getD i []).getD (j-(i+1)) []).drop (k+1)):=by
 have hn:=hE.hn;have hb:=zCc x.zA.length (by omega) i (by omega);have ht:=hE.t;obtain⟨_,t2,t3⟩:=h.tl i (by omega);have tt:=t3 (j-(i+1)) (by omega);obtain⟨e1,e2⟩:=zCM (k:=k+1) tt (by omega) (by omega);have hl:=vC h (by omega) e2;have gE:=h.cl;have hr:=zDQ h hE hT hi hj;refine⟨?_,?_⟩
 ·rw[zFT h hE hT hk hi hj,qX hl,←e1]
  unfold f_Z;dsimp only
  rw[yQ [] (by omega),bs,zE (by omega) (by omega),bs,zE (by omega) (by omega),bs,show(j:Int)-(i:Int)-1=((j-(i+1):Nat):Int)from by omega,yQ [] (by omega),bs,zNJ x.zA.length (by omega) j hj i hi,bs,yQ [] (by omega),bs,show j-i-1=j-(i+1)from by omega]
 ·rw[zFT h hE hT hk hi hj]
  exact(sL h hE hT (x.zA.length-(k+1)) (k+1) (by omega) _).2 ⟨_,_,rfl,e2,hr⟩
theorem zFh{k j:Nat}(hk:k<j)(hj:j<x.zA.length):f_Z ⟨x,m0,T⟩ (k:Int) (j:Int)=ik (prE x (k+1) ((lvl (exx D x m T) k).cs.getD (j-(k+1)) []))∧V (suf (exx D x m T) (k+1)) ((lvl (exx D x m T) k).cs.getD (j-(k+1)) []):=by
 have e:(lvl (exx D x m T) k).cs.getD (j-(k+1)) []=(((exx D x m T).zF.getD k []).getD (j-(k+1)) []).drop (k+1):=by
  have hC:((exx D x m T).zF.getD k []).length=x.zA.length+D-1-k:=by rw[zIh h hE hT (by omega),exC,if_pos (by omega),wT]
  simp only[lvl];rw[J2,K5,J4 (by omega),J2 (l:=(exx D x m T).zF.getD k []),J4 (by omega)];rfl
 rw[e];exact zPz h hE hT (Jg k) hk hj
theorem zKx{k j:Nat}(hk:k≤j)(hj:j<x.zA.length):zOl ⟨x,m0,T⟩ (j:Int)=ik (prE x (k+1) (((exx D x m T).zU.getD j []).drop (k+1)))∧V (suf (exx D x m T) (k+1)) (((exx D x m T).zU.getD j []).drop (k+1)):=by
 have hn:=hE.hn;have hb:=vT x.zA.length (by omega);have ht:=hE.t;have pz:=h.pl;have t1:=(h.tl j hj).1;obtain⟨e1,e2⟩:=zCM (k:=k+1) t1 (by omega) (by omega);have hl:=vC h (by omega) e2;have hr:=zCg h hE hT hj;refine⟨?_,?_⟩
 ·rw[zEr h hE hT hk hj,qX hl,←e1]
  grind[zOl,yQ]
 ·rw[zEr h hE hT hk hj]
  exact(sL h hE hT (x.zA.length-(k+1)) (k+1) (by omega) _).2 ⟨_,_,rfl,e2,hr⟩
theorem zKy{k:Nat}(hk:k≤x.zA.length)(h0:0<x.zA.length):zMQ ⟨x,m0,T⟩=ik (prE x k (zeros (suf (exx D x m T) k).length)):=by
 have hn:=hE.hn;have h3:=hE.m.d3;have hb:=vT x.zA.length (by omega);have ht:=hE.t;have hr:=zCg h hE hT h0;have cO:=hr.1;unfold zMQ;dsimp only
 have e0:ixO T 0=ik (T.getD 0 []):=by grind[yQ]
 rw[iu (by omega),zM,e0,bs,xL (by omega),bs,xL (by omega),bs,zBg h hE hT hk,qX (yA _),cO,fv]
 grind[zeros,Jl]
theorem zSV{u v:Vec}(hu:Row m.Prime D u)(hv:Row m.Prime D v):f_w m.Prime u 1 v=ik (adv m.Prime D u v):=by
 have _:=h;have _:=hT;have h3:=hE.m.d3;rw[uZ hE.m.p hu hv (by omega) (by omega)]
 congr 1
 exact yC (by simp)
theorem prV{k:Nat}(hk:k≤x.zA.length){w:Vec}(hw:V (suf (exx D x m T) k) w):∃y u,w=y++u∧V (suf x k) y∧Row m.Prime D u∧prE x k w=⟨fv k y,u⟩∧y.length=x.zA.length-k:=by obtain⟨y,u,rfl,hy,hu⟩:=(sL h hE hT (x.zA.length-k) k (by omega) _).1 hw;have ex:=vC h hk hy;exact⟨y,u,rfl,hy,hu,qX ex,ex⟩
variable (hM:Mv D x.zA.length m0 m)
 include hM
theorem zMs{k:Nat}(hk:k<x.zA.length){g:zY→Int→zJ→zJ→Option zJ}(hg:zST D x m0 m T (k+1) g):zSU D x m0 m T k (b_h g):=by
 intro v hv;have hn:=hE.hn;have hp:=hE.m.p.pos;have ok:=uF h hE hT (k:=k+1) (by omega);have hA:=hE.m.mat k hk;obtain⟨y,u,rfl,hy,hu,ck,ex⟩:=prV h hE hT (k:=k+1) (by omega) hv;obtain⟨_,hyr⟩:=zEj h.os (x.zA.length-(k+1)) (k+1) y (by omega) hy;have gE:=tX h hE hT (k:=k);have hJ:=zPw h hE hT hk;have hcg:∀i,i<x.zA.length-(k+1)→(eC1 x T k).getD i []=(lvl (exx D x m T) k).cs.getD i []:=fun i hi=>by rw[zCe h hE hT hk,J2,J2,Jv (by omega)]
 obtain⟨A,dg⟩:∃A:Nat→Vec,∀i,A i=img (mul (suf (exx D x m T) (k+1))) ((eC1 x T k).take i) (y.take i) (zeros (suf (exx D x m T) (k+1)).length):=⟨_,fun _=>rfl⟩;have hI:∀i,V (suf (exx D x m T) (k+1)) (A i):=fun i=>by rw[dg];exact qV (xG ok) _ _ (by grind) (wP ok)
 have hA0:A 0=zeros (suf (exx D x m T) (k+1)).length:=by grind[img]
 have hAn:A (x.zA.length-(k+1))=sgG D x m T k y:=by rw[dg,Js (by omega),Js (by omega)];rfl
 rw[ck];unfold b_h;dsimp only
 rw[zKy h hE hT (k:=k+1) (by omega) (by omega),bs,zE (by omega) (by omega),bs,cs];have:=zX (body:=zU9 g ⟨x,m0,T⟩ k ⟨fv (k+1) y,u⟩) (r:=((prE x (k+1) (sgG D x m T k y)).x,(prE x (k+1) (sgG D x m T k y)).v))
  (fun i=>((prE x (k+1) (A i)).x,(prE x (k+1) (A i)).v,((k+1+i:Nat):Int))) (x.zA.length-(k+1)) (fun i hi=>by
  have hr:=hyr i hi;obtain⟨c1,c2⟩:=zFh h hE hT (k:=k) (j:=k+1+i) (by omega) (by omega);rw[show k+1+i-(k+1)=i from by omega]at c1 c2;unfold zU9;dsimp only
  rw[iu (by grind[zCK]),zM];rw[zCh (S:=V (suf (exx D x m T) (k+1))) (fun w=>(prE x (k+1) w).x) (fun w=>(prE x (k+1) w).v) (fun w=>mul (suf (exx D x m T) (k+1)) w ((lvl (exx D x m T) k).cs.getD i [])) (at0 y i) hr.1 (by grind[xG]) (fun w q hw hq=>by
   unfold zWx;dsimp only
   rw[fv,zLH (by omega),bs,iu hq,zM,zE (by omega) (by omega),bs,c1,bs,cs,show(zJ.mk (prE x (k+1) w).x (prE x (k+1) w).v)=prE x (k+1) w from rfl,hg w _ hw c2,bs,zE (by omega) (by omega),bs,cs]) (fun w hw=>by
   unfold zWx;dsimp only
   rw[fv,zLH (by omega),bs,ir (by omega),zR]) (hI i),bs,zE (by omega) (by omega),bs,cs]
  rw[dg (i+1),zB2 _ _ _ _ (by omega) (by omega),hcg i hi,←dg];rfl) (by
  unfold zU9;dsimp only
  rw[ir (by grind[zCK]),zR,hAn])
 rw[hA0,Gv]at this;rw[this,bs,hM.mv k hk _ hu,bs];obtain⟨y1,u1,e,fh,cB,u4,mA⟩:=prV h hE hT (k:=k+1) (by omega) (zIe h hE hT hk (y:=y));rw[zCf h hE hT hk hy hu,u4,e,Ju mA,K7 mA,qX mA];dsimp only
 rw[hM.pr,zSV h hE hT cB (vB (by omega)),bs]
theorem zSW{k:Nat}(hk:k<x.zA.length){g:zY→Int→zJ→zJ→Option zJ}{gi:zY→Int→zJ→Option zJ}(hg:zST D x m0 m T (k+1) g)(hi:zSU D x m0 m T k gi):zST D x m0 m T k (b_d gi g):=by
 have _:=hM;intro a b ha hb;have hn:=hE.hn;have hl:=wI h hE hT;have hp:=(h.os.2 k hk).pos;have ok:=uF h hE hT (k:=k+1) (by omega);have ok0:=uF h hE hT (k:=k) (by omega);obtain⟨al,au,rfl,bz,hau,fR,pH⟩:=prV h hE hT (k:=k) (by omega) ha;obtain⟨bl,bu,rfl,cK,hbu,bM,hbll⟩:=prV h hE hT (k:=k) (by omega) hb;rw[fR,bM];rw[yE (x:=x) hk]at bz cK;rw[yE (x:=exx D x m T) (by omega)]at ok0 ⊢
 obtain⟨a0,a,rfl⟩:∃a0 a',al=a0::a':=by cases al with|nil=>grind|cons p q=>simp
 obtain⟨b0,b,rfl⟩:∃a0 a',bl=a0::a':=by cases bl with|nil=>grind|cons p q=>simp
 obtain⟨⟨a1,a2⟩,bz⟩:=bz;obtain⟨⟨b1,b2⟩,cK⟩:=cK;change a0<at0 x.zA k at a2;change b0<at0 x.zA k at b2;have ic:=vC h (by omega) bz;have i9:=vC h (by omega) cK;have hA:=(sL h hE hT (x.zA.length-(k+1)) (k+1) (by omega) (a++au)).2 ⟨_,_,rfl,bz,hau⟩;have hB:=(sL h hE hT (x.zA.length-(k+1)) (k+1) (by omega) (b++bu)).2 ⟨_,_,rfl,cK,hbu⟩;have own:∀u,V (suf x (k+1)) u→f_B (fv (k+1) u)=ik (fv (k+1) u):=by grind[qS,zCK]
 have own':∀(c:Int) u,V (suf x (k+1)) u→f_B (fv k (c::u))=ik (fv k (c::u)):=fun c u hu=>qS (by have:=vC h (by omega) hu;rw[fv,J5,yA,J7];omega)
 have er:∀u,V (suf (exx D x m T) (k+1)) u→V (suf (exx D x m T) (k+1)) (sig (suf (exx D x m T) (k+1)) (lvl (exx D x m T) k) u):=by grind[zCE]
 have eg:V (suf (exx D x m T) (k+1)) (iter b0.toNat (sig (suf (exx D x m T) (k+1)) (lvl (exx D x m T) k)) (a++au)):=vO er _ hA;have ea:(⟨fv (k+1) a,au⟩:zJ)=prE x (k+1) (a++au):=(qX ic).symm;have eb:(⟨fv (k+1) b,bu⟩:zJ)=prE x (k+1) (b++bu):=(qX i9).symm;unfold b_d;dsimp only
 rw[ir (by omega),zR,own' _ _ bz,bs,own' _ _ cK,bs,zCI,bs,zCI,bs,Ja,zDL,zDL,zBS,zBS];have e1:zI (zQQ gi ⟨x,m0,T⟩ k ⟨fv k (b0::b),bu⟩) (zeros (k+1)++a,au,0)=ik ((prE x (k+1) (iter b0.toNat (sig (suf (exx D x m T) (k+1)) (lvl (exx D x m T) k)) (a++au))).x,(prE x (k+1) (iter b0.toNat (sig (suf (exx D x m T) (k+1)) (lvl (exx D x m T) k)) (a++au))).v):=by
  have:=zCh (body:=zQQ gi ⟨x,m0,T⟩ k ⟨fv k (b0::b),bu⟩) (S:=V (suf (exx D x m T) (k+1))) (fun w=>(prE x (k+1) w).x) (fun w=>(prE x (k+1) w).v) (sig (suf (exx D x m T) (k+1)) (lvl (exx D x m T) k)) b0 b1 er (fun w q hw hq=>by
   unfold zQQ;dsimp only
   rw[zCI,bs,iu hq,zM,show(zJ.mk (prE x (k+1) w).x (prE x (k+1) w).v)=prE x (k+1) w from rfl,hi w hw,bs,zE (by omega) (by omega),bs,cs]) (fun w hw=>by
   unfold zQQ;dsimp only
   rw[zCI,bs,ir (by omega),zR]) hA
  grind
 rw[e1,bs,zE (by omega) (by omega),bs,cs];dsimp only
 rw[show zeros (k+1)++b=fv (k+1) b from rfl,eb,show(zJ.mk (prE x (k+1) (iter b0.toNat (sig (suf (exx D x m T) (k+1)) (lvl (exx D x m T) k)) (a++au))).x (prE x (k+1) (iter b0.toNat (sig (suf (exx D x m T) (k+1)) (lvl (exx D x m T) k)) (a++au))).v)=prE x (k+1) (iter b0.toNat (sig (suf (exx D x m T) (k+1)) (lvl (exx D x m T) k)) (a++au))from rfl,hg _ _ eg hB,bs,bs,bs,zE (by omega) (by omega),bs,yV hk,bs];have hm:=xG ok eg hB;show _=ik (prE x k (mul _ (a0::(a++au)) (b0::(b++bu))));rw[yY,zB9 h hE hT hk]
 generalize mul (suf (exx D x m T) (k+1)) (iter b0.toNat (sig (suf (exx D x m T) (k+1)) (lvl (exx D x m T) k)) (a++au)) (b++bu)=r at hm ⊢
 have fin:∀(c:Int) w,V (suf (exx D x m T) (k+1)) w→((f_B (prE x (k+1) w).x).bind fun r22=>(ixO r22 (k:Int)).bind fun _=>ik (zJ.mk (r22.set k c) (prE x (k+1) w).v))=ik (prE x k (c::w)):=fun c w hw=>by
  obtain⟨w1,w2,rfl,h1,h2,h3,h4⟩:=prV h hE hT (k:=k+1) (by omega) hw;have e3:prE x k (c::(w1++w2))=⟨fv k (c::w1),w2⟩:=by grind[qX]
  rw[h3,e3];dsimp only
  rw[own _ h1,bs,fv,←zBS,zCI,bs,zDL]
 by_cases hge:a0+b0≥at0 x.zA k
 ·obtain⟨p1,p2⟩:=zKx h hE hT (k:=k) (j:=k) (Jg k) hk
  change V (suf (exx D x m T) (k+1)) (lvl (exx D x m T) k).w at p2;rw[iu hge,zM,if_pos hge,bs,zE (by omega) (by omega),bs,bs,p1,bs];have e4:=hg _ _ p2 hm;rw[show(((exx D x m T).zU.getD k []).drop (k+1))=(lvl (exx D x m T) k).w from rfl,e4,bs]
  grind[xG]
 ·rw[ir hge,zR,if_neg hge]
  grind
theorem zEs:∀(d k:Nat),k+d=x.zA.length→(∀q,2*d+1≤q→zST D x m0 m T k (zOn q))∧(1≤d→ ∀q,2*d≤q→zSU D x m0 m T k (zOm q))
 |0,k,hk=>by
  refine⟨fun q hq a b ha hb=>?_,fun h=>by omega⟩;have hn:=hE.hn;have hp:=hE.m.p.pos;obtain⟨q,rfl⟩:∃m',q=m'+1:=⟨q-1,by omega⟩;rw[zAy h hE hT D k (by omega) (by omega)]at ha hb ⊢
  have md:=(zDP _ _).1 ha;have eT:=(zDP _ _).1 hb;show b_d _ _ ⟨x,m0,T⟩ k _ _=_;unfold b_d;have e:∀w:Vec,prE x k w=⟨zeros k,w⟩:=fun w=>by rw[prE,show x.zA.length-k=0 from by omega,Ka,Gf,fv,Jd]
  rw[e,e,e];dsimp only
  rw[iu (by omega),zM,xL (by omega),bs,hM.pr,zSV h hE hT md eT,bs,qW (by omega) D _ _ md eT,show x.zA.length=k from by omega];rfl
 |d+1,k,hk=>by
  obtain⟨h1,h2⟩:=zEs d (k+1) (by omega);have hI:∀q,2*(d+1)≤q→zSU D x m0 m T k (zOm q):=fun q hq=>by obtain⟨q,rfl⟩:∃m',q=m'+1:=⟨q-1,by omega⟩;exact zMs h hE hT hM (by omega) (h1 q (by omega))
  refine⟨fun q hq=>?_,fun _=>hI⟩;obtain⟨q,rfl⟩:∃m',q=m'+1:=⟨q-1,by omega⟩;exact zSW h hE hT hM (by omega) (h1 q (by omega)) (hI q (by omega))
theorem zIj{k:Nat}(hk:k≤x.zA.length):zST D x m0 m T k f_d:=fun a b ha hb=>
 zBy (2*(x.zA.length-k)+1) fun q hq=>(zEs h hE hT hM (x.zA.length-k) k (by omega)).1 q hq a b ha hb
theorem zAU{k:Nat}(hk:k<x.zA.length):zSU D x m0 m T k f_h:=fun v hv=>
 zBy (2*(x.zA.length-k)) fun q hq=>(zEs h hE hT hM (x.zA.length-k) k (by omega)).2 (by omega) q hq v hv
end
end Go.Pl

namespace Go.Pl
open Go Go.Ab Go.Wk Go.Pc
structure GR (p:Int) (D:Nat) (Z:Vec→Prop) (L:Mx) (N:Nat) (C:Prop):Prop where
 len:L.length≤N
 row:∀r∈L,Row p D r
 iff:(∀r∈L,Z r)↔C
theorem GR.nil{p:Int}{D N:Nat}{Z:Vec→Prop}:GR p D Z [] N True:=⟨by simp,by simp,by simp⟩
theorem GR.app{p:Int}{D N M:Nat}{Z:Vec→Prop}{L L':Mx}{C C':Prop}(h:GR p D Z L N C)(h':GR p D Z L' M C'):GR p D Z (L++L') (N+M) (C∧C'):=by
 refine⟨by have:=h.len;have:=h'.len;grind,fun r hr=>?_,?_⟩
 ·rcases Je.1 hr with g|g
  ·exact h.row r g
  ·exact h'.row r g
 ·rw[←h.iff,←h'.iff]
  grind
theorem GR.one{p:Int}{D:Nat}{Z:Vec→Prop}{r:List Int}{C:Prop}(hr:Row p D r)(h:Z r↔C):GR p D Z [r] 1 C:=
 ⟨by simp,by grind,by grind⟩
theorem GR.to{p:Int}{D N M:Nat}{Z:Vec→Prop}{L:Mx}{C C':Prop}(h:GR p D Z L N C)(hN:N≤M)(hc:C↔C'):GR p D Z L M C':=⟨by have:=h.len;omega,h.row,h.iff.trans hc⟩
def c1E(e:SPr)(k j:Nat):Prop:=pw (mul (suf e (k+1))) (zeros (suf e (k+1)).length) ((lvl e k).cs.getD (j-(k+1)) []) (at0 e.zA j).toNat=sig (suf e (k+1)) (lvl e k) ((e.zU.getD j []).drop (k+1))
def c2E(e:SPr)(k i j:Nat):Prop:=mul (suf e (k+1)) ((lvl e k).cs.getD (j-(k+1)) []) ((lvl e k).cs.getD (i-(k+1)) [])=mul (suf e (k+1)) ((lvl e k).cs.getD (i-(k+1)) []) (sig (suf e (k+1)) (lvl e k) (((e.zF.getD i []).getD (j-(i+1)) []).drop (k+1)))
def c4E(e:SPr)(k j:Nat):Prop:=mul (suf e (k+1)) (lvl e k).w (iter (lvl e k).o.toNat (sig (suf e (k+1)) (lvl e k)) (xN (e.zA.length-(k+1)) (j-(k+1))))=mul (suf e (k+1)) (xN (e.zA.length-(k+1)) (j-(k+1))) (lvl e k).w
def c1Q(Q:Nat→Vec→Vec→Prop)(e:SPr)(k j:Nat):Prop:=Q (k+1) (pw (mul (suf e (k+1))) (zeros (suf e (k+1)).length) ((lvl e k).cs.getD (j-(k+1)) []) (at0 e.zA j).toNat) (sig (suf e (k+1)) (lvl e k) ((e.zU.getD j []).drop (k+1)))
def c2Q(Q:Nat→Vec→Vec→Prop)(e:SPr)(k i j:Nat):Prop:=Q (k+1) (mul (suf e (k+1)) ((lvl e k).cs.getD (j-(k+1)) []) ((lvl e k).cs.getD (i-(k+1)) [])) (mul (suf e (k+1)) ((lvl e k).cs.getD (i-(k+1)) []) (sig (suf e (k+1)) (lvl e k) (((e.zF.getD i []).getD (j-(i+1)) []).drop (k+1))))
def c4Q(Q:Nat→Vec→Vec→Prop)(e:SPr)(k j:Nat):Prop:=Q (k+1) (mul (suf e (k+1)) (lvl e k).w (iter (lvl e k).o.toNat (sig (suf e (k+1)) (lvl e k)) (xN (e.zA.length-(k+1)) (j-(k+1))))) (mul (suf e (k+1)) (xN (e.zA.length-(k+1)) (j-(k+1))) (lvl e k).w)
structure LCQ (Q:Nat→Vec→Vec→Prop) (x e:SPr) (k:Nat):Prop where
 c1:∀j,k+1≤j→j<x.zA.length→c1Q Q e k j
 c2:∀i,k+1≤i→i<x.zA.length→ ∀j,i+1≤j→j<x.zA.length→c2Q Q e k i j
 c3:Q (k+1) (sig (suf e (k+1)) (lvl e k) (lvl e k).w) (lvl e k).w
 c4:∀j,k+1≤j→j<x.zA.length→c4Q Q e k j
section
variable {D:Nat}{x:SPr}{m0 m:zB}{T:Mx} (h:Pres x) (hE:ExB x.zA.length D x m T) (hT:∀i,i<T.length→Row m.Prime D (T.getD i []))
 include h hE hT
theorem zCi{k:Nat}(hk:k≤x.zA.length){a b:Vec}(ha:V (suf (exx D x m T) k) a)(hb:V (suf (exx D x m T) k) b):(mul (suf (exx D x m T) k) a b).take (x.zA.length-k)=mul (suf x k) (a.take (x.zA.length-k)) (b.take (x.zA.length-k)):=by grind[zKw]
theorem zEt{k:Nat}(hk:k<x.zA.length){v:Vec}(hv:V (suf (exx D x m T) (k+1)) v):(sig (suf (exx D x m T) (k+1)) (lvl (exx D x m T) k) v).take (x.zA.length-(k+1))=sig (suf x (k+1)) (lvl x k) (v.take (x.zA.length-(k+1))):=
 by grind[zMr,zKw]
theorem zFU{k:Nat}(hk:k<x.zA.length){v:Vec}(hv:V (suf (exx D x m T) (k+1)) v):V (suf (exx D x m T) (k+1)) (sig (suf (exx D x m T) (k+1)) (lvl (exx D x m T) k) v):=by
 have gC:=uF h hE hT (k:=k) (by omega);rw[yE (x:=exx D x m T) (by grind[wI])]at gC
 grind[zCE]
theorem zKz{k:Nat}(hk:k<x.zA.length):∀(q:Nat){v:Vec},V (suf (exx D x m T) (k+1)) v→(iter q (sig (suf (exx D x m T) (k+1)) (lvl (exx D x m T) k)) v).take (x.zA.length-(k+1))=iter q (sig (suf x (k+1)) (lvl x k)) (v.take (x.zA.length-(k+1)))
 |0,_,_=>rfl
 |q+1,v,hv=>by have:=zKz hk q (zFU h hE hT hk hv);rw[zEt h hE hT hk hv]at this;exact this
theorem zV9{k:Nat}(hk:k≤x.zA.length):(zeros (suf (exx D x m T) k).length).take (x.zA.length-k)=zeros (suf x k).length:=by grind[zBg,yA,yP]
theorem zWY{k:Nat}(hk:k≤x.zA.length){c:Vec}(hc:V (suf (exx D x m T) k) c)(q:Nat):(pw (mul (suf (exx D x m T) k)) (zeros (suf (exx D x m T) k).length) c q).take (x.zA.length-k)=pw (mul (suf x k)) (zeros (suf x k).length) (c.take (x.zA.length-k)) q:=by have ok:=uF h hE hT (k:=k) (by omega);have:=zFe (S:=V (suf (exx D x m T) k)) (n:=mul (suf x k)) (·.take (x.zA.length-k)) (fun a b=>xG ok) (by grind[zCi]) [c] [(q:Int)] (zeros (suf (exx D x m T) k).length) (by grind) (wP ok);simp only[Jo,U6,img,Ja]at this;rw[zV9 h hE hT hk]at this;exact this
section
variable {k:Nat} (hk:k<x.zA.length)
 include hk
theorem zJ2{j:Nat}(h1:k+1≤j)(h2:j<x.zA.length):((lvl (exx D x m T) k).cs.getD (j-(k+1)) []).take (x.zA.length-(k+1))=(lvl x k).cs.getD (j-(k+1)) []:=by rw[zIg h hE hT hk h1 h2,Ju (vC h (by omega) (kS h hk h1 h2).2.2)]
theorem zIk{j:Nat}(h1:k≤j)(h2:j<x.zA.length):(((exx D x m T).zU.getD j []).drop (k+1)).take (x.zA.length-(k+1))=(x.zU.getD j []).drop (k+1):=by
 have t1:=(h.tl j h2).1.1.1
 grind[zEr]
theorem zSX{i j:Nat}(h1:k+1≤i)(h2:i<j)(h3:j<x.zA.length):((((exx D x m T).zF.getD i []).getD (j-(i+1)) []).drop (k+1)).take (x.zA.length-(k+1))=((x.zF.getD i []).getD (j-(i+1)) []).drop (k+1):=by rw[zFT h hE hT (by omega) h2 h3,Ju (vC h (by omega) (zS6 h hk h1 h2 h3).2.2)]
theorem zSY{j:Nat}(h1:k+1≤j)(h2:j<x.zA.length):xN ((exx D x m T).zA.length-(k+1)) (j-(k+1))=xN (x.zA.length-(k+1)) (j-(k+1))++zeros D:=by
 rw[wI h hE hT,zAw (by omega),zAw (by omega),Jb,K4]
 grind[zeros,Jl]
end
variable (hM:Mv D x.zA.length m0 m) {Z:Vec→Prop}{Q:Nat→Vec→Vec→Prop} (hZ:∀k,k≤x.zA.length→ ∀a b,V (suf (exx D x m T) k) a→V (suf (exx D x m T) k) b→a.take (x.zA.length-k)=b.take (x.zA.length-k)→(Z (uH m.Prime D (a.drop (x.zA.length-k)) (-1) (b.drop (x.zA.length-k)))↔Q k a b))
 include hM hZ
theorem zK0{k:Nat}(hk:k≤x.zA.length){a b:Vec}(ha:V (suf (exx D x m T) k) a)(hb:V (suf (exx D x m T) k) b)(e:a.take (x.zA.length-k)=b.take (x.zA.length-k)):∃r,zMS ⟨x,m0,T⟩ (prE x k a) (prE x k b)=ik r∧Row m.Prime D r∧(Z r↔Q k a b):=by
 have h7:=hE.m.p.pos;have h3:=hE.m.d3;obtain⟨y,u,rfl,hy,hu,ck,ex⟩:=prV h hE hT hk ha;obtain⟨z,v,rfl,hz,hv,dZ,mw⟩:=prV h hE hT hk hb;have mz:=hZ k hk _ _ ha hb e;rw[K7 ex,K7 mw]at mz;unfold zMS;rw[ck,dZ];dsimp only
 rw[hM.pr,zE (by omega) (by omega),bs,uZ hE.m.p hu hv (by omega) (by omega),bs,zEn];exact⟨_,rfl,kV hE.m.p,mz⟩
section
variable {k:Nat} (hk:k<x.zA.length) (hc:LC x k)
 include hk
 include hc
theorem yBr{j:Nat}(h1:k+1≤j)(h2:j<x.zA.length){L0 L:Mx}{N:Nat}{C:Prop}(hL:GR m.Prime D Z L N C)(hN:N≤1000){f:Mx→Option (Mx×Int⊕Mx)}:∃L',((zMQ ⟨x,m0,T⟩).bind fun r2=>
  (zI (zQR ⟨x,m0,T⟩ (k:Int) (L0,(j:Int))) (r2.x,r2.v,0)).bind fun r8=>
  (zOl ⟨x,m0,T⟩ (j:Int)).bind fun r9=>
  (f_h ⟨x,m0,T⟩ (k:Int) r9).bind fun r10=>
  (zMS ⟨x,m0,T⟩ (zJ.mk r8.1 r8.2) r10).bind fun r11=>
  (xW L [r11]).bind f)=f L'∧GR m.Prime D Z L' (N+1) (C∧c1Q Q (exx D x m T) k j):=by
 have ok:=uF h hE hT (k:=k+1) (by omega);have hn:=hE.hn;have hp:=(h.os.2 j h2).pos;have hz:=wP ok;obtain⟨c1,c2⟩:=zFh h hE hT (k:=k) (j:=j) (by omega) h2;obtain⟨p1,p2⟩:=zKx h hE hT (k:=k) (j:=j) (by omega) h2;have hA:=zIj h hE hT hM (k:=k+1) (by omega);have hI:=zAU h hE hT hM hk;have uk:zI (zQR ⟨x,m0,T⟩ (k:Int) (L0,(j:Int))) ((prE x (k+1) (zeros (suf (exx D x m T) (k+1)).length)).x,(prE x (k+1) (zeros (suf (exx D x m T) (k+1)).length)).v,0)=ik ((prE x (k+1) (pw (mul (suf (exx D x m T) (k+1))) (zeros (suf (exx D x m T) (k+1)).length) ((lvl (exx D x m T) k).cs.getD (j-(k+1)) []) (at0 x.zA j).toNat)).x,(prE x (k+1) (pw (mul (suf (exx D x m T) (k+1))) (zeros (suf (exx D x m T) (k+1)).length) ((lvl (exx D x m T) k).cs.getD (j-(k+1)) []) (at0 x.zA j).toNat)).v):=
  zCh (S:=V (suf (exx D x m T) (k+1))) (fun w=>(prE x (k+1) w).x) (fun w=>(prE x (k+1) w).v) (fun w=>mul (suf (exx D x m T) (k+1)) w ((lvl (exx D x m T) k).cs.getD (j-(k+1)) [])) (at0 x.zA j) (by omega) (by grind[xG]) (fun w q hw hq=>by
   unfold zQR;dsimp only
   rw[yV h2,bs,iu hq,zM,zE (by omega) (by omega),bs,c1,bs,cs,show(zJ.mk (prE x (k+1) w).x (prE x (k+1) w).v)=prE x (k+1) w from rfl,hA w _ hw c2,bs,zE (by omega) (by omega),bs,cs]) (fun w hw=>by
   simp_all[zQR,yV]) hz
 have dY:V (suf (exx D x m T) (k+1)) (pw (mul (suf (exx D x m T) (k+1))) (zeros (suf (exx D x m T) (k+1)).length) ((lvl (exx D x m T) k).cs.getD (j-(k+1)) []) (at0 x.zA j).toNat):=vO (by grind[xG]) _ hz;obtain⟨r,r1,r2,r3⟩:=zK0 h hE hT hM hZ (k:=k+1) (by omega) dY (zFU h hE hT hk p2) (by rw[zWY h hE hT (by omega) c2,zEt h hE hT hk p2,zJ2 h hE hT hk h1 h2,zIk h hE hT hk (by omega) h2];exact hc.c1 j h1 h2)
 have az:=hL.len;refine⟨L++[r],?_,hL.app (GR.one r2 (r3.trans ?_))⟩
 ·rw[zKy h hE hT (k:=k+1) (by omega) (by omega),bs,uk,bs,p1,bs,hI _ p2,bs]
  dsimp only
  rw[r1,bs,yO (by simp;omega),bs]
 ·unfold c1Q;rw[tG h hE hT h2]
theorem yBs{j:Nat}(h1:k+1≤j)(h2:j<x.zA.length){L0 L:Mx}{N:Nat}{C:Prop}(hL:GR m.Prime D Z L N C)(hN:N≤1000):∃L',zI (zQS ⟨x,m0,T⟩ (k:Int) (L0,(j:Int))) (L,((j+1:Nat):Int))=ik L'∧GR m.Prime D Z L' (N+(x.zA.length-(j+1))) (C∧ ∀j2,j+1≤j2→j2<x.zA.length→c2Q Q (exx D x m T) k j j2):=by
 have ok:=uF h hE hT (k:=k+1) (by omega);have hn:=hE.hn;have hA:=zIj h hE hT hM (k:=k+1) (by omega);have hI:=zAU h hE hT hM hk;refine tL (fun i(s:Mx×Int)=>s.2=((j+1+i:Nat):Int)∧GR m.Prime D Z s.1 (N+i) (C∧ ∀j2,j+1≤j2→j2<j+1+i→c2Q Q (exx D x m T) k j j2)) (x.zA.length-(j+1)) (fun i s hi ⟨hs,hg⟩=>?_) (fun s ⟨hs,hg⟩=>?_) ⟨rfl,hL.to (by omega) (by grind)⟩
 ·left
  obtain⟨L1,s2⟩:=s;dsimp only at hs hg;subst hs;have g2:j+1+i<x.zA.length:=by omega
  obtain⟨a1,a2⟩:=zFh h hE hT (k:=k) (j:=j) (by omega) h2;obtain⟨b1,b2⟩:=zFh h hE hT (k:=k) (j:=j+1+i) (by omega) g2;obtain⟨d1,d2⟩:=zPz h hE hT (k:=k) (i:=j) (j:=j+1+i) (by omega) (by omega) g2;have hs:=zFU h hE hT hk d2;obtain⟨r,r1,r2,r3⟩:=zK0 h hE hT hM hZ (k:=k+1) (by omega) (xG ok b2 a2) (xG ok a2 hs) (by rw[zCi h hE hT (by omega) b2 a2,zCi h hE hT (by omega) a2 hs,zEt h hE hT hk d2,zJ2 h hE hT hk h1 h2,zJ2 h hE hT hk (by omega) g2,zSX h hE hT hk h1 (by omega) g2];exact hc.c2 j h1 h2 (j+1+i) (by omega) g2)
  have az:=hg.len;refine⟨(L1++[r],((j+1+i+1:Nat):Int)),?_,rfl,(hg.app (GR.one r2 r3)).to (by omega) ?_⟩
  ·unfold zQS
   dsimp only
   rw[iu (by omega),zM,a1,bs,b1,bs,d1,bs,hI _ d2,bs,zE (by omega) (by omega),bs,cs,hA _ _ b2 a2,bs,bs,hA _ _ a2 hs,bs,r1,bs,yO (by simp;omega),bs,zE (by omega) (by omega),bs,cs]
  ·constructor
   ·rintro⟨⟨g1,g3⟩,g4⟩
    refine⟨g1,fun j2 e1 e2=>?_⟩;rcases Jk j2 (j+1+i)with e|e
    ·grind
    ·obtain rfl:j2=j+1+i:=by omega
     exact g4
   ·rintro⟨g1,g3⟩
    exact⟨by grind,g3 (j+1+i) (by omega) (by omega)⟩
 ·obtain⟨L1,s2⟩:=s
  dsimp only at hs hg;subst hs;refine⟨L1,?_,hg.to (Jg _) ?_⟩
  ·unfold zQS
   grind
  grind
theorem yBt:∃L',zI (zUA ⟨x,m0,T⟩ (k:Int)) ([],((k+1:Nat):Int))=ik L'∧GR m.Prime D Z L' 100 (∀j,k+1≤j→j<x.zA.length→c1Q Q (exx D x m T) k j∧ ∀j2,j+1≤j2→j2<x.zA.length→c2Q Q (exx D x m T) k j j2):=by
 have hn:=hE.hn;refine tL (fun i(s:Mx×Int)=>s.2=((k+1+i:Nat):Int)∧GR m.Prime D Z s.1 (7*i) (∀j,k+1≤j→j<k+1+i→c1Q Q (exx D x m T) k j∧ ∀j2,j+1≤j2→j2<x.zA.length→c2Q Q (exx D x m T) k j j2)) (x.zA.length-(k+1)) (fun i s hi ⟨hs,hg⟩=>?_) (fun s ⟨hs,hg⟩=>?_) ⟨rfl,(GR.nil (N:=0)).to (by omega) (by grind)⟩
 ·left
  obtain⟨L1,s2⟩:=s;dsimp only at hs hg;subst hs;have g2:k+1+i<x.zA.length:=by omega
  obtain⟨L2,e2,hg2⟩:=yBr h hE hT hM hZ hk hc (j:=k+1+i) (by omega) g2 (L0:=L1) hg (by omega) (f:=fun v12=>(rng (((k+1+i:Nat):Int)+1)).bind fun v13=>
   (zI (zQS ⟨x,m0,T⟩ (k:Int) (L1,((k+1+i:Nat):Int))) (v12,v13)).bind fun r25=>
   (rng (((k+1+i:Nat):Int)+1)).bind fun v26=>ik (.inl (r25,v26)))
  obtain⟨L3,e3,hg3⟩:=yBs h hE hT hM hZ hk hc (j:=k+1+i) (by omega) g2 (L0:=L1) hg2 (by omega);refine⟨(L3,((k+1+i+1:Nat):Int)),?_,rfl,hg3.to (by omega) ?_⟩
  ·unfold zUA
   dsimp only
   rw[iu (by omega),zM,e2,zE (by omega) (by omega),bs,cs,e3,bs,bs]
  grind
 ·obtain⟨L1,s2⟩:=s
  dsimp only at hs hg;subst hs;refine⟨L1,?_,hg.to (by omega) ?_⟩
  ·unfold zUA
   grind
  grind
theorem zSZ{j:Nat}(h1:k+1≤j)(h2:j<x.zA.length):∃r,zMQ ⟨x,m0,T⟩=ik r∧ixO r.x (j:Int)=ik 0∧r.x.set j 1=(prE x (k+1) (xN (x.zA.length-(k+1)) (j-(k+1))++zeros D)).x∧r.v=(prE x (k+1) (xN (x.zA.length-(k+1)) (j-(k+1))++zeros D)).v:=by
 have _:=hM;have _:=hZ;have _:=hc;have hn:=hE.hn;have eZ:(xN (x.zA.length-(k+1)) (j-(k+1))).length=x.zA.length-(k+1):=by rw[kZ,zZ]
 refine⟨_,zKy h hE hT (k:=k+1) (by omega) (by omega),?_,?_,?_⟩
 ·rw[zBg h hE hT (by omega),qX (yA _)]
  dsimp only
  simp only[fv,zeros,Jl];rw[vW,Ke,if_pos (by omega)]
 ·rw[zBg h hE hT (by omega),qX (yA _),qX eZ]
  dsimp only
  have e1:fv (k+1) (zeros (x.zA.length-(k+1)))=zeros j++0::zeros (x.zA.length-(k+1)-(j-(k+1)+1)):=by
   simp only[fv,zeros];rw[←Jq,Jl,Jl]
   grind
  rw[e1,zDL,fv,zAw (by omega),←Jb]
  grind[zeros,Jl]
 grind[zBg,qX,yA]
theorem yBu{L:Mx}{N:Nat}{C:Prop}(hL:GR m.Prime D Z L N C)(hN:N≤1000):∃L',zI (zQT ⟨x,m0,T⟩ (k:Int) (prE x (k+1) (((exx D x m T).zU.getD k []).drop (k+1)))) (L,((k+1:Nat):Int))=ik L'∧GR m.Prime D Z L' (N+(x.zA.length-(k+1))) (C∧ ∀j,k+1≤j→j<x.zA.length→c4Q Q (exx D x m T) k j):=by
 have hn:=hE.hn;have hpk:=(h.os.2 k hk).pos;have h7:=hE.m.p.pos;have ok:=uF h hE hT (k:=k+1) (by omega);have hA:=zIj h hE hT hM (k:=k+1) (by omega);have hI:=zAU h hE hT hM hk;obtain⟨p1,p2⟩:=zKx (m0:=m0) h hE hT (k:=k) (j:=k) (Jg k) hk;change V (suf (exx D x m T) (k+1)) (lvl (exx D x m T) k).w at p2;change∃L',zI (zQT ⟨x,m0,T⟩ (k:Int) (prE x (k+1) (lvl (exx D x m T) k).w)) (L,((k+1:Nat):Int))=ik L'∧_;have dw:(lvl (exx D x m T) k).w.take (x.zA.length-(k+1))=(lvl x k).w:=zIk h hE hT hk (Jg k) hk;have ho:(lvl (exx D x m T) k).o=at0 x.zA k:=zB9 h hE hT hk;refine tL (fun i(s:Mx×Int)=>s.2=((k+1+i:Nat):Int)∧GR m.Prime D Z s.1 (N+i) (C∧ ∀j,k+1≤j→j<k+1+i→c4Q Q (exx D x m T) k j)) (x.zA.length-(k+1)) (fun i s hi ⟨hs,hg⟩=>?_) (fun s ⟨hs,hg⟩=>?_) ⟨rfl,hL.to (by omega) (by grind)⟩
 ·left
  obtain⟨L1,s2⟩:=s;dsimp only at hs hg;subst hs;have g2:k+1+i<x.zA.length:=by omega
  obtain⟨r33,z1,z2,z3,z4⟩:=zSZ h hE hT hM hZ hk hc (j:=k+1+i) (by omega) g2;have hue:=zSY h hE hT hk (j:=k+1+i) (by omega) g2;have hux:V (suf x (k+1)) (xN (x.zA.length-(k+1)) (k+1+i-(k+1))):=by
   have:=zCD (h.okAt (k:=k+1) (by omega)) (j:=k+1+i-(k+1)) (by grind[yP])
   grind[yP]
  have eZ:=vC h (by omega) hux;have bI:V (suf (exx D x m T) (k+1)) (xN (x.zA.length-(k+1)) (k+1+i-(k+1))++zeros D):=(sL h hE hT (x.zA.length-(k+1)) (k+1) (by omega) _).2 ⟨_,_,rfl,hux,xP (by omega)⟩;have eg:V (suf (exx D x m T) (k+1)) (iter (at0 x.zA k).toNat (sig (suf (exx D x m T) (k+1)) (lvl (exx D x m T) k)) (xN (x.zA.length-(k+1)) (k+1+i-(k+1))++zeros D)):=vO (fun w hw=>zFU h hE hT hk hw) _ bI;have uk:zI (zUB ⟨x,m0,T⟩ (k:Int)) ((prE x (k+1) (xN (x.zA.length-(k+1)) (k+1+i-(k+1))++zeros D)).x,(prE x (k+1) (xN (x.zA.length-(k+1)) (k+1+i-(k+1))++zeros D)).v,0)=ik ((prE x (k+1) (iter (at0 x.zA k).toNat (sig (suf (exx D x m T) (k+1)) (lvl (exx D x m T) k)) (xN (x.zA.length-(k+1)) (k+1+i-(k+1))++zeros D))).x,(prE x (k+1) (iter (at0 x.zA k).toNat (sig (suf (exx D x m T) (k+1)) (lvl (exx D x m T) k)) (xN (x.zA.length-(k+1)) (k+1+i-(k+1))++zeros D))).v):=
   zCh (S:=V (suf (exx D x m T) (k+1))) (fun w=>(prE x (k+1) w).x) (fun w=>(prE x (k+1) w).v) (sig (suf (exx D x m T) (k+1)) (lvl (exx D x m T) k)) (at0 x.zA k) (by omega) (fun w hw=>zFU h hE hT hk hw) (fun w q hw hq=>by
    unfold zUB;dsimp only
    rw[yV hk,bs,iu hq,zM,show(zJ.mk (prE x (k+1) w).x (prE x (k+1) w).v)=prE x (k+1) w from rfl,hI w hw,bs,zE (by omega) (by omega),bs,cs]) (fun w hw=>by
    simp_all[zUB,yV]) bI
  obtain⟨r,r1,r2,r3⟩:=zK0 h hE hT hM hZ (k:=k+1) (by omega) (xG ok p2 eg) (xG ok bI p2) (by rw[zCi h hE hT (by omega) p2 eg,zCi h hE hT (by omega) bI p2,zKz h hE hT hk _ bI,dw,Ju eZ];exact hc.c4 (k+1+i) (by omega) g2)
  have az:=hg.len;refine⟨(L1++[r],((k+1+i+1:Nat):Int)),?_,rfl,(hg.app (GR.one r2 r3)).to (by omega) ?_⟩
  ·unfold zQT
   dsimp only
   rw[iu (by omega),zM,z1,bs,z2,bs,Ja,z3,z4,uk,bs,zE (by omega) (by omega),bs,cs];dsimp only
   have e1:=hA _ _ p2 eg;have e2:=hA _ _ bI p2;rw[show∀w,(zJ.mk (prE x (k+1) w).x (prE x (k+1) w).v)=prE x (k+1) w from fun _=>rfl,show∀w,(zJ.mk (prE x (k+1) w).x (prE x (k+1) w).v)=prE x (k+1) w from fun _=>rfl,e1,bs,bs,e2,bs,r1,bs,yO (by simp;omega),bs,zE (by omega) (by omega),bs,cs]
  ·have e4:c4Q Q (exx D x m T) k (k+1+i)↔Q (k+1) (mul (suf (exx D x m T) (k+1)) (lvl (exx D x m T) k).w (iter (at0 x.zA k).toNat (sig (suf (exx D x m T) (k+1)) (lvl (exx D x m T) k)) (xN (x.zA.length-(k+1)) (k+1+i-(k+1))++zeros D))) (mul (suf (exx D x m T) (k+1)) (xN (x.zA.length-(k+1)) (k+1+i-(k+1))++zeros D) (lvl (exx D x m T) k).w):=by
    grind[c4Q]
   rw[←e4];constructor
   ·grind
   grind
 ·obtain⟨L1,s2⟩:=s
  dsimp only at hs hg;subst hs;refine⟨L1,?_,hg.to (Jg _) ?_⟩
  ·unfold zQT
   grind
  grind
theorem zY0:∃L,f_l ⟨x,m0,T⟩ (k:Int)=ik L∧GR m.Prime D Z L 120 (LCQ Q x (exx D x m T) k):=by
 have hn:=hE.hn;have hI:=zAU h hE hT hM hk;obtain⟨p1,p2⟩:=zKx h hE hT (k:=k) (j:=k) (Jg k) hk;obtain⟨L1,e1,g1⟩:=yBt h hE hT hM hZ hk hc;have hs:=zFU h hE hT hk p2;obtain⟨r,r1,r2,r3⟩:=zK0 h hE hT hM hZ (k:=k+1) (by omega) hs p2 (by rw[zEt h hE hT hk p2,zIk h hE hT hk (Jg k) hk];exact hc.c3)
 obtain⟨L2,e2,g2⟩:=yBu h hE hT hM hZ hk hc (g1.app (GR.one r2 r3)) (by omega);have az:=g1.len;refine⟨L2,?_,g2.to (by omega) ?_⟩
 ·unfold f_l
  rw[zE (by omega) (by omega),bs,cs,e1,bs,p1,bs,hI _ p2,bs,r1,bs,yO (by simp;omega),bs,bs,e2,bs]
 ·constructor
  ·rintro⟨⟨a1,a2⟩,a3⟩
   exact⟨by grind,by grind,a2,a3⟩
  ·intro a
   exact⟨⟨fun j b1 b2=>⟨a.c1 j b1 b2,fun j2 b3 b4=>a.c2 j b1 b2 j2 b3 b4⟩,a.c3⟩,a.c4⟩
end
theorem zY1(hx:wR (suf x 0)):∃L,f_Q ⟨x,m0,T⟩=ik L∧GR m.Prime D Z L 1000 (∀k,k<x.zA.length→LCQ Q x (exx D x m T) k):=by
 have hn:=hE.hn;have h3:=hE.m.d3;have bf:∀k,k<x.zA.length→LC x k:=fun k hk=>((zAF h.w hk).1 (zB4 hx k)).2
 obtain⟨L,e,g⟩:=tL (body:=zQU ⟨x,m0,T⟩) (Q:=fun L=>GR m.Prime D Z L 1000 (∀k,k<x.zA.length→LCQ Q x (exx D x m T) k)) (fun i(s:Mx×Int)=>s.2=(i:Int)∧GR m.Prime D Z s.1 (120*i) (∀k,k<i→LCQ Q x (exx D x m T) k)) x.zA.length (fun i s hi ⟨hs,hg⟩=>by
  left;obtain⟨L1,s2⟩:=s;dsimp only at hs hg;subst hs;obtain⟨L2,e2,g2⟩:=zY0 h hE hT hM hZ hi (bf i hi);have l1:=hg.len;have l2:=g2.len;refine⟨(L1++L2,((i+1:Nat):Int)),?_,rfl,(hg.app g2).to (by omega) ?_⟩
  ·unfold zQU
   dsimp only
   rw[yZ hi,zM,e2,bs,yO (by omega),bs,zE (by omega) (by omega),bs,cs]
  grind) (fun s ⟨hs,hg⟩=>by
  obtain⟨L1,s2⟩:=s;dsimp only at hs hg;subst hs;refine⟨L1,?_,hg.to (by omega) Iff.rfl⟩
  simp_all[zQU]) (s:=([],0)) ⟨rfl,(GR.nil (N:=0)).to (by omega) (by simp)⟩
 grind[f_Q]
end
end Go.Pl

namespace Go.Pl
open Go Go.Ab Go.Wk Go.Pc
end Go.Pl

namespace Go.Pl
open Go Go.Ab Go.Wk Go.Pc
end Go.Pl

namespace Go.Pl
open Go Go.Ab Go.Wk Go.Pc
theorem zTa{x:SPr}(h:Pres x)(h6:x.zA.length≤6):(wX x).length=base x.zA.length x.zA.length:=by
 have h1:=zQx h;have key:∀n:Nat,n<7→2*base n n=n*(n+1):=by decide
 have h2:=key x.zA.length (by omega);omega
abbrev zP0(x:SPr)(m:zB)(D:Nat):Mx:=zMl (x.zA.length*D) (fun k=>dfc m D (uv x.zA.length D k)) (wX x)
section
variable {x:SPr}{m:zB}{D:Nat} (hx:zDK x) (hD:MOk x.zA.length m D)
 include hx hD
theorem zNP:∃R pv,zUG x m=ik R∧zUH x m=ik (zP0 x m D)∧f_i m.Prime (zP0 x m D)=ik R∧Red m.Prime (base x.zA.length x.zA.length*D) R pv∧R.length≤63∧base x.zA.length x.zA.length*D≤63:=by have h6:=hx.n6;have h3:=hD.d3;have hb:=vT x.zA.length (by omega);have hl:=zTa hx.toPres h6;have cS:x.zA.length*D≤6*3:=Jy h6 h3;have aZ:base x.zA.length x.zA.length*D≤21*3:=Jy hb.2.1 h3;have pz:(zP0 x m D).length=x.zA.length*D:=wT;obtain⟨R,pv,r1,r2,r3,_⟩:=kX hD.p (n:=(wX x).length*D) (by rw[hl];omega) (rows:=zP0 x m D) (by omega) (by rw[pz];exact zQy (zYs hx.toPres hD) (wX x));rw[hl]at r3;have hR:=r3.len_le;refine⟨R,pv,?_,zG2 hx.toPres hD,r2,r3,by omega,aZ⟩;unfold zUG;rw[zMn hx.toPres hD,bs,r1,bs]
end
end Go.Pl

namespace Go.Pl
open Go Go.Ab Go.Wk Go.Pc
end Go.Pl

namespace Go.Pl
open Go Go.Ab Go.Wk Go.Pc
end Go.Pl

namespace Go.Pl
open Go Go.Ab Go.Wk Go.Pc
end Go.Pl

namespace Go.Pl
open Go Go.Ab Go.Wk Go.Pc
abbrev zEu:=Nat×List Nat×List Nat
section
variable (x:SPr)
abbrev yI(a:Nat):Nat:=(at0 x.zA a).toNat
abbrev lcj(i j:Nat):List Int:=(x.zF.getD i []).getD (j-(i+1)) []
def swp:List Nat→Option zEu
 |a::b::s=>if b<a then ik (base x.zA.length b+(a-(b+1)),s,b::(nw 0 (lcj x b a)++s))else im
 |_=>im
def pws:List Nat→Option zEu
 |a::w=>if(a::w).take (yI x a)=J1 (yI x a) a then ik (a,(a::w).drop (yI x a),nw 0 (x.zU.getD a [])++(a::w).drop (yI x a))else im
 | []=>im
def hdS(w:List Nat):Option zEu:=match swp x w with
 |some r=>ik r
 |none=>pws x w
def stS:List Nat→Option zEu
 | []=>im
 |a::w=>match hdS x (a::w)with
  |some r=>ik r
  |none=>(stS w).map fun r=>(r.1,r.2.1,a::r.2.2)
end
section
variable {x:SPr}
theorem zVA{w s:List Nat}{r:zEu}(h:swp x w=ik r):swp x (w++s)=ik (r.1,r.2.1++s,r.2.2++s):=by
 match w,h with
 | [],h=>cases h
 | [_],h=>cases h
 |a::b::w,h=>
  simp only[swp]at h
  by_cases g:b<a
  ·rw[if_pos g]at h
   cases h;simp only[K4,swp,if_pos g,Jb]
  grind
theorem zBA{w:List Nat}{o a:Nat}(h:w.take o=J1 o a):o≤w.length:=by
 have:=congrArg Jbf h
 grind
theorem zVB{w s:List Nat}{r:zEu}(h:pws x w=ik r):pws x (w++s)=ik (r.1,r.2.1++s,r.2.2++s):=by
 match w,h with
 | [],h=>cases h
 |a::w,h=>
  simp only[pws]at h
  by_cases g:(a::w).take (yI x a)=J1 (yI x a) a
  ·rw[if_pos g]at h
   cases h;have hl:=zBA g;have e1:(a::(w++s)).take (yI x a)=(a::w).take (yI x a):=by grind
   have e2:(a::(w++s)).drop (yI x a)=(a::w).drop (yI x a)++s:=by grind
   simp only[K4,pws]
   grind
  grind
theorem zFi{a b:Nat}{s s2:List Nat}(h:swp x (a::b::s)=im):swp x (a::b::s2)=im:=by
 simp only[swp]at h ⊢
 grind
theorem zP1{w:List Nat}(h:hdS x w=im):swp x w=im∧pws x w=im:=by
 unfold hdS at h
 grind
theorem zTb{w:List Nat}(h1:swp x w=im)(h2:pws x w=im):hdS x w=im:=by grind[hdS]
theorem zY2{w s:List Nat}(hw:∀a∈w,2≤yI x a){r:zEu}(h:hdS x w=ik r):hdS x (w++s)=ik (r.1,r.2.1++s,r.2.2++s):=by
 unfold hdS at h ⊢
 cases e:swp x w with
 |some q=>
  grind[zVA]
 |none=>
  rw[e]at h;have e2:swp x (w++s)=im:=by
   match w,h with
   | [],h=>cases h
   | [a],h=>
    have h2:=hw a (by simp);simp only[pws]at h
    by_cases g:[a].take (yI x a)=J1 (yI x a) a
    ·have h4:=zBA g;grind
    grind
   |a::b::w,h=>exact zFi e
  grind[zVB]
theorem zEv{k a:Nat}(hk:k<yI x a):∀j,j≤k→ ∀{w:List Nat},(∀b,w.head? =ik b→a<b)→stS x (J1 j a++w)=(stS x w).map fun r=>(r.1,r.2.1,J1 j a++r.2.2)
 |0,_,w,_=>by simp
 |j+1,hj,w,hw=>by
  have ih:=zEv hk j (by omega) hw;rw[Jq,K4];have h1:swp x (a::(J1 j a++w))=im:=by
   cases j with
   |succ j=>simp only[Jq,K4,swp,if_neg (Jbs a)]
   |zero=>
    simp only[Hm,Jx];cases w with
    |nil=>rfl
    |cons b w=>
     have:=hw b rfl;simp only[swp,if_neg (show¬b<a by omega)]
  have h2:pws x (a::(J1 j a++w))=im:=by
   simp only[pws];refine if_neg fun g=>?_
   have hl:=zBA g;have:=congrArg (fun l=>l[j+1]?) g;rw[U7 (by omega),←K4,←Jq,J9 (by simp),Jh,Kf,Qm (by omega)]at this
   grind[List.head?_eq_getElem?]
  simp only[stS];rw[zTb h1 h2,ih];cases stS x w with
  |none=>rfl
  |some r=>rfl
theorem zY3{k a:Nat}(hk:k<yI x a):stS x (J1 k a)=im:=by
 have:=zEv hk k (Jg _) (w:=[]) (by simp)
 grind[stS]
theorem zK1:∀{u s:List Nat},(∀a∈u,2≤yI x a)→ ∀{r:zEu},stS x u=ik r→stS x (u++s)=ik (r.1,r.2.1++s,r.2.2++s)
 | [],_,_,_,h=>by cases h
 |a::w,s,hu,r,h=>by
  simp only[stS]at h;rw[K4];simp only[stS];cases e:hdS x (a::w)with
  |some q=>
   grind[zY2]
  |none=>
   rw[e]at h;cases e2:stS x w with
   |none=>grind
   |some q=>
    rw[e2]at h;cases h;obtain⟨n1,n2⟩:=zP1 e;have m1:swp x (a::(w++s))=im:=by
     cases w with
     |nil=>cases e2
     |cons b w=>exact zFi n1
    have m2:pws x (a::(w++s))=im:=by
     simp only[pws]at n2 ⊢
     refine if_neg fun g=>?_
     by_cases hl:yI x a≤(a::w).length
     ·grind
     ·have:a::w=J1 (a::w).length a:=by
       have g':=congrArg (Jbc (a::w).length) g
       grind
      grind[zY3]
    rw[zTb m1 m2,zK1 (s:=s) (by grind) e2];rfl
theorem zGu{u s:List Nat}(hu:∀a∈u,2≤yI x a)(h:stS x (u++s)=im):stS x u=im:=by
 cases e:stS x u with
 |none=>rfl
 |some r=>grind[zK1]
theorem zTc:∀{u:List Nat}{l i:Nat}{z:List Nat},(∀a∈u,i<a)→i<l→stS x (u++[l])=im→stS x (u++l::i::z)=ik (base x.zA.length i+(l-(i+1)),z,u++i::(nw 0 (lcj x i l)++z))
 | [],l,i,z,_,hl,_=>by simp only[Jx,stS,hdS,swp,if_pos hl]
 |a::u,l,i,z,hu,hl,hn=>by
  rw[K4]at hn ⊢
  simp only[stS]at hn ⊢
  cases e:hdS x (a::(u++[l]))with
  |some q=>grind
  |none=>
   rw[e]at hn;have b9:stS x (u++[l])=im:=by simp_all
   obtain⟨n1,n2⟩:=zP1 e;have m1:swp x (a::(u++l::i::z))=im:=by
    cases u with
    |nil=>exact zFi n1
    |cons b u=>exact zFi n1
   have m2:pws x (a::(u++l::i::z))=im:=by
    simp only[pws]at n2 ⊢
    refine if_neg fun g=>?_
    have ea:a::(u++l::i::z)=(a::(u++[l]))++i::z:=by simp
    by_cases ho:yI x a≤(a::(u++[l])).length
    ·grind
    ·have g':=congrArg (fun w=>w[(a::(u++[l])).length]?) g
     rw[U7 (by omega),ea,J9 (Jg _),Kf,Qm (by omega)]at g';have:i=a:=by grind
     simp_all
   rw[zTb m1 m2,zTc (by grind) hl b9];rfl
theorem zWZ{a:Nat}(ha:2≤yI x a)(w:List Nat):stS x (J1 (yI x a) a++w)=ik (a,w,nw 0 (x.zU.getD a [])++w):=by
 obtain⟨k,hk⟩:∃k,yI x a=k+2:=⟨yI x a-2,by omega⟩;have e:J1 (yI x a) a++w=a::a::(J1 k a++w):=by grind
 have h1:swp x (J1 (yI x a) a++w)=im:=by rw[e];simp only[swp,if_neg (Jbs a)]
 have h2:pws x (J1 (yI x a) a++w)=ik (a,w,nw 0 (x.zU.getD a [])++w):=by
  have et:(J1 (yI x a) a++w).take (yI x a)=J1 (yI x a) a:=by simp
  have ed:(J1 (yI x a) a++w).drop (yI x a)=w:=by simp
  rw[e]at et ed ⊢
  simp only[pws]
  grind
 have h3:hdS x (J1 (yI x a) a++w)=ik (a,w,nw 0 (x.zU.getD a [])++w):=by grind[hdS]
 grind[stS]
end
end Go.Pl

namespace Go.Pl
open Go Go.Ab Go.Wk Go.Pc
theorem zDx{p:Int}{D:Nat}{u v w:List Int}:adv p D (adv p D u v) w=adv p D u (adv p D v w):=by
 refine yC fun j hj=>?_
 grind[yG,Jbj]
theorem zFj{p:Int}{D:Nat}{u v:List Int}{A:Mx}:wC p D (adv p D u v) A=adv p D (wC p D u A) (wC p D v A):=by
 refine yC fun j hj=>?_
 rw[wC,wC,yG hj,yG hj,←Kd,←zCO];refine kT fun l hl=>?_
 rw[yG hl,←Qt,Jt,K6,←Jt]
theorem zMt{α:Type}(m:α→α→α)(z:α):∀(cs:List α)(j n:Nat)(acc:α),j<cs.length→j<n→img m cs (xN n j) acc=m acc (cs.getD j z)
 | [],_,_,_,h,_=>by simp at h
 |c::cs,0,n+1,acc,_,_=>by grind[zDn,img,iter,qD]
 |c::cs,j+1,n+1,acc,h,h2=>by rw[zFG];show img m cs (xN n j) (iter (0:Int).toNat (fun v=>m v c) acc)=_;rw[show iter (0:Int).toNat (fun v=>m v c) acc=acc from rfl,zMt m z cs j n acc (by grind) (by omega),Jco]
 |_::_,0,0,_,_,h=>by omega
 |_::_,_+1,0,_,_,h=>by omega
theorem zFV(n d:Nat):zeros (n+d)=zeros n++zeros d:=by grind[zeros,Jl]
theorem zTd{n d j:Nat}(hj:j<n):xN (n+d) j=xN n j++zeros d:=by grind[xN,zFV,yA]
def fo(e:SPr)(k:Nat)(u:Vec)(w:List Nat):Vec:=w.foldl (fun u a=>mul (suf e k) u (xN (e.zA.length-k) (a-k))) u
theorem zCV{e:SPr}{k:Nat}{u:Vec}{v w:List Nat}:fo e k u (v++w)=fo e k (fo e k u v) w:=by simp[fo,U1]
theorem sM{e:SPr}{k:Nat}{u:Vec}{a:Nat}{w:List Nat}:fo e k u (a::w)=fo e k (mul (suf e k) u (xN (e.zA.length-k) (a-k))) w:=rfl
theorem zY4{e:SPr}{k a:Nat}(ha:k<a)(hn:a<e.zA.length){b:Int}{y:Vec}(hb:b<at0 e.zA k):mul (suf e k) (b::y) (xN (e.zA.length-k) (a-k))=b::mul (suf e (k+1)) y (xN (e.zA.length-(k+1)) (a-(k+1))):=by obtain⟨t,ht⟩:∃t,a-k=t+1:=⟨a-(k+1),by omega⟩;obtain⟨s,hs⟩:∃s,e.zA.length-k=s+1:=⟨e.zA.length-(k+1),by omega⟩;rw[yE (x:=e) (by omega),ht,hs,zFG,yY,if_neg (by show¬(b+0≥at0 e.zA k);omega),show a-(k+1)=t from by omega,show e.zA.length-(k+1)=s from by omega,H2];rfl
theorem zY5{e:SPr}{k:Nat}(hn:k<e.zA.length){b:Int}{y:Vec}:mul (suf e k) (b::y) (xN (e.zA.length-k) (k-k))=if b+1≥at0 e.zA k then(b+1-at0 e.zA k)::mul (suf e (k+1)) (lvl e k).w (mul (suf e (k+1)) (sig (suf e (k+1)) (lvl e k) y) (zeros (e.zA.length-(k+1))))else(b+1)::mul (suf e (k+1)) (sig (suf e (k+1)) (lvl e k) y) (zeros (e.zA.length-(k+1))):=by obtain⟨s,hs⟩:∃s,e.zA.length-k=s+1:=⟨e.zA.length-(k+1),by omega⟩;rw[yE (x:=e) hn,hs,Kf,zDn,yY,show e.zA.length-(k+1)=s from by omega];rfl
section
variable {D:Nat}{x:SPr}{m:zB}{T:Mx} (h:Pres x) (hE:ExB x.zA.length D x m T) (hT:∀i,i<T.length→Row m.Prime D (T.getD i []))
 include h hE hT
theorem zY6{k:Nat}(hk:k≤x.zA.length){e:Vec}(he:V (suf (exx D x m T) k) e):mul (suf (exx D x m T) k) e (zeros ((exx D x m T).zA.length-k))=e:=by have hp:=hE.m.p.pos;obtain⟨y,u,rfl,hy,hu⟩:=(sL h hE hT (x.zA.length-k) k (by omega) _).1 he;have:=zFg h hE hT (x.zA.length-k) k (by omega) y u (zeros D) hy hu (xP (by omega));rw[zAH hu]at this;rw[wI h hE hT,show x.zA.length+D-k=(x.zA.length-k)+D from by omega,zFV];exact this
def adK(p:Int)(D N:Nat)(e d:Vec):Vec:=e.take N++adv p D (e.drop N) d
theorem zK2{k:Nat}(hk:k≤x.zA.length){e d:Vec}(he:V (suf (exx D x m T) k) e)(hd:Row m.Prime D d):adK m.Prime D (x.zA.length-k) e d=mul (suf (exx D x m T) k) e (zeros (x.zA.length-k)++d):=by
 obtain⟨y,u,rfl,hy,hu⟩:=(sL h hE hT (x.zA.length-k) k (by omega) _).1 he
 grind[vC,zFg,adK]
theorem zY7{k:Nat}(hk:k≤x.zA.length){e d:Vec}(he:V (suf (exx D x m T) k) e):V (suf (exx D x m T) k) (adK m.Prime D (x.zA.length-k) e d):=by have hp:=hE.m.p.pos;obtain⟨y,u,rfl,hy,hu⟩:=(sL h hE hT (x.zA.length-k) k (by omega) _).1 he;have ex:=vC h (by omega) hy;rw[adK,Ju ex,K7 ex];exact(sL h hE hT (x.zA.length-k) k (by omega) _).2 ⟨y,_,rfl,hy,qG (by omega)⟩
theorem zXa{k:Nat}(hk:k≤x.zA.length){e d d':Vec}(he:V (suf (exx D x m T) k) e):adK m.Prime D (x.zA.length-k) (adK m.Prime D (x.zA.length-k) e d) d'=adK m.Prime D (x.zA.length-k) e (adv m.Prime D d d'):=by obtain⟨y,u,rfl,hy,hu⟩:=(sL h hE hT (x.zA.length-k) k (by omega) _).1 he;have ex:=vC h (by omega) hy;simp only[adK,Ju ex,K7 ex,zDx]
theorem zAV{k:Nat}(hk:k<x.zA.length){b:Int}{e d:Vec}:adK m.Prime D (x.zA.length-k) (b::e) d=b::adK m.Prime D (x.zA.length-(k+1)) e d:=by have _:=h;have _:=hE;have _:=hT;rw[show x.zA.length-k=x.zA.length-(k+1)+1 from by omega];rfl
theorem zD{k:Nat}(hk:k≤x.zA.length){d:Vec}(hd:Row m.Prime D d):V (suf (exx D x m T) k) (zeros (x.zA.length-k)++d):=
 (sL h hE hT (x.zA.length-k) k (by omega) _).2 ⟨_,d,rfl,zv h hE hT hk,hd⟩
theorem zXb{k a:Nat}(hk:k≤a)(ha:a<x.zA.length):V (suf x k) (xN (x.zA.length-k) (a-k)):=by
 have _:=hE;have _:=hT;have:=zCD (h.okAt (k:=k) (by omega)) (j:=a-k) (by grind[yP])
 grind[yP]
theorem zQ2{k a:Nat}(hk:k≤a)(ha:a<x.zA.length):xN ((exx D x m T).zA.length-k) (a-k)=xN (x.zA.length-k) (a-k)++zeros D:=by rw[wI h hE hT,show x.zA.length+D-k=x.zA.length-k+D from by omega,zTd (by omega)]
theorem zCW{k a:Nat}(hk:k≤a)(ha:a<x.zA.length):V (suf (exx D x m T) k) (xN ((exx D x m T).zA.length-k) (a-k)):=by have hp:=hE.m.p.pos;rw[zQ2 h hE hT hk ha];exact(sL h hE hT (x.zA.length-k) k (by omega) _).2 ⟨_,_,rfl,zXb h hE hT hk ha,xP (by omega)⟩
theorem zVC{k a:Nat}(hk:k≤a)(ha:a<x.zA.length):aM m D k (xN (x.zA.length-k) (a-k))=m.zG.getD a []:=by have _:=h;have _:=hT;have hA:=hE.m.mat a ha;have hl:=hE.m.len;unfold aM;rw[zMt (PM m.Prime D) [] _ _ _ _ (by grind) (by omega),J2,Lz,show k+(a-k)=a from by omega,←J2,zBV hA]
variable {k:Nat} (hk:k<x.zA.length) (hc:wR (suf (exx D x m T) (k+1)))
 include hk hc
theorem zXc{a:Nat}(h1:k+1≤a)(ha:a<x.zA.length){e d:Vec}(he:V (suf (exx D x m T) (k+1)) e)(hd:Row m.Prime D d):
  mul (suf (exx D x m T) (k+1)) (adK m.Prime D (x.zA.length-(k+1)) e d) (xN ((exx D x m T).zA.length-(k+1)) (a-(k+1)))=adK m.Prime D (x.zA.length-(k+1)) (mul (suf (exx D x m T) (k+1)) e (xN ((exx D x m T).zA.length-(k+1)) (a-(k+1)))) (wC m.Prime D d (m.zG.getD a [])):=by
 have hp:=hE.m.p.pos;have gC:=uF h hE hT (k:=k+1) (by omega);have G:=(zCF _ gC hc).toMon;have hg:=zCW h hE hT h1 ha;have hgv:=zXb h hE hT h1 ha;have hz:=zD h hE hT (k:=k+1) (by omega) hd;have eM:=zD h hE hT (k:=k+1) (by omega) (vB (p:=m.Prime) (D:=D) (r:=d) (B:=m.zG.getD a []) (by omega));rw[zK2 h hE hT (by omega) he hd,G.assoc he hz hg,zQ2 h hE hT h1 ha,zPx h hE hT _ (k+1) (by omega) _ _ _ hd hgv (xP (by omega)),zAH (vB (by omega)),zVC h hE hT h1 ha,←zQ2 h hE hT h1 ha,zK2 h hE hT (by omega) (G.cl he hg) (vB (by omega)),G.assoc he hg eM,zQ2 h hE hT h1 ha,zFg h hE hT _ (k+1) (by omega) _ _ _ hgv (xP (by omega)) (vB (by omega)),uB (vB (by omega))]
 omit hc in
theorem zIl{e d:Vec}(he:V (suf (exx D x m T) (k+1)) e)(_hd:Row m.Prime D d):
    sig (suf (exx D x m T) (k+1)) (lvl (exx D x m T) k) (adK m.Prime D (x.zA.length-(k+1)) e d)=adK m.Prime D (x.zA.length-(k+1)) (sig (suf (exx D x m T) (k+1)) (lvl (exx D x m T) k) e) (wC m.Prime D d (m.zG.getD k [])):=by
  have hp:=hE.m.p.pos;obtain⟨y,u,rfl,hy,hu⟩:=(sL h hE hT (x.zA.length-(k+1)) (k+1) (by omega) _).1 he;have ex:=vC h (by omega) hy;obtain⟨y1,u1,e,fh,cB⟩:=(sL h hE hT (x.zA.length-(k+1)) (k+1) (by omega) _).1 (zIe h hE hT hk (y:=y));have gM:=vC h (by omega) fh;have e0:adK m.Prime D (x.zA.length-(k+1)) (y++u) d=y++adv m.Prime D u d:=by grind[adK]
  rw[e0,zCf h hE hT hk hy (qG (by omega)),zCf h hE hT hk hy hu,e,Ju gM,K7 gM,adK,Ju gM,K7 gM,zFj,zDx]
theorem zMu{z d:Vec}(hz:V (suf (exx D x m T) (k+1)) z)(hd:Row m.Prime D d){w:Vec}(hw:V (suf (exx D x m T) (k+1)) w):
  mul (suf (exx D x m T) (k+1)) w (adK m.Prime D (x.zA.length-(k+1)) z d)=adK m.Prime D (x.zA.length-(k+1)) (mul (suf (exx D x m T) (k+1)) w z) d:=by
 have gC:=uF h hE hT (k:=k+1) (by omega);have G:=(zCF _ gC hc).toMon;rw[zK2 h hE hT (by omega) hz hd,zK2 h hE hT (by omega) (G.cl hw hz) hd,G.assoc hw hz (by grind[zD])]
 omit hc in
theorem zQ3:V (suf (exx D x m T) (k+1)) (lvl (exx D x m T) k).w:=by
  have gC:=uF h hE hT (k:=k) (by omega);rw[yE (x:=exx D x m T) (by grind[wI])]at gC;exact gC.2.1
 omit hc in
theorem zAJ{e:Vec}(he:V (suf (exx D x m T) (k+1)) e):V (suf (exx D x m T) (k+1)) (sig (suf (exx D x m T) (k+1)) (lvl (exx D x m T) k) e):=by
  have gC:=uF h hE hT (k:=k) (by omega);rw[yE (x:=exx D x m T) (by grind[wI])]at gC
  grind[zCE]
theorem zGv{b:Int}{e:Vec}(he:V (suf (exx D x m T) (k+1)) e):mul (suf (exx D x m T) k) (b::e) (xN ((exx D x m T).zA.length-k) (k-k))=if b+1≥at0 x.zA k then(b+1-at0 x.zA k)::mul (suf (exx D x m T) (k+1)) (lvl (exx D x m T) k).w (sig (suf (exx D x m T) (k+1)) (lvl (exx D x m T) k) e)else(b+1)::sig (suf (exx D x m T) (k+1)) (lvl (exx D x m T) k) e:=by have _:=hc;rw[zY5 (by grind[wI]),zY6 h hE hT (by omega) (zAJ h hE hT hk he),tG h hE hT hk]
theorem zMv{a:Nat}(h1:k<a)(ha:a<x.zA.length){b:Int}(hb:b<at0 x.zA k){e:Vec}:mul (suf (exx D x m T) k) (b::e) (xN ((exx D x m T).zA.length-k) (a-k))=b::mul (suf (exx D x m T) (k+1)) e (xN ((exx D x m T).zA.length-(k+1)) (a-(k+1))):=by have _:=hc;grind[zY4,wI,tG]
theorem yBv{a:Nat}(h1:k≤a)(ha:a<x.zA.length){b:Int}(hb:b<at0 x.zA k){e d:Vec}(he:V (suf (exx D x m T) (k+1)) e)(hd:Row m.Prime D d):
  mul (suf (exx D x m T) k) (b::adK m.Prime D (x.zA.length-(k+1)) e d) (xN ((exx D x m T).zA.length-k) (a-k))=adK m.Prime D (x.zA.length-k) (mul (suf (exx D x m T) k) (b::e) (xN ((exx D x m T).zA.length-k) (a-k))) (wC m.Prime D d (m.zG.getD a [])):=by
 have hp:=hE.m.p.pos;rcases Jk k a with g|g
 ·rw[zMv h hE hT hk hc g ha hb,zMv h hE hT hk hc g ha hb,zXc h hE hT hk hc g ha he hd,zAV h hE hT hk]
 ·obtain rfl:a=k:=by omega
  rw[zGv h hE hT hk hc (by grind[zY7]),zGv h hE hT hk hc he,zIl h hE hT hk he hd];split
  ·rw[zMu h hE hT hk hc (zAJ h hE hT hk he) (vB (by omega)) (zQ3 h hE hT hk),zAV h hE hT hk]
  grind[zAV]
theorem yAw{a:Nat}(h1:k≤a)(ha:a<x.zA.length){e:Vec}(he:V (suf (exx D x m T) k) e):V (suf (exx D x m T) k) (mul (suf (exx D x m T) k) e (xN ((exx D x m T).zA.length-k) (a-k))):=by have _:=hc;grind[xG,uF,zCW]
theorem yBw:∀{w:List Nat},(∀a∈w,k≤a∧a<x.zA.length)→ ∀{e:Vec},V (suf (exx D x m T) k) e→V (suf (exx D x m T) k) (fo (exx D x m T) k e w)
 | [],_,_,he=>he
 |a::w,hw,e,he=>by rw[sM];exact yBw (by grind) (by grind[yAw])
theorem zP2:∀{w:List Nat},(∀a∈w,k≤a∧a<x.zA.length)→ ∀{e d:Vec},V (suf (exx D x m T) k) e→Row m.Prime D d→fo (exx D x m T) k (adK m.Prime D (x.zA.length-k) e d) w=adK m.Prime D (x.zA.length-k) (fo (exx D x m T) k e w) (wC m.Prime D d (wM m.Prime D m.zG w (idM D)))
 | [],_,e,d,_,hd=>by show adK _ _ _ e d=adK _ _ _ e (wC m.Prime D d (idM D));rw[jN hd]
 |a::w,hw,e,d,he,hd=>by
  have hp:=hE.m.p.pos;obtain⟨a1,a2⟩:=hw a (by simp);have hA:=hE.m.mat a a2;have i3:=he;rw[yE (x:=exx D x m T) (by grind[wI])]at i3;cases e with
  |nil=>exact i3.elim
  |cons b e=>
   obtain⟨⟨b0,b1⟩,he1⟩:=i3;have b2:b<at0 x.zA k:=by rw[←tG h hE hT hk];exact b1
   rw[sM,sM,zAV h hE hT hk,yBv h hE hT hk hc a1 a2 b2 he1 hd,zP2 (by grind) (by grind[yAw]) (vB (by omega)),zFf hA.1]
   congr 2
   show PM _ _ _ (wM m.Prime D m.zG w (idM D))=wM m.Prime D m.zG w (PM m.Prime D (idM D) (m.zG.getD a []));rw[←zHR (by omega) hA.1 w (tW (by omega)),zCQ hA,zBV hA]
end
end Go.Pl

namespace Go.Pl
open Go Go.Ab Go.Wk Go.Pc
inductive Col (x:SPr) (k:Nat):List Nat→List (Nat×List Nat)→List Nat→Prop where
 |refl (w:List Nat):Col x k w [] w
 |step {w w1 w' s:List Nat}{r:Nat}{tr:List (Nat×List Nat)} (hw:∀a∈w,k≤a∧a<x.zA.length) (hs:stS x w=ik (r,s,w1)) (h:Col x k w1 tr w'):Col x k w ((r,s)::tr) w'
theorem Col.trans{x:SPr}{k:Nat}{w w1 w2:List Nat}{t1 t2:List (Nat×List Nat)}(h:Col x k w t1 w1)(h2:Col x k w1 t2 w2):Col x k w (t1++t2) w2:=by
 induction h with
 |refl w=>exact h2
 |step hw hs _ ih=>exact .step hw hs (ih h2)
def tv(p:Int)(D:Nat)(m:zB)(T:Mx):List (Nat×List Nat)→Vec
 | []=>zeros D
 |(r,s)::t=>adv p D (wC p D (T.getD r []) (wM p D m.zG s (idM D))) (tv p D m T t)
section
variable {p:Int}{D:Nat}{m:zB}{T:Mx} (hp:2≤p)
 include hp
theorem zK3:∀t,Row p D (tv p D m T t)
 | []=>xP (by omega)
 |(_,_)::_=>qG (by omega)
theorem zIm:∀t u,tv p D m T (t++u)=adv p D (tv p D m T t) (tv p D m T u)
 | [],u=>(uB (zK3 hp u)).symm
 |(r,s)::t,u=>by show adv p D _ (tv p D m T (t++u))=adv p D (adv p D _ _) _;rw[zIm t u,zDx]
theorem zY8{A:List Mx}{u v:List Nat}:wM p D A (u++v) (idM D)=PM p D (wM p D A u (idM D)) (wM p D A v (idM D)):=by have hu:=zBW (D:=D) (A:=A) (show 0<p by omega) u (tW hp);rw[zDs,←zHR (by omega) hu.1 v (tW hp),zCQ hu]
theorem zFk{A:List Mx}{u v:List Nat}{r:Vec}:wC p D r (wM p D A (u++v) (idM D))=wC p D (wC p D r (wM p D A u (idM D))) (wM p D A v (idM D)):=by have hu:=zBW (D:=D) (A:=A) (show 0<p by omega) u (tW hp);rw[zY8 hp,zFf hu.1]
theorem zTe(z:List Nat):∀t,tv p D m T (t.map fun q=>(q.1,q.2++z))=wC p D (tv p D m T t) (wM p D m.zG z (idM D))
 | []=>zAI.symm
 |(r,s)::t=>by show adv p D (wC p D (T.getD r []) (wM p D m.zG (s++z) (idM D))) (tv p D m T (t.map fun q=>(q.1,q.2++z)))=wC p D (adv p D _ (tv p D m T t)) _;rw[zTe z t,zFj,zFk hp]
end
section
variable {x:SPr} (h:Pres x)
 include h
theorem zK4{a:Nat}(ha:a<x.zA.length):2≤yI x a:=by
 have:=(h.os.2 a ha).pos
 grind
theorem sX{v:List Int}{i:Nat}(hv:Exp x.zA v i)(hi:i<x.zA.length):nw 0 v=nw (i+1) (v.drop (i+1))∧ ∀a∈nw 0 v,i+1≤a∧a<x.zA.length:=by
 have _:=h;have e:=zA1 hv hi;have e1:nw 0 v=nw (i+1) (v.drop (i+1)):=by rw[e,zDr,zCU,yA,Jx,Jc,K7 (by rw[yA])]
 refine⟨e1,fun a ha=>?_⟩;rw[e1]at ha;refine⟨?_,zLU (n:=x.zA.length) (i+1) _ (by rw[Jz,hv.1.1];omega) a ha⟩
 clear e e1 hv
 generalize v.drop (i+1)=y at ha
 generalize i+1=o at ha ⊢
 clear hi
 induction y generalizing o with
 |nil=>grind[nw]
 |cons b y ih=>
  grind[nw]
theorem uL{i j:Nat}(hi:i<j)(hj:j<x.zA.length):Exp x.zA (lcj x i j) i:=by have g:=(h.tl i (by omega)).2.1;exact(h.tl i (by omega)).2.2 (j-(i+1)) (by omega)
theorem jO{i:Nat}(hi:i<x.zA.length):Exp x.zA (x.zU.getD i []) i:=(h.tl i hi).1
theorem zTf:∀(o:Nat)(y:Vec),∀a∈nw o y,o≤a
 |_,[],a,ha=>by grind[nw]
 |o,b::y,a,ha=>by
  have _:=h;simp only[nw,Je]at ha;rcases ha with ha|ha
  ·grind
  ·have:=zTf (o+1) y a ha;omega
theorem zP3{k:Nat}{y:Vec}(hk:k≤x.zA.length)(hy:V (suf x k) y):∀a∈nw k y,k≤a∧a<x.zA.length:=fun a ha=>
 ⟨zTf h k y a ha,zLU (n:=x.zA.length) k y (by grind[vC]) a ha⟩
theorem zFW:∀(d k:Nat),k+d=x.zA.length→ ∀y,V (suf x k) y→stS x (nw k y)=im
 |0,k,hk,y,hy=>by rw[vX (x:=x) (k:=k) (by omega)]at hy;obtain rfl:y=[]:=hy;rfl
 |d+1,k,hk,y,hy=>by
  rw[yE (x:=x) (by omega)]at hy;cases y with
  |nil=>rfl
  |cons b y=>
   obtain⟨⟨b0,b1⟩,hy⟩:=hy;change b<at0 x.zA k at b1;simp only[nw];have gF:b.toNat<yI x k:=by grind
   rw[zEv gF b.toNat (Jg _) fun a ha=>?_,zFW d (k+1) (by omega) y hy]
   ·rfl
   ·have:=zTf h (k+1) y a (by grind[Jb4])
    omega
theorem Col.ctx{i a:Nat}(hi:i<x.zA.length)(ha:a<yI x i){s:List Nat}(hs:∀b∈s,i≤b∧b<x.zA.length){w w':List Nat}{tr:List (Nat×List Nat)}(hc:Col x (i+1) w tr w'):
  Col x i (J1 a i++(w++s)) (tr.map fun q=>(q.1,q.2++s)) (J1 a i++(w'++s)):=by
 induction hc with
 |refl w=>exact .refl _
 | @step w w1 w' s1 r tr hw gB _ ih=>
  refine .step (fun b hb=>?_) ?_ ih
  ·grind
  ·rw[zEv ha a (Jg _) fun b hb=>?_,zK1 (by grind[zK4]) gB]
   ·rfl
   ·cases w with
    |nil=>cases gB
    |cons c w=>
     simp only[K4,Qn,Ln.injEq]at hb;have:=hw c (by simp);omega
def cwd(x:SPr)(i:Nat):List Nat→List Nat
 | []=>[]
 |l::ur=>cwd x i ur++nw 0 (lcj x i l)
def mtr(x:SPr)(i:Nat):List Nat→List Nat→List (Nat×List Nat)
 | [],_=>[]
 |l::ur,z=>(base x.zA.length i+(l-(i+1)),z)::mtr x i ur (nw 0 (lcj x i l)++z)
theorem zK5{i:Nat}:∀{ur:List Nat},(∀b∈ur,i+1≤b∧b<x.zA.length)→ ∀b∈cwd x i ur,i+1≤b∧b<x.zA.length
 | [],_,b,hb=>by grind[cwd]
 |l::ur,hu,b,hb=>by
  simp only[cwd,Je]at hb;obtain⟨l1,l2⟩:=hu l (by simp);rcases hb with hb|hb
  ·exact zK5 (by grind) b hb
  ·exact(sX h (uL h (by omega) l2) (by omega)).2 b hb
theorem Col.move{i a:Nat}(hi:i<x.zA.length)(ha:a<yI x i):∀{ur:List Nat},(∀b∈ur,i+1≤b∧b<x.zA.length)→stS x ur.reverse=im→ ∀{z:List Nat},(∀b∈z,i≤b∧b<x.zA.length)→
  Col x i (J1 a i++(ur.reverse++i::z)) (mtr x i ur z) (J1 (a+1) i++(cwd x i ur++z))
 | [],_,_,z,_=>by
  have e:J1 a i++(([]:List Nat).reverse++i::z)=J1 (a+1) i++(cwd x i []++z):=by grind[Lw,cwd]
  rw[e];exact .refl _
 |l::ur,hu,hn,z,hz=>by
  obtain⟨l1,l2⟩:=hu l (by simp);have fV:∀b∈ur,i+1≤b∧b<x.zA.length:=by grind
  have cU:=sX h (uL h (show i<l by omega) l2) hi;rw[Jbd]at hn ⊢
  have b9:=zGu (by grind[zK4]) hn;have eM:∀b∈nw 0 (lcj x i l)++z,i≤b∧b<x.zA.length:=by grind
  have ih:=Col.move hi ha fV b9 eM;rw[show cwd x i (l::ur)++z=cwd x i ur++(nw 0 (lcj x i l)++z)from by simp[cwd]];have e1:ur.reverse++[l]++i::z=ur.reverse++l::i::z:=by simp
  rw[e1];refine .step (fun b hb=>?_) ?_ ih
  ·simp only[Je,J8,Jc3]at hb
   rcases hb with hb|hb|hb|hb|hb
   ·grind
   ·grind
   ·omega
   all_goals grind
  ·rw[zEv ha a (Jg _) fun b hb=>?_,zTc (by grind) (by omega) hn]
   ·rfl
   ·have:b∈ur.reverse++l::i::z:=by grind[Jb4]
    cases e:ur.reverse with
    |nil=>grind
    |cons c t=>
     grind
end
end Go.Pl

namespace Go.Pl
open Go Go.Ab Go.Wk Go.Pc
theorem zIn{α:Type}(m:α→α→α)(c:Nat→α)(z:α):∀(cs:List α)(v:Vec)(o:Nat)(acc:α),(∀j,j<cs.length→cs.getD j z=c (o+j))→v.length≤cs.length→img m cs v acc=(nw o v).foldl (fun acc j=>m acc (c j)) acc
 |cs,[],o,acc,_,_=>by cases cs<;>rfl
 | [],_::_,_,_,_,h=>by simp at h
 |a::cs,b::v,o,acc,hc,hl=>by
  have h0:=hc 0 (by simp);simp only[Gw,Gv]at h0;have e:∀(k:Nat)(u:α),(J1 k o).foldl (fun acc j=>m acc (c j)) u=iter k (fun v=>m v a) u:=by
   intro k
   induction k with
   |zero=>intro u;rfl
   |succ k ih=>intro u;rw[Jq,Ge,ih,h0];rfl
  show img m cs v (iter b.toNat (fun v=>m v a) acc)=_;simp only[nw,U1];rw[e,zIn m c z cs v (o+1) _ (fun j hj=>by have:=hc (j+1) (by grind);grind) (by grind)]
theorem map_drop{l:List (List Int)}{n i:Nat}:(l.map (·.drop n)).getD i []=(l.getD i []).drop n:=by grind
section
variable {D:Nat}{x:SPr}{m:zB}{T:Mx} (h:Pres x) (hE:ExB x.zA.length D x m T) (hT:∀i,i<T.length→Row m.Prime D (T.getD i []))
 include h hE hT
theorem zVD{k:Nat}(hk:k<x.zA.length)(hc:wR (suf (exx D x m T) k)):wR (suf (exx D x m T) (k+1)):=by rw[yE (x:=exx D x m T) (by grind[wI])]at hc;exact hc.1
theorem zNQ{k:Nat}(hk:k≤x.zA.length):V (suf (exx D x m T) k) (zeros ((exx D x m T).zA.length-k)):=by grind[wP,uF,yP]
theorem zIo{k:Nat}(hk:k≤x.zA.length):zeros ((exx D x m T).zA.length-k)=zeros (x.zA.length-k)++zeros D:=by rw[wI h hE hT,show x.zA.length+D-k=x.zA.length-k+D from by omega,zFV]
theorem zD8{k:Nat}(hk:k≤x.zA.length){y u:Vec}(hy:V (suf x k) y)(hu:Row m.Prime D u):V (suf (exx D x m T) k) (y++u):=
 (sL h hE hT (x.zA.length-k) k (by omega) _).2 (by grind)
theorem kE{k:Nat}(hk:k≤x.zA.length){y u d:Vec}(hy:V (suf x k) y):adK m.Prime D (x.zA.length-k) (y++u) d=y++adv m.Prime D u d:=by have _:=hE;have _:=hT;have ex:=vC h hk hy;rw[adK,Ju ex,K7 ex]
theorem zIp:∀(d k:Nat),k+d=x.zA.length→wR (suf (exx D x m T) k)→ ∀y,V (suf x k) y→fo (exx D x m T) k (zeros ((exx D x m T).zA.length-k)) (nw k y)=y++zeros D
 |0,k,hk,_,y,hy=>by rw[vX (x:=x) (k:=k) (by omega)]at hy;obtain rfl:y=[]:=hy;rw[zIo h hE hT (by omega),show x.zA.length-k=0 from by omega];rfl
 |d+1,k,hk,hc,y,hy=>by
  have fd:=zVD h hE hT (by omega) hc;have ih:=zIp d (k+1) (by omega) fd;rw[yE (x:=x) (by omega)]at hy;cases y with
  |nil=>exact hy.elim
  |cons b y=>
   obtain⟨⟨b0,b1⟩,hy⟩:=hy;change b<at0 x.zA k at b1;have pN:k<x.zA.length:=by omega
   have hz:=zNQ h hE hT (k:=k+1) (by omega);simp only[nw];rw[zCV];have e1:∀c:Nat,(c:Int)<at0 x.zA k→fo (exx D x m T) k (zeros ((exx D x m T).zA.length-k)) (J1 c k)=(c:Int)::zeros ((exx D x m T).zA.length-(k+1)):=by
    intro c
    induction c with
    |zero=>
     intro _;have hl:=wI h hE hT;rw[show(exx D x m T).zA.length-k=(exx D x m T).zA.length-(k+1)+1 from by omega];rfl
    |succ c ihc=>
     intro gE;rw[Lw,zCV,ihc (by omega)];show mul _ _ _=_;rw[zGv h hE hT pN fd hz,if_neg (by omega)];have:sig (suf (exx D x m T) (k+1)) (lvl (exx D x m T) k) (zeros ((exx D x m T).zA.length-(k+1)))=zeros ((exx D x m T).zA.length-(k+1)):=by grind[sig,qD,yP]
     grind
   have e2:∀(w:List Nat)(e:Vec),(∀a∈w,k+1≤a∧a<x.zA.length)→fo (exx D x m T) k (b::e) w=b::fo (exx D x m T) (k+1) e w:=by
    intro w
    induction w with
    |nil=>intro e _;rfl
    |cons a w ihw=>
     intro e hw;rw[sM,zMv h hE hT pN fd (hw a (by simp)).1 (hw a (by simp)).2 b1,ihw _ (by grind)];rfl
   have:=e1 b.toNat (by omega);rw[this,show((b.toNat:Nat):Int)=b from by omega,e2 _ _ fun a ha=>zP3 h (by omega) hy a ha,ih y hy];rfl
variable {k:Nat} (hk:k<x.zA.length) (hc:wR (suf (exx D x m T) (k+1)))
 include hk hc
theorem zIq{b:Int}(hb:b<at0 x.zA k):∀(w:List Nat)(e:Vec),(∀a∈w,k+1≤a∧a<x.zA.length)→fo (exx D x m T) k (b::e) w=b::fo (exx D x m T) (k+1) e w
 | [],e,_=>rfl
 |a::w,e,hw=>by rw[sM,zMv h hE hT hk hc (hw a (by simp)).1 (hw a (by simp)).2 hb,zIq hb w _ (by grind)];rfl
 omit hc in
theorem zQ4:∀{w:List Nat},(∀a∈w,k+1≤a∧a<x.zA.length)→ ∀{e:Vec},V (suf (exx D x m T) (k+1)) e→V (suf (exx D x m T) (k+1)) (fo (exx D x m T) (k+1) e w)
  | [],_,_,he=>he
  |a::w,hw,e,he=>by rw[sM];exact zQ4 (fun b hb=>hw b (by simp[hb])) (xG (uF h hE hT (by omega)) he (zCW h hE hT (hw a (by simp)).1 (hw a (by simp)).2))
theorem zTg:∀{w:List Nat},(∀a∈w,k+1≤a∧a<x.zA.length)→ ∀{e d:Vec},V (suf (exx D x m T) (k+1)) e→Row m.Prime D d→fo (exx D x m T) (k+1) (adK m.Prime D (x.zA.length-(k+1)) e d) w=adK m.Prime D (x.zA.length-(k+1)) (fo (exx D x m T) (k+1) e w) (wC m.Prime D d (wM m.Prime D m.zG w (idM D)))
 | [],_,e,d,_,hd=>by show adK _ _ _ e d=adK _ _ _ e (wC m.Prime D d (idM D));rw[jN hd]
 |a::w,hw,e,d,he,hd=>by
  have hp:=hE.m.p.pos;obtain⟨a1,a2⟩:=hw a (by simp);have hA:=hE.m.mat a a2;rw[sM,sM,zXc h hE hT hk hc a1 a2 he hd,zTg (by grind) (by grind[xG,uF,zCW]) (vB (by omega)),zFf hA.1]
  congr 2
  show PM _ _ _ (wM m.Prime D m.zG w (idM D))=wM m.Prime D m.zG w (PM m.Prime D (idM D) (m.zG.getD a []));rw[←zHR (by omega) hA.1 w (tW (by omega)),zCQ hA,zBV hA]
theorem zTh:∀{w:List Nat},(∀a∈w,k+1≤a∧a<x.zA.length)→ ∀{e f:Vec},V (suf (exx D x m T) (k+1)) e→V (suf (exx D x m T) (k+1)) f→fo (exx D x m T) (k+1) (mul (suf (exx D x m T) (k+1)) e f) w=mul (suf (exx D x m T) (k+1)) e (fo (exx D x m T) (k+1) f w)
 | [],_,_,_,_,_=>rfl
 |a::w,hw,e,f,he,hf=>by have gC:=uF h hE hT (k:=k+1) (by omega);have G:=(zCF _ gC hc).toMon;have hg:=zCW h hE hT (hw a (by simp)).1 (hw a (by simp)).2;rw[sM,sM,G.assoc he hf hg,zTh (by grind) he (G.cl hf hg)]
theorem zIr{w:List Nat}(hw:∀a∈w,k+1≤a∧a<x.zA.length){e:Vec}(he:V (suf (exx D x m T) (k+1)) e):fo (exx D x m T) (k+1) e w=mul (suf (exx D x m T) (k+1)) e (fo (exx D x m T) (k+1) (zeros ((exx D x m T).zA.length-(k+1))) w):=by rw[←zTh h hE hT hk hc hw he (by grind[zNQ]),zY6 h hE hT (by omega) he]
def dm(p:Int)(D:Nat)(x:SPr)(m:zB)(T:Mx)(k:Nat):List Nat→Vec
 | []=>zeros D
 |l::ur=>adv p D (wC p D (dm p D x m T k ur) (wM p D m.zG (nw 0 (lcj x k l)) (idM D))) (T.getD (base x.zA.length k+(l-(k+1))) [])
 omit h hE hT hk hc in
theorem zNR(hp:2≤m.Prime):∀ur,Row m.Prime D (dm m.Prime D x m T k ur)
  | []=>xP (by omega)
  |_::_=>qG (by omega)
 omit h hE hT hk hc in
theorem zNS(hp:2≤m.Prime):∀(ur:List Nat)(z:List Nat),tv m.Prime D m T (mtr x k ur z)=wC m.Prime D (dm m.Prime D x m T k ur) (wM m.Prime D m.zG z (idM D))
  | [],z=>zAI.symm
  |l::ur,z=>by show adv m.Prime D _ (tv m.Prime D m T (mtr x k ur (nw 0 (lcj x k l)++z)))=wC m.Prime D (adv m.Prime D _ _) _;rw[zNS hp ur,zFj,zFk hp,tO]
theorem zTi:∀{ur:List Nat},(∀b∈ur,k+1≤b∧b<x.zA.length)→ur.reverse.foldl (fun acc j=>mul (suf (exx D x m T) (k+1)) acc ((lvl (exx D x m T) k).cs.getD (j-(k+1)) [])) (zeros ((exx D x m T).zA.length-(k+1)))=
  adK m.Prime D (x.zA.length-(k+1)) (fo (exx D x m T) (k+1) (zeros ((exx D x m T).zA.length-(k+1))) (cwd x k ur)) (dm m.Prime D x m T k ur)
 | [],_=>by have hp:=hE.m.p.pos;show zeros _=adK _ _ _ (zeros _) (zeros D);rw[zIo h hE hT (by omega),kE h hE hT (by omega) (by grind[zv]),uB (xP (by omega))]
 |l::ur,hu=>by
  have hp:=hE.m.p.pos;obtain⟨l1,l2⟩:=hu l (by simp);have fV:∀b∈ur,k+1≤b∧b<x.zA.length:=by grind
  have gC:=uF h hE hT (k:=k+1) (by omega);have G:=(zCF _ gC hc).toMon;have hz:=zNQ h hE hT (k:=k+1) (by omega);have p9:=zK5 h fV;have hF:=zQ4 h hE hT hk p9 hz;have cU:=sX h (uL h (show k<l by omega) l2) hk;have gE:V (suf x (k+1)) ((lcj x k l).drop (k+1)):=by grind[jT,uL]
  have bf:(lvl x k).cs.getD (l-(k+1)) []=(lcj x k l).drop (k+1):=map_drop;have ht:=zDQ h hE hT (show k<l by omega) l2;have hd:=zNR (D:=D) (x:=x) (m:=m) (T:=T) (k:=k) (by omega) ur;have ux:=zIp h hE hT (x.zA.length-(k+1)) (k+1) (by omega) hc _ gE;have cJ:=zD8 h hE hT (k:=k+1) (by omega) gE (xP (p:=m.Prime) (D:=D) (by omega));rw[Jbd,U1,zTi fV];show mul _ (adK _ _ _ _ _) ((lvl (exx D x m T) k).cs.getD (l-(k+1)) [])=_;rw[zIg h hE hT hk l1 l2,bf];have e1:(lcj x k l).drop (k+1)++T.getD (base x.zA.length k+(l-(k+1))) []=adK m.Prime D (x.zA.length-(k+1)) ((lcj x k l).drop (k+1)++zeros D) (T.getD (base x.zA.length k+(l-(k+1))) []):=by grind[kE,uB]
  have gT:∀b∈nw (k+1) ((lcj x k l).drop (k+1)),k+1≤b∧b<x.zA.length:=by grind
  have fe:=zY7 h hE hT (k:=k+1) (by omega) hF (d:=dm m.Prime D x m T k ur);rw[e1,zMu h hE hT hk hc cJ ht fe,←ux,←zIr h hE hT hk hc gT fe,zTg h hE hT hk hc gT hF hd,zXa h hE hT (by omega) (zQ4 h hE hT hk gT hF),←zCV,←cU.1];rfl
theorem zP4{y:Vec}(hy:V (suf x (k+1)) y):sig (suf (exx D x m T) (k+1)) (lvl (exx D x m T) k) (y++zeros D)=adK m.Prime D (x.zA.length-(k+1)) (fo (exx D x m T) (k+1) (zeros ((exx D x m T).zA.length-(k+1))) (cwd x k (nw (k+1) y).reverse)) (dm m.Prime D x m T k (nw (k+1) y).reverse):=by have hp:=hE.m.p.pos;have ex:=vC h (by omega) hy;have gT:=zP3 h (by omega) hy;rw[←zTi h hE hT hk hc (by grind),Kj,zCf h hE hT hk hy (xP (by omega)),zAI];obtain⟨y1,u1,e,fh,cB⟩:=(sL h hE hT (x.zA.length-(k+1)) (k+1) (by omega) _).1 (zIe h hE hT hk (y:=y));have gM:=vC h (by omega) fh;rw[e,Ju gM,K7 gM,zAH cB,←e];unfold sgG;rw[yP];refine zIn _ (fun j=>(lvl (exx D x m T) k).cs.getD (j-(k+1)) []) [] _ _ _ _ (fun j hj=>?_) (by grind[tX]);rw[tX h hE hT]at hj;rw[show k+1+j-(k+1)=j from by omega,zCe h hE hT hk,J2,J2,Jv (by grind[tX])]
end
end Go.Pl

namespace Go.Pl
open Go Go.Ab Go.Wk Go.Pc
section
variable {x:SPr} (h:Pres x)
 include h
theorem zMw{D:Nat}{m:zB}{T:Mx}(hE:ExB x.zA.length D x m T)(hT:∀i,i<T.length→Row m.Prime D (T.getD i [])){k:Nat}(hk:k≤x.zA.length)(hc:wR (suf (exx D x m T) k)):wR (suf (exx D x m T) (k+1)):=by have hl:=wI h hE hT;have:=hE.m.d1;rw[yE (x:=exx D x m T) (by omega)]at hc;exact hc.1
structure qO (x:SPr) (k:Nat) (z:List Nat) (tr:List (Nat×List Nat)) (y:Vec):Prop where
 col:Col x k z tr (nw k y)
 v:V (suf x k) y
 val:∀(D:Nat)(m:zB)(T:Mx),ExB x.zA.length D x m T→(∀i,i<T.length→Row m.Prime D (T.getD i []))→wR (suf (exx D x m T) (k+1))→fo (exx D x m T) k (zeros ((exx D x m T).zA.length-k)) z=y++tv m.Prime D m T tr
theorem zP5{k:Nat}(hk:k<x.zA.length)(P:∀v:List Nat,(∀a∈v,k+1≤a∧a<x.zA.length)→ ∃tr y,qO x (k+1) v tr y):∀(z:List Nat),(∀a∈z,k≤a∧a<x.zA.length)→ ∀(a:Nat),a<yI x k→ ∀(v:List Nat),(∀a∈v,k+1≤a∧a<x.zA.length)→
  ∃tr y,Col x k (J1 a k++(v++z)) tr (nw k y)∧V (suf x k) y∧ ∀(D:Nat)(m:zB)(T:Mx),ExB x.zA.length D x m T→(∀i,i<T.length→Row m.Prime D (T.getD i []))→wR (suf (exx D x m T) (k+1))→
   fo (exx D x m T) k ((a:Int)::fo (exx D x m T) (k+1) (zeros ((exx D x m T).zA.length-(k+1))) v) z=y++tv m.Prime D m T tr
 | [],_,a,ha,v,hv=>by
  obtain⟨tr,y,c1,c2,c3⟩:=P v hv;have hc:=Col.ctx h hk ha (s:=[]) (by simp) c1;rw[show(fun q:Nat×List Nat=>(q.1,q.2++[]))=id from by grind,List.map_id,Jd,Jd]at hc;refine⟨tr,(a:Int)::y,?_,?_,fun D m T hE hT hc=>?_⟩
  ·grind[nw]
  ·rw[yE hk]
   refine⟨⟨by omega,?_⟩,c2⟩;show(a:Int)<at0 x.zA k
   grind
  ·rw[c3 D m T hE hT (by grind[zMw])];rfl
 |l::z,hz,a,ha,v,hv=>by
  have eM:∀b∈z,k≤b∧b<x.zA.length:=by grind
  obtain⟨l1,l2⟩:=hz l (by simp);have md:(a:Int)<at0 x.zA k:=by grind
  rcases Jk k l with g|g
  ·obtain⟨tr,y,c1,c2,c3⟩:=zP5 hk P z eM a ha (v++[l]) (by grind)
   refine⟨tr,y,by grind,c2,fun D m T hE hT hc=>?_⟩;rw[←c3 D m T hE hT hc,sM,zMv h hE hT hk hc g l2 md,zCV];rfl
  ·obtain rfl:l=k:=by omega
   obtain⟨tr1,y1,c1,c2,c3⟩:=P v hv;have gT:=zP3 h (by omega) c2;have cW:∀b∈(nw (l+1) y1).reverse,l+1≤b∧b<x.zA.length:=by grind
   have k1:=Col.ctx h hk ha (s:=l::z) hz c1;have k2:=Col.move h hk ha cW (by rw[Kj];exact zFW h _ _ (by omega:l+1+(x.zA.length-(l+1))=x.zA.length) y1 c2) eM;rw[Kj]at k2;have p9:=zK5 h cW;have val:∀(D:Nat)(m:zB)(T:Mx)(hE:ExB x.zA.length D x m T)(hT:∀i,i<T.length→Row m.Prime D (T.getD i []))(hc:wR (suf (exx D x m T) (l+1))),
     fo (exx D x m T) l ((a:Int)::fo (exx D x m T) (l+1) (zeros ((exx D x m T).zA.length-(l+1))) v) (l::z)=adK m.Prime D (x.zA.length-l) (fo (exx D x m T) l (mul (suf (exx D x m T) l) ((a:Int)::(y1++zeros D)) (xN ((exx D x m T).zA.length-l) (l-l))) z) (tv m.Prime D m T (tr1.map fun q=>(q.1,q.2++l::z))):=by
    intro D m T hE hT hc;have hp:=hE.m.p.pos;have ht:=zK3 (D:=D) (m:=m) (T:=T) (p:=m.Prime) (by omega) tr1;have t6:=zD8 h hE hT (k:=l+1) (by omega) c2 (xP (p:=m.Prime) (D:=D) (by omega));have aR:V (suf (exx D x m T) l) ((a:Int)::(y1++zeros D)):=by rw[yE (x:=exx D x m T) (by rw[wI h hE hT];omega)];refine⟨⟨by omega,?_⟩,t6⟩;show(a:Int)<at0 (exx D x m T).zA l;rw[tG h hE hT hk];exact md
    rw[c3 D m T hE hT (zMw h hE hT (by omega) hc),show y1++tv m.Prime D m T tr1=adK m.Prime D (x.zA.length-(l+1)) (y1++zeros D) (tv m.Prime D m T tr1)from by rw[kE h hE hT (by omega) c2,uB ht],←zAV h hE hT hk,zP2 h hE hT hk hc hz aR ht,zTe (by omega)];rfl
   have foV:∀(D:Nat)(m:zB)(T:Mx)(hE:ExB x.zA.length D x m T)(hT:∀i,i<T.length→Row m.Prime D (T.getD i []))(_hc:wR (suf (exx D x m T) (l+1))),V (suf (exx D x m T) (l+1)) (fo (exx D x m T) (l+1) (zeros ((exx D x m T).zA.length-(l+1))) (cwd x l (nw (l+1) y1).reverse)):=fun D m T hE hT _hc=>zQ4 h hE hT hk p9 (zNQ h hE hT (by omega))
   rcases Jk (a+1) (yI x l)with g2|g2
   ·obtain⟨tr2,y2,d1,d2,d3⟩:=zP5 hk P z eM (a+1) g2 (cwd x l (nw (l+1) y1).reverse) p9
    refine⟨_,y2,k1.trans (k2.trans d1),d2,fun D m T hE hT hc=>?_⟩;have hp:=hE.m.p.pos;have t6:=zD8 h hE hT (k:=l+1) (by omega) c2 (xP (p:=m.Prime) (D:=D) (by omega));have g3:(a:Int)+1<at0 x.zA l:=by have:a+1<(at0 x.zA l).toNat:=g2;omega
    have hF:=foV D m T hE hT hc;have aR:V (suf (exx D x m T) l) (((a:Int)+1)::fo (exx D x m T) (l+1) (zeros ((exx D x m T).zA.length-(l+1))) (cwd x l (nw (l+1) y1).reverse)):=by rw[yE (x:=exx D x m T) (by rw[wI h hE hT];omega)];refine⟨⟨by omega,?_⟩,hF⟩;show(a:Int)+1<at0 (exx D x m T).zA l;rw[tG h hE hT hk];exact g3
    have hd:=zNR (D:=D) (x:=x) (m:=m) (T:=T) (k:=l) (by omega) (nw (l+1) y1).reverse;have d3':=d3 D m T hE hT hc;rw[show(((a+1:Nat):Int))=(a:Int)+1 from by omega]at d3';rw[val D m T hE hT hc,zGv h hE hT hk hc t6,if_neg (by omega),zP4 h hE hT hk hc c2,←zAV h hE hT hk,zP2 h hE hT hk hc eM aR hd,d3',kE h hE hT (by omega) d2,kE h hE hT (by omega) d2,←zNS (by omega),zIm (by omega),zIm (by omega),tO,tO (u:=tv m.Prime D m T tr2)]
   ·have g4:a+1=yI x l:=by omega
    have p7:=jO h hk;have pC:=sX h p7 hk;have aV:∀b∈nw 0 (x.zU.getD l [])++cwd x l (nw (l+1) y1).reverse,l+1≤b∧b<x.zA.length:=fun b hb=>by
     simp only[Je]at hb;rcases hb with hb|hb
     ·exact pC.2 b hb
     ·exact p9 b hb
    obtain⟨tr2,y2,d1,d2,d3⟩:=zP5 hk P z eM 0 (by omega) _ aV;rw[Hm,Jx,Jb]at d1;have k3:Col x l (J1 (a+1) l++(cwd x l (nw (l+1) y1).reverse++z)) ((l,cwd x l (nw (l+1) y1).reverse++z)::tr2) (nw l y2):=by
     refine .step (fun b hb=>?_) (by rw[g4];exact zWZ (zK4 h hk) _) d1;simp only[Je]at hb;rcases hb with hb|hb|hb
     ·have:=Kc hb;omega
     ·have:=p9 b hb;omega
     ·exact eM b hb
    refine⟨_,y2,k1.trans (k2.trans k3),d2,fun D m T hE hT hc=>?_⟩;have hp:=hE.m.p.pos;have t6:=zD8 h hE hT (k:=l+1) (by omega) c2 (xP (p:=m.Prime) (D:=D) (by omega));have g3:(a:Int)+1=at0 x.zA l:=by have:a+1=(at0 x.zA l).toNat:=g4;omega
    have hF:=foV D m T hE hT hc;have hd:=zNR (D:=D) (x:=x) (m:=m) (T:=T) (k:=l) (by omega) (nw (l+1) y1).reverse;have ey:=zCg h hE hT hk;have cx:V (suf x (l+1)) ((x.zU.getD l []).drop (l+1)):=jT p7 hk;have pK:=zD8 h hE hT (k:=l+1) (by omega) cx (xP (p:=m.Prime) (D:=D) (by omega));have hw:(lvl (exx D x m T) l).w=adK m.Prime D (x.zA.length-(l+1)) ((x.zU.getD l []).drop (l+1)++zeros D) (T.getD l []):=by rw[zIc h hE hT hk,kE h hE hT (by omega) cx,uB ey];rfl
    have fX:=zQ3 h hE hT hk;have hFw:=zQ4 h hE hT hk aV (zNQ h hE hT (by omega));have em:mul (suf (exx D x m T) (l+1)) (lvl (exx D x m T) l).w (fo (exx D x m T) (l+1) (zeros ((exx D x m T).zA.length-(l+1))) (cwd x l (nw (l+1) y1).reverse))=adK m.Prime D (x.zA.length-(l+1)) (fo (exx D x m T) (l+1) (zeros ((exx D x m T).zA.length-(l+1))) (nw 0 (x.zU.getD l [])++cwd x l (nw (l+1) y1).reverse)) (wC m.Prime D (T.getD l []) (wM m.Prime D m.zG (cwd x l (nw (l+1) y1).reverse) (idM D))):=by rw[←zIr h hE hT hk hc p9 fX,hw,zTg h hE hT hk hc p9 pK ey,←zIp h hE hT _ (l+1) (by omega:l+1+(x.zA.length-(l+1))=x.zA.length) hc _ cx,←zCV,←pC.1]
    have aR:V (suf (exx D x m T) l) ((0:Int)::fo (exx D x m T) (l+1) (zeros ((exx D x m T).zA.length-(l+1))) (nw 0 (x.zU.getD l [])++cwd x l (nw (l+1) y1).reverse)):=by rw[yE (x:=exx D x m T) (by rw[wI h hE hT];omega)];refine⟨⟨by omega,?_⟩,hFw⟩;show(0:Int)<at0 (exx D x m T).zA l;rw[tG h hE hT hk];omega
    have d3':=d3 D m T hE hT hc;rw[show(((0:Nat):Int))=0 from rfl]at d3';rw[val D m T hE hT hc,zGv h hE hT hk hc t6,if_pos (by omega),zP4 h hE hT hk hc c2,zMu h hE hT hk hc hF hd fX,em,zXa h hE hT (by omega) hFw,g3,Int.sub_self,←zAV h hE hT hk,zP2 h hE hT hk hc eM aR (qG (by omega)),d3',kE h hE hT (by omega) d2,kE h hE hT (by omega) d2,zFj,←zNS (by omega),←zFk (by omega),zIm (by omega),zIm (by omega)];show y2++adv m.Prime D (adv m.Prime D (tv m.Prime D m T tr2) (adv m.Prime D _ _)) _=y2++adv m.Prime D _ (adv m.Prime D _ (adv m.Prime D _ (tv m.Prime D m T tr2)));rw[tO,tO (u:=tv m.Prime D m T tr2),tO (u:=wC m.Prime D (T.getD l []) _),zDx]
theorem zVE:∀(d k:Nat),k+d=x.zA.length→ ∀z:List Nat,(∀a∈z,k≤a∧a<x.zA.length)→ ∃tr y,qO x k z tr y
 |0,k,hk,z,hz=>by
  have:z=[]:=by
   cases z with
   |nil=>rfl
   |cons a z=>have:=hz a (by simp);omega
  subst this;refine⟨[],[],.refl _,by rw[vX (x:=x) (k:=k) (by omega)];rfl,fun D m T hE hT _=>?_⟩;show zeros _=[]++zeros D;rw[zIo h hE hT (by omega),show x.zA.length-k=0 from by omega];rfl
 |d+1,k,hk,z,hz=>by have ho:=zK4 h (show k<x.zA.length by omega);obtain⟨tr,y,c1,c2,c3⟩:=zP5 h (by omega) (zVE d (k+1) (by omega)) z hz 0 (by omega) [] (by simp);refine⟨tr,y,by grind,c2,fun D m T hE hT hc=>?_⟩;rw[←c3 D m T hE hT hc];have hl:=wI h hE hT;rw[show(exx D x m T).zA.length-k=(exx D x m T).zA.length-(k+1)+1 from by omega];rfl
end
end Go.Pl

namespace Go.Pl
open Go Go.Ab Go.Wk Go.Pc
section
variable {D:Nat}{x:SPr}{m:zB}{T:Mx} (h:Pres x) (hE:ExB x.zA.length D x m T) (hT:∀i,i<T.length→Row m.Prime D (T.getD i []))
 include h hE hT
variable {k:Nat} (hk:k<x.zA.length) (hc:wR (suf (exx D x m T) (k+1)))
 include hk hc
theorem zGI{w1 w2:List Nat}{t1 t2:List (Nat×List Nat)}{y1 y2:Vec}(k1:qO x k w1 t1 y1)(k2:qO x k w2 t2 y2){r1 r2:Nat}{s1 s2:List Nat}{b:Int}{A1 A2:Vec}(hA1:V (suf (exx D x m T) (k+1)) A1)(hA2:V (suf (exx D x m T) (k+1)) A2)
  (v1:fo (exx D x m T) k (zeros ((exx D x m T).zA.length-k)) w1=b::A1)(v2:fo (exx D x m T) k (zeros ((exx D x m T).zA.length-k)) w2=b::A2)
  (ey:(adK m.Prime D (x.zA.length-(k+1)) A1 (wC m.Prime D (T.getD r1 []) (wM m.Prime D m.zG s1 (idM D)))).take (x.zA.length-(k+1))=(adK m.Prime D (x.zA.length-(k+1)) A2 (wC m.Prime D (T.getD r2 []) (wM m.Prime D m.zG s2 (idM D)))).take (x.zA.length-(k+1))):
  tv m.Prime D m T ((r1,s1)::t1)=tv m.Prime D m T ((r2,s2)::t2)↔adK m.Prime D (x.zA.length-(k+1)) A1 (wC m.Prime D (T.getD r1 []) (wM m.Prime D m.zG s1 (idM D)))=adK m.Prime D (x.zA.length-(k+1)) A2 (wC m.Prime D (T.getD r2 []) (wM m.Prime D m.zG s2 (idM D))):=by
 have _:=hA1;have _:=hA2;have key:∀(w:List Nat)(t:List (Nat×List Nat))(y:Vec)(A:Vec)(r:Nat)(s:List Nat),qO x k w t y→fo (exx D x m T) k (zeros ((exx D x m T).zA.length-k)) w=b::A→
   b::adK m.Prime D (x.zA.length-(k+1)) A (wC m.Prime D (T.getD r []) (wM m.Prime D m.zG s (idM D)))=y++tv m.Prime D m T ((r,s)::t):=by
  intro w t y A r s kc v;rw[←zAV h hE hT hk,←v,kc.val D m T hE hT hc,kE h hE hT (by omega) kc.v,tO];rfl
 have e1:=key w1 t1 y1 A1 r1 s1 k1 v1;have e2:=key w2 t2 y2 A2 r2 s2 k2 v2;have l1:=vC h (by omega) k1.v;have l2:=vC h (by omega) k2.v;have hy:y1=y2:=by
  have a1:=congrArg (Jbc (x.zA.length-(k+1)+1)) e1;have a2:=congrArg (Jbc (x.zA.length-(k+1)+1)) e2
  grind
 subst hy;constructor
 all_goals grind[List.append_cancel_left]
theorem zEw{v:List Nat}(hv:∀a∈v,k+1≤a∧a<x.zA.length){z:List Nat}:fo (exx D x m T) k (zeros ((exx D x m T).zA.length-k)) (v++k::z)=fo (exx D x m T) k ((1:Int)::sig (suf (exx D x m T) (k+1)) (lvl (exx D x m T) k) (fo (exx D x m T) (k+1) (zeros ((exx D x m T).zA.length-(k+1))) v)) z:=by
 have ho:=(h.os.2 k hk).pos;have hl:=wI h hE hT;have hF:=zQ4 h hE hT hk hv (zNQ h hE hT (by omega));rw[show zeros ((exx D x m T).zA.length-k)=0::zeros ((exx D x m T).zA.length-(k+1))from by rw[show(exx D x m T).zA.length-k=(exx D x m T).zA.length-(k+1)+1 from by omega];rfl,zCV,zIq h hE hT hk hc (by omega) v _ hv,sM,zGv h hE hT hk hc hF,if_neg (by omega)];rfl
 omit hc in
theorem zFl{y:Vec}(hy:V (suf x (k+1)) y):sig (suf (exx D x m T) (k+1)) (lvl (exx D x m T) k) (y++zeros D)=(nw (k+1) y).foldl (fun acc j=>mul (suf (exx D x m T) (k+1)) acc ((lvl (exx D x m T) k).cs.getD (j-(k+1)) [])) (zeros ((exx D x m T).zA.length-(k+1))):=by
  have hp:=hE.m.p.pos;have ex:=vC h (by omega) hy;rw[zCf h hE hT hk hy (xP (by omega)),zAI];obtain⟨y1,u1,e,fh,cB⟩:=(sL h hE hT (x.zA.length-(k+1)) (k+1) (by omega) _).1 (zIe h hE hT hk (y:=y));have gM:=vC h (by omega) fh;rw[e,Ju gM,K7 gM,zAH cB,←e];unfold sgG;rw[yP];refine zIn _ (fun j=>(lvl (exx D x m T) k).cs.getD (j-(k+1)) []) [] _ _ _ _ (fun j hj=>?_) (by grind[tX])
  grind[zCe]
 omit hc in
theorem zMx{j:Nat}(h1:k+1≤j)(h2:j<x.zA.length):V (suf (exx D x m T) (k+1)) ((lvl (exx D x m T) k).cs.getD (j-(k+1)) []):=by
  have gE:V (suf x (k+1)) ((lcj x k j).drop (k+1)):=by grind[jT,uL]
  rw[zIg h hE hT hk h1 h2,show(lvl x k).cs.getD (j-(k+1)) []=(lcj x k j).drop (k+1)from map_drop]
  grind[zD8,zDQ]
theorem zMy:∀{v:List Nat},(∀a∈v,k+1≤a∧a<x.zA.length)→ ∀{e f:Vec},V (suf (exx D x m T) (k+1)) e→V (suf (exx D x m T) (k+1)) f→v.foldl (fun acc j=>mul (suf (exx D x m T) (k+1)) acc ((lvl (exx D x m T) k).cs.getD (j-(k+1)) [])) (mul (suf (exx D x m T) (k+1)) e f)=mul (suf (exx D x m T) (k+1)) e (v.foldl (fun acc j=>mul (suf (exx D x m T) (k+1)) acc ((lvl (exx D x m T) k).cs.getD (j-(k+1)) [])) f)
 | [],_,_,_,_,_=>rfl
 |a::w,hw,e,f,he,hf=>by have gC:=uF h hE hT (k:=k+1) (by omega);have G:=(zCF _ gC hc).toMon;have hg:=zMx h hE hT hk (hw a (by simp)).1 (hw a (by simp)).2;simp only[Ge];rw[G.assoc he hf hg,zMy (by grind) he (G.cl hf hg)]
theorem csE{j:Nat}(h1:k+1≤j)(h2:j<x.zA.length):V (suf x (k+1)) ((lcj x k j).drop (k+1))∧(lvl (exx D x m T) k).cs.getD (j-(k+1)) []=adK m.Prime D (x.zA.length-(k+1)) ((lcj x k j).drop (k+1)++zeros D) (T.getD (base x.zA.length k+(j-(k+1))) [])∧
  fo (exx D x m T) (k+1) (zeros ((exx D x m T).zA.length-(k+1))) (nw 0 (lcj x k j))=(lcj x k j).drop (k+1)++zeros D∧(∀a∈nw 0 (lcj x k j),k+1≤a∧a<x.zA.length):=by
 have gE:V (suf x (k+1)) ((lcj x k j).drop (k+1)):=by grind[jT,uL]
 have cU:=sX h (uL h (show k<j by omega) h2) hk;refine⟨gE,?_,?_,cU.2⟩
 ·rw[zIg h hE hT hk h1 h2,show(lvl x k).cs.getD (j-(k+1)) []=(lcj x k j).drop (k+1)from map_drop,kE h hE hT (by omega) gE,uB (zDQ h hE hT (by omega) h2)]
 ·rw[cU.1];exact zIp h hE hT _ (k+1) (by omega:k+1+(x.zA.length-(k+1))=x.zA.length) hc _ gE
theorem wE:V (suf x (k+1)) ((x.zU.getD k []).drop (k+1))∧(lvl (exx D x m T) k).w=adK m.Prime D (x.zA.length-(k+1)) ((x.zU.getD k []).drop (k+1)++zeros D) (T.getD k [])∧
  fo (exx D x m T) (k+1) (zeros ((exx D x m T).zA.length-(k+1))) (nw 0 (x.zU.getD k []))=(x.zU.getD k []).drop (k+1)++zeros D∧(∀a∈nw 0 (x.zU.getD k []),k+1≤a∧a<x.zA.length):=by
 have cx:V (suf x (k+1)) ((x.zU.getD k []).drop (k+1)):=jT (jO h hk) hk;have pC:=sX h (jO h hk) hk;refine⟨cx,?_,?_,pC.2⟩
 ·rw[zIc h hE hT hk,kE h hE hT (by omega) cx,uB (zCg h hE hT hk)];rfl
 ·rw[pC.1];exact zIp h hE hT _ (k+1) (by omega:k+1+(x.zA.length-(k+1))=x.zA.length) hc _ cx
 omit hc in
theorem zK6{a:Nat}(ha:a<x.zA.length):wM m.Prime D m.zG [a] (idM D)=m.zG.getD a []:=by have _:=h;have _:=hT;have _:=hk;show PM m.Prime D (idM D) (m.zG.getD a [])=_;exact zBV (hE.m.mat a ha)
theorem zXd(hL:LC x k){t1 t2:List (Nat×List Nat)}{y1 y2:Vec}(k1:qO x k (nw 0 (x.zU.getD k [])++[k]) t1 y1)(k2:qO x k (k::nw 0 (x.zU.getD k [])) t2 y2):
  tv m.Prime D m T ((k,[k])::t1)=tv m.Prime D m T ((k,[])::t2)↔sig (suf (exx D x m T) (k+1)) (lvl (exx D x m T) k) (lvl (exx D x m T) k).w=(lvl (exx D x m T) k).w:=by
 have hp:=hE.m.p.pos;have ho:=(h.os.2 k hk).pos;obtain⟨w1,w2,w3,w4⟩:=wE h hE hT hk hc;have ey:=zCg h hE hT hk;have pK:=zD8 h hE hT (k:=k+1) (by omega) w1 (xP (p:=m.Prime) (D:=D) (by omega));have fX:=zQ3 h hE hT hk;have v1:=zEw h hE hT hk hc w4 (z:=[]);rw[w3]at v1;have v2:=zEw h hE hT hk hc (v:=[]) (by simp) (z:=nw 0 (x.zU.getD k []));have hz:fo (exx D x m T) (k+1) (zeros ((exx D x m T).zA.length-(k+1))) []=zeros ((exx D x m T).zA.length-(k+1)):=rfl;have hs:sig (suf (exx D x m T) (k+1)) (lvl (exx D x m T) k) (zeros ((exx D x m T).zA.length-(k+1)))=zeros ((exx D x m T).zA.length-(k+1)):=by grind[sig,qD,yP]
 rw[hz,hs,zIq h hE hT hk hc (by omega) _ _ w4,w3]at v2;have e1:adK m.Prime D (x.zA.length-(k+1)) (sig (suf (exx D x m T) (k+1)) (lvl (exx D x m T) k) ((x.zU.getD k []).drop (k+1)++zeros D)) (wC m.Prime D (T.getD k []) (wM m.Prime D m.zG [k] (idM D)))=sig (suf (exx D x m T) (k+1)) (lvl (exx D x m T) k) (lvl (exx D x m T) k).w:=by grind[zK6,zIl]
 have e2:adK m.Prime D (x.zA.length-(k+1)) ((x.zU.getD k []).drop (k+1)++zeros D) (wC m.Prime D (T.getD k []) (wM m.Prime D m.zG [] (idM D)))=(lvl (exx D x m T) k).w:=by rw[show wM m.Prime D m.zG [] (idM D)=idM D from rfl,jN ey,w2]
 have:=zGI h hE hT hk hc k1 k2 (r1:=k) (r2:=k) (s1:=[k]) (s2:=[]) (zAJ h hE hT hk pK) pK v1 v2 (by rw[e1,e2,zEt h hE hT hk fX,zIc h hE hT hk,Ju (by have:=vC h (by omega) w1;exact this)];exact hL.c3)
 grind
end
end Go.Pl

namespace Go.Pl
open Go Go.Ab Go.Wk Go.Pc
theorem zXe:∀(a o:Nat)(b:Int)(c:Vec),nw o (zeros a++b::c)=J1 b.toNat (o+a)++nw (o+a+1) c
 |0,o,b,c=>rfl
 |a+1,o,b,c=>by rw[show zeros (a+1)++b::c=0::(zeros a++b::c)from rfl];simp only[nw,Gz,Hm,Jx];rw[zXe a (o+1) b c,show o+1+a=o+(a+1)from by omega]
theorem zK7{os v:List Int}{j k:Nat}(hv:Exp os v j)(hk:k≤j):Exp os v k:=⟨hv.1,fun i hi=>hv.2 i (by omega)⟩
section
variable {x:SPr} (h:Pres x)
 include h
theorem zXf:∀(a k:Nat){b:Int}{c:Vec},k+a<x.zA.length→0≤b→b<at0 x.zA (k+a)→V (suf x (k+a+1)) c→V (suf x k) (zeros a++b::c)
 |0,k,b,c,ha,h0,h1,hc=>by rw[yE (x:=x) (by omega)];exact⟨⟨h0,h1⟩,hc⟩
 |a+1,k,b,c,ha,h0,h1,hc=>by
  have:=(h.os.2 k (by omega)).pos;rw[yE (x:=x) (by omega)];refine⟨⟨Int.le_refl 0,?_⟩,?_⟩
  ·show(0:Int)<at0 x.zA k
   omega
  ·exact zXf a (k+1) (by omega) h0 (by grind) (by grind)
end
section
variable {D:Nat}{x:SPr}{m:zB}{T:Mx} (h:Pres x) (hE:ExB x.zA.length D x m T) (hT:∀i,i<T.length→Row m.Prime D (T.getD i []))
 include h hE hT
variable {k:Nat} (hk:k<x.zA.length) (hc:wR (suf (exx D x m T) (k+1)))
 include hk hc
theorem zNT{j:Nat}(h1:k+1≤j)(h2:j<x.zA.length){b:Int}(h0:0≤b)(hb:b<at0 x.zA j){c:Vec}(pb:V (suf x (j+1)) c):V (suf x (k+1)) (zeros (j-(k+1))++b::c)∧nw (k+1) (zeros (j-(k+1))++b::c)=J1 b.toNat j++nw (j+1) c∧
  fo (exx D x m T) (k+1) (zeros ((exx D x m T).zA.length-(k+1))) (J1 b.toNat j++nw (j+1) c)=(zeros (j-(k+1))++b::c)++zeros D:=by
 have e:k+1+(j-(k+1))=j:=by omega
 have hv:V (suf x (k+1)) (zeros (j-(k+1))++b::c):=by grind[zXf]
 have hn:nw (k+1) (zeros (j-(k+1))++b::c)=J1 b.toNat j++nw (j+1) c:=by rw[zXe,e]
 refine⟨hv,hn,?_⟩;rw[←hn];exact zIp h hE hT _ (k+1) (by omega:k+1+(x.zA.length-(k+1))=x.zA.length) hc _ hv
theorem zP6{e:Vec}(he:V (suf (exx D x m T) (k+1)) e):mul (suf (exx D x m T) (k+1)) (zeros ((exx D x m T).zA.length-(k+1))) e=e:=by
 have G:=(zCF _ (uF h hE hT (k:=k+1) (by omega)) hc).toMon;have:=G.onel he
 grind[yP]
theorem zP7{j:Nat}(h1:k+1≤j)(h2:j<x.zA.length):fo (exx D x m T) (k+1) (zeros ((exx D x m T).zA.length-(k+1))) [j]=xN ((exx D x m T).zA.length-(k+1)) (j-(k+1))∧sig (suf (exx D x m T) (k+1)) (lvl (exx D x m T) k) (xN ((exx D x m T).zA.length-(k+1)) (j-(k+1)))=(lvl (exx D x m T) k).cs.getD (j-(k+1)) []:=by
 have ho:=(h.os.2 j h2).pos;have hz:V (suf x (j+1)) (zeros (x.zA.length-(j+1))):=by have:=wP (h.okAt (k:=j+1) (by omega));grind[yP]
 obtain⟨v1,v2,v3⟩:=zNT h hE hT hk hc h1 h2 (b:=1) (by omega) (by omega) hz;have hn:nw (j+1) (zeros (x.zA.length-(j+1)))=[]:=zCU _ _;rw[hn]at v2 v3;have hf:fo (exx D x m T) (k+1) (zeros ((exx D x m T).zA.length-(k+1))) [j]=xN ((exx D x m T).zA.length-(k+1)) (j-(k+1)):=zP6 h hE hT hk hc (zCW h hE hT h1 h2);refine⟨hf,?_⟩;rw[←hf];have v3':fo (exx D x m T) (k+1) (zeros ((exx D x m T).zA.length-(k+1))) [j]=_:=v3
 grind[zFl,zP6,zMx]
theorem zXg(hL:LC x k){j:Nat}(h1:k+1≤j)(h2:j<x.zA.length){t1 t2:List (Nat×List Nat)}{y1 y2:Vec}(k1:qO x k (nw 0 (x.zU.getD j [])++[k]) t1 y1)(k2:qO x k (J1 (yI x j-1) j++k::nw 0 (lcj x k j)) t2 y2):
  tv m.Prime D m T ((j,[k])::t1)=tv m.Prime D m T ((base x.zA.length k+(j-(k+1)),[])::t2)↔c1E (exx D x m T) k j:=by
 have hp:=hE.m.p.pos;have ho:=(h.os.2 k hk).pos;have hj:=(h.os.2 j h2).pos;have p7:=zK7 (jO h h2) (show k≤j by omega);have cx:V (suf x (k+1)) ((x.zU.getD j []).drop (k+1)):=jT p7 hk;have pC:=sX h p7 hk;have tw:=zCg h hE hT h2;have pK:=zD8 h hE hT (k:=k+1) (by omega) cx (xP (p:=m.Prime) (D:=D) (by omega));obtain⟨c1,c2,c3,c4⟩:=csE h hE hT hk hc h1 h2;have cJ:=zD8 h hE hT (k:=k+1) (by omega) c1 (xP (p:=m.Prime) (D:=D) (by omega));have hcV:=zMx h hE hT hk h1 h2;have ey:=zDQ h hE hT (show k<j by omega) h2;have mz:V (suf x (j+1)) (zeros (x.zA.length-(j+1))):=by have:=wP (h.okAt (k:=j+1) (by omega));rwa [yP]at this
 obtain⟨u1,u2,u3⟩:=zNT h hE hT hk hc h1 h2 (b:=at0 x.zA j-1) (by omega) (by omega) mz;rw[zCU,Jd,show(at0 x.zA j-1).toNat=yI x j-1 from by show _=(at0 x.zA j).toNat-1;omega]at u2 u3;have gC:=uF h hE hT (k:=k+1) (by omega);have G:=(zCF _ gC hc).toMon;have v1:=zEw h hE hT hk hc pC.2 (z:=[]);rw[pC.1,zIp h hE hT _ (k+1) (by omega:k+1+(x.zA.length-(k+1))=x.zA.length) hc _ cx,←pC.1]at v1;have hr:∀a∈J1 (yI x j-1) j,k+1≤a∧a<x.zA.length:=fun a ha=>by have:=Kc ha;omega
 have v2:=zEw h hE hT hk hc hr (z:=nw 0 (lcj x k j));have dY:∀q(e:Vec),(J1 q j).foldl (fun acc j=>mul (suf (exx D x m T) (k+1)) acc ((lvl (exx D x m T) k).cs.getD (j-(k+1)) [])) e=iter q (fun v=>mul (suf (exx D x m T) (k+1)) v ((lvl (exx D x m T) k).cs.getD (j-(k+1)) [])) e:=by
  intro q
  induction q with
  |zero=>intro e;rfl
  |succ q ih=>intro e;rw[Jq,Ge,ih];rfl
 have hpq:sig (suf (exx D x m T) (k+1)) (lvl (exx D x m T) k) (fo (exx D x m T) (k+1) (zeros ((exx D x m T).zA.length-(k+1))) (J1 (yI x j-1) j))=pw (mul (suf (exx D x m T) (k+1))) (zeros (suf (exx D x m T) (k+1)).length) ((lvl (exx D x m T) k).cs.getD (j-(k+1)) []) (yI x j-1):=by rw[u3,zFl h hE hT hk u1,u2,dY,yP];rfl
 have u8:V (suf (exx D x m T) (k+1)) (pw (mul (suf (exx D x m T) (k+1))) (zeros (suf (exx D x m T) (k+1)).length) ((lvl (exx D x m T) k).cs.getD (j-(k+1)) []) (yI x j-1)):=tS G hcV _;rw[hpq,zIq h hE hT hk hc (by omega) _ _ c4,zIr h hE hT hk hc c4 u8,c3]at v2;have e1:adK m.Prime D (x.zA.length-(k+1)) (sig (suf (exx D x m T) (k+1)) (lvl (exx D x m T) k) ((x.zU.getD j []).drop (k+1)++zeros D)) (wC m.Prime D (T.getD j []) (wM m.Prime D m.zG [k] (idM D)))=sig (suf (exx D x m T) (k+1)) (lvl (exx D x m T) k) (((exx D x m T).zU.getD j []).drop (k+1)):=by rw[zK6 h hE hT hk hk,zEr h hE hT (by omega) h2,←zIl h hE hT hk pK tw,kE h hE hT (by omega) cx,uB tw]
 have e2:adK m.Prime D (x.zA.length-(k+1)) (mul (suf (exx D x m T) (k+1)) (pw (mul (suf (exx D x m T) (k+1))) (zeros (suf (exx D x m T) (k+1)).length) ((lvl (exx D x m T) k).cs.getD (j-(k+1)) []) (yI x j-1)) ((lcj x k j).drop (k+1)++zeros D)) (wC m.Prime D (T.getD (base x.zA.length k+(j-(k+1))) []) (wM m.Prime D m.zG [] (idM D)))=pw (mul (suf (exx D x m T) (k+1))) (zeros (suf (exx D x m T) (k+1)).length) ((lvl (exx D x m T) k).cs.getD (j-(k+1)) []) (at0 (exx D x m T).zA j).toNat:=by
  rw[show wM m.Prime D m.zG [] (idM D)=idM D from rfl,jN ey,←zMu h hE hT hk hc cJ ey u8,←c2,tG h hE hT h2,show(at0 x.zA j).toNat=(yI x j-1)+1 from by show _=(at0 x.zA j).toNat-1+1;omega]
  conv=>rhs;rw[pw,vG]
  rfl
 have eK:V (suf (exx D x m T) (k+1)) (((exx D x m T).zU.getD j []).drop (k+1)):=by rw[zEr h hE hT (by omega) h2];exact zD8 h hE hT (by omega) cx tw
 have:=zGI h hE hT hk hc k1 k2 (r1:=j) (r2:=base x.zA.length k+(j-(k+1))) (s1:=[k]) (s2:=[]) (zAJ h hE hT hk pK) (xG gC u8 cJ) v1 v2 (by rw[e1,e2,zEt h hE hT hk eK,zIk h hE hT hk (by omega) h2,zWY h hE hT (by omega) hcV,zJ2 h hE hT hk h1 h2,tG h hE hT h2];exact(hL.c1 j h1 h2).symm)
 rw[e1,e2]at this;rw[this];exact eq_comm
theorem zXh(hL:LC x k){i j:Nat}(h1:k+1≤i)(gO:i<j)(h2:j<x.zA.length){t1 t2:List (Nat×List Nat)}{y1 y2:Vec}(k1:qO x k (i::(nw 0 (lcj x i j)++[k])) t1 y1)(k2:qO x k (j::k::nw 0 (lcj x k i)) t2 y2):
  tv m.Prime D m T ((base x.zA.length i+(j-(i+1)),[k])::t1)=tv m.Prime D m T ((base x.zA.length k+(i-(k+1)),[])::t2)↔c2E (exx D x m T) k i j:=by
 have hp:=hE.m.p.pos;have ho:=(h.os.2 k hk).pos;have hi:=(h.os.2 i (by omega)).pos;have bm:=uL h gO h2;have de:=zK7 bm (show k≤i by omega);have bT:V (suf x (k+1)) ((lcj x i j).drop (k+1)):=jT de hk;have hci:V (suf x (i+1)) ((lcj x i j).drop (i+1)):=jT bm (by omega);have hn:=sX h de hk;have hni:=sX h bm (by omega);have tx:=zDQ h hE hT gO h2;have di:=zD8 h hE hT (k:=k+1) (by omega) bT (xP (p:=m.Prime) (D:=D) (by omega));obtain⟨c1,c2,c3,c4⟩:=csE h hE hT hk hc h1 (show i<x.zA.length by omega);have cJ:=zD8 h hE hT (k:=k+1) (by omega) c1 (xP (p:=m.Prime) (D:=D) (by omega));have ct:=zMx h hE hT hk h1 (show i<x.zA.length by omega);have m9:=zMx h hE hT hk (show k+1≤j by omega) h2;have ey:=zDQ h hE hT (show k<i by omega) (show i<x.zA.length by omega);have gC:=uF h hE hT (k:=k+1) (by omega);obtain⟨u1,u2,u3⟩:=zNT h hE hT hk hc h1 (show i<x.zA.length by omega) (b:=1) (by omega) (by omega) hci;rw[←hni.1,show J1 (1:Int).toNat i++nw 0 (lcj x i j)=i::nw 0 (lcj x i j)from rfl]at u2 u3;have hr:∀a∈i::nw 0 (lcj x i j),k+1≤a∧a<x.zA.length:=fun a ha=>by
  simp only[J8]at ha;rcases ha with rfl|ha
  ·omega
  ·exact hn.2 a ha
 have v1:=zEw h hE hT hk hc hr (z:=[]);have es:sig (suf (exx D x m T) (k+1)) (lvl (exx D x m T) k) (fo (exx D x m T) (k+1) (zeros ((exx D x m T).zA.length-(k+1))) (i::nw 0 (lcj x i j)))=mul (suf (exx D x m T) (k+1)) ((lvl (exx D x m T) k).cs.getD (i-(k+1)) []) (sig (suf (exx D x m T) (k+1)) (lvl (exx D x m T) k) ((lcj x i j).drop (k+1)++zeros D)):=by rw[u3,zFl h hE hT hk u1,u2,Ge,zP6 h hE hT hk hc ct,zFl h hE hT hk bT,←hn.1];have:=zMy h hE hT hk hc hn.2 ct (zNQ h hE hT (k:=k+1) (by omega));rw[zY6 h hE hT (by omega) ct]at this;exact this
 rw[es]at v1;have v2:=zEw h hE hT hk hc (v:=[j]) (fun a ha=>by simp only[List.mem_singleton]at ha;omega) (z:=nw 0 (lcj x k i));obtain⟨g1,g2⟩:=zP7 h hE hT hk hc (show k+1≤j by omega) h2;rw[g1,g2,zIq h hE hT hk hc (by omega) _ _ c4,zIr h hE hT hk hc c4 m9,c3]at v2;have cZ:=zAJ h hE hT hk di;have eG:((((exx D x m T).zF.getD i []).getD (j-(i+1)) []).drop (k+1))=adK m.Prime D (x.zA.length-(k+1)) ((lcj x i j).drop (k+1)++zeros D) (T.getD (base x.zA.length i+(j-(i+1))) []):=by rw[zFT h hE hT (by omega) gO h2,kE h hE hT (by omega) bT,uB tx]
 have e1:adK m.Prime D (x.zA.length-(k+1)) (mul (suf (exx D x m T) (k+1)) ((lvl (exx D x m T) k).cs.getD (i-(k+1)) []) (sig (suf (exx D x m T) (k+1)) (lvl (exx D x m T) k) ((lcj x i j).drop (k+1)++zeros D))) (wC m.Prime D (T.getD (base x.zA.length i+(j-(i+1))) []) (wM m.Prime D m.zG [k] (idM D)))=mul (suf (exx D x m T) (k+1)) ((lvl (exx D x m T) k).cs.getD (i-(k+1)) []) (sig (suf (exx D x m T) (k+1)) (lvl (exx D x m T) k) ((((exx D x m T).zF.getD i []).getD (j-(i+1)) []).drop (k+1))):=by rw[zK6 h hE hT hk hk,←zMu h hE hT hk hc cZ (vB (by omega)) ct,←zIl h hE hT hk di tx,←eG]
 have e2:adK m.Prime D (x.zA.length-(k+1)) (mul (suf (exx D x m T) (k+1)) ((lvl (exx D x m T) k).cs.getD (j-(k+1)) []) ((lcj x k i).drop (k+1)++zeros D)) (wC m.Prime D (T.getD (base x.zA.length k+(i-(k+1))) []) (wM m.Prime D m.zG [] (idM D)))=mul (suf (exx D x m T) (k+1)) ((lvl (exx D x m T) k).cs.getD (j-(k+1)) []) ((lvl (exx D x m T) k).cs.getD (i-(k+1)) []):=by rw[show wM m.Prime D m.zG [] (idM D)=idM D from rfl,jN ey,←zMu h hE hT hk hc cJ ey m9,←c2]
 have aL:V (suf (exx D x m T) (k+1)) ((((exx D x m T).zF.getD i []).getD (j-(i+1)) []).drop (k+1)):=by rw[eG];exact zY7 h hE hT (by omega) di
 have:=zGI h hE hT hk hc k1 k2 (r1:=base x.zA.length i+(j-(i+1))) (r2:=base x.zA.length k+(i-(k+1))) (s1:=[k]) (s2:=[]) (xG gC ct cZ) (xG gC m9 cJ) v1 v2 (by rw[e1,e2,zCi h hE hT (by omega) ct (zAJ h hE hT hk aL),zCi h hE hT (by omega) m9 ct,zEt h hE hT hk aL,zJ2 h hE hT hk h1 (by omega),zJ2 h hE hT hk (by omega) h2,zSX h hE hT hk h1 gO h2];exact(hL.c2 i h1 (by omega) j (by omega) h2).symm)
 rw[e1,e2]at this;rw[this];exact eq_comm
end
end Go.Pl

namespace Go.Pl
open Go Go.Ab Go.Wk Go.Pc
section
variable {D:Nat}{x:SPr}{m:zB}{T:Mx} (h:Pres x) (hE:ExB x.zA.length D x m T) (hT:∀i,i<T.length→Row m.Prime D (T.getD i []))
 include h hE hT
variable {k:Nat} (hk:k<x.zA.length) (hc:wR (suf (exx D x m T) (k+1)))
 include hk hc
 omit hc in
theorem zNU:∀(q:Nat){e:Vec},V (suf (exx D x m T) (k+1)) e→V (suf (exx D x m T) (k+1)) (iter q (sig (suf (exx D x m T) (k+1)) (lvl (exx D x m T) k)) e)
  |0,_,he=>he
  |q+1,_,he=>zNU q (zAJ h hE hT hk he)
 omit hc in
theorem zXi:∀(q:Nat){e d:Vec},V (suf (exx D x m T) (k+1)) e→Row m.Prime D d→iter q (sig (suf (exx D x m T) (k+1)) (lvl (exx D x m T) k)) (adK m.Prime D (x.zA.length-(k+1)) e d)=adK m.Prime D (x.zA.length-(k+1)) (iter q (sig (suf (exx D x m T) (k+1)) (lvl (exx D x m T) k)) e) (wC m.Prime D d (wM m.Prime D m.zG (J1 q k) (idM D)))
  |0,e,d,_,hd=>by show adK _ _ _ e d=adK _ _ _ e (wC m.Prime D d (idM D));rw[jN hd]
  |q+1,e,d,he,hd=>by have hp:=hE.m.p.pos;show iter q _ (sig _ _ (adK _ _ _ e d))=adK _ _ _ (iter q _ (sig _ _ e)) _;rw[zIl h hE hT hk he hd,zXi q (zAJ h hE hT hk he) (vB (by omega)),Jq,show k::J1 q k=[k]++J1 q k from rfl,zFk (by omega),zK6 h hE hT hk hk]
theorem zTj:∀(q:Nat){c:Int}{e:Vec},0≤c→c+(q:Int)<at0 x.zA k→V (suf (exx D x m T) (k+1)) e→fo (exx D x m T) k (c::e) (J1 q k)=(c+(q:Int))::iter q (sig (suf (exx D x m T) (k+1)) (lvl (exx D x m T) k)) e
 |0,c,e,_,_,_=>by
  show c::e=(c+((0:Nat):Int))::e
  congr 1;omega
 |q+1,c,e,h0,h1,he=>by
  rw[Jq,sM,zGv h hE hT hk hc he,if_neg (by omega),zTj q (by omega) (by omega) (zAJ h hE hT hk he)];show(c+1+(q:Int))::iter q _ (sig _ _ e)=(c+((q+1:Nat):Int))::iter q _ (sig _ _ e)
  congr 1;omega
theorem zXj(hL:LC x k){j:Nat}(h1:k+1≤j)(h2:j<x.zA.length){t1 t2:List (Nat×List Nat)}{y1 y2:Vec}(k1:qO x k (k::(nw 0 (lcj x k j)++J1 (yI x k-1) k)) t1 y1)(k2:qO x k (j::nw 0 (x.zU.getD k [])) t2 y2):
  tv m.Prime D m T ((base x.zA.length k+(j-(k+1)),J1 (yI x k-1) k)::t1)=tv m.Prime D m T ((k,[])::t2)↔c4E (exx D x m T) k j:=by
 have hp:=hE.m.p.pos;have ho:=(h.os.2 k hk).pos;have hon:(yI x k:Int)=at0 x.zA k:=by show(((at0 x.zA k).toNat:Nat):Int)=_;omega
 obtain⟨w1,w2,w3,w4⟩:=wE h hE hT hk hc;have pK:=zD8 h hE hT (k:=k+1) (by omega) w1 (xP (p:=m.Prime) (D:=D) (by omega));have fX:=zQ3 h hE hT hk;have ey:=zCg h hE hT hk;obtain⟨c1,c2,c3,c4⟩:=csE h hE hT hk hc h1 h2;have cJ:=zD8 h hE hT (k:=k+1) (by omega) c1 (xP (p:=m.Prime) (D:=D) (by omega));have tw:=zDQ h hE hT (show k<j by omega) h2;have gC:=uF h hE hT (k:=k+1) (by omega);have hg:=zCW h hE hT h1 h2;obtain⟨g1,g2⟩:=zP7 h hE hT hk hc h1 h2;have hz:fo (exx D x m T) (k+1) (zeros ((exx D x m T).zA.length-(k+1))) []=zeros ((exx D x m T).zA.length-(k+1)):=rfl;have hs:sig (suf (exx D x m T) (k+1)) (lvl (exx D x m T) k) (zeros ((exx D x m T).zA.length-(k+1)))=zeros ((exx D x m T).zA.length-(k+1)):=by unfold sig;rw[qD,yP]
 have hl:=wI h hE hT;have v1:=zEw h hE hT hk hc (v:=[]) (fun a ha=>by simp at ha) (z:=nw 0 (lcj x k j)++J1 (yI x k-1) k);rw[hz,hs]at v1;have v0:=v1.trans (zCV (e:=exx D x m T) (k:=k) (u:=(1:Int)::zeros ((exx D x m T).zA.length-(k+1))) (v:=nw 0 (lcj x k j)) (w:=J1 (yI x k-1) k));rw[zIq h hE hT hk hc (by omega) _ _ c4,c3]at v0;have eg:=zNU h hE hT hk (yI x k-2) cJ;have v1':fo (exx D x m T) k (zeros ((exx D x m T).zA.length-k)) (k::(nw 0 (lcj x k j)++J1 (yI x k-1) k))=0::mul (suf (exx D x m T) (k+1)) (lvl (exx D x m T) k).w (iter (yI x k-1) (sig (suf (exx D x m T) (k+1)) (lvl (exx D x m T) k)) ((lcj x k j).drop (k+1)++zeros D)):=by
  refine v0.trans ?_;rw[show yI x k-1=(yI x k-2)+1 from by omega,Lw,zCV,zTj h hE hT hk hc (yI x k-2) (by omega) (by omega) cJ];show mul _ _ _=_;rw[zGv h hE hT hk hc eg,if_pos (by omega),vG]
  congr 1;omega
 have hr:∀a∈j::nw 0 (x.zU.getD k []),k+1≤a∧a<x.zA.length:=fun a ha=>by
  simp only[J8]at ha;rcases ha with rfl|ha
  ·omega
  ·exact w4 a ha
 have v2:fo (exx D x m T) k (zeros ((exx D x m T).zA.length-k)) (j::nw 0 (x.zU.getD k []))=0::mul (suf (exx D x m T) (k+1)) (xN ((exx D x m T).zA.length-(k+1)) (j-(k+1))) ((x.zU.getD k []).drop (k+1)++zeros D):=by rw[show zeros ((exx D x m T).zA.length-k)=0::zeros ((exx D x m T).zA.length-(k+1))from by rw[show(exx D x m T).zA.length-k=(exx D x m T).zA.length-(k+1)+1 from by omega];rfl,zIq h hE hT hk hc (by omega) _ _ hr,sM,zP6 h hE hT hk hc hg,zIr h hE hT hk hc w4 hg,w3]
 have e1:adK m.Prime D (x.zA.length-(k+1)) (mul (suf (exx D x m T) (k+1)) (lvl (exx D x m T) k).w (iter (yI x k-1) (sig (suf (exx D x m T) (k+1)) (lvl (exx D x m T) k)) ((lcj x k j).drop (k+1)++zeros D))) (wC m.Prime D (T.getD (base x.zA.length k+(j-(k+1))) []) (wM m.Prime D m.zG (J1 (yI x k-1) k) (idM D)))=mul (suf (exx D x m T) (k+1)) (lvl (exx D x m T) k).w (iter (lvl (exx D x m T) k).o.toNat (sig (suf (exx D x m T) (k+1)) (lvl (exx D x m T) k)) (xN ((exx D x m T).zA.length-(k+1)) (j-(k+1)))):=by rw[←zMu h hE hT hk hc (zNU h hE hT hk _ cJ) (vB (by omega)) fX,←zXi h hE hT hk _ cJ tw,←c2,←g2,zB9 h hE hT hk,show(at0 x.zA k).toNat=(yI x k-1)+1 from by show _=(at0 x.zA k).toNat-1+1;omega];rfl
 have e2:adK m.Prime D (x.zA.length-(k+1)) (mul (suf (exx D x m T) (k+1)) (xN ((exx D x m T).zA.length-(k+1)) (j-(k+1))) ((x.zU.getD k []).drop (k+1)++zeros D)) (wC m.Prime D (T.getD k []) (wM m.Prime D m.zG [] (idM D)))=mul (suf (exx D x m T) (k+1)) (xN ((exx D x m T).zA.length-(k+1)) (j-(k+1))) (lvl (exx D x m T) k).w:=by rw[show wM m.Prime D m.zG [] (idM D)=idM D from rfl,jN ey,←zMu h hE hT hk hc pK ey hg,←w2]
 have dw:(lvl (exx D x m T) k).w.take (x.zA.length-(k+1))=(lvl x k).w:=zIk h hE hT hk (Jg k) hk;have eZ:(xN (x.zA.length-(k+1)) (j-(k+1))).length=x.zA.length-(k+1):=by simp[xN,zeros]
 have:=zGI h hE hT hk hc k1 k2 (r1:=base x.zA.length k+(j-(k+1))) (r2:=k) (s1:=J1 (yI x k-1) k) (s2:=[]) (xG gC fX (zNU h hE hT hk _ cJ)) (xG gC hg pK) v1' v2 (by rw[e1,e2,zCi h hE hT (by omega) fX (zNU h hE hT hk _ hg),zCi h hE hT (by omega) hg fX,zKz h hE hT hk _ hg,dw,zSY h hE hT hk h1 h2,Ju eZ,zB9 h hE hT hk];exact hL.c4 j h1 h2)
 rw[e1,e2]at this;exact this
end
structure zK8 (x:SPr) (k:Nat) (r1:Nat) (s1 w1:List Nat) (r2:Nat) (s2 w2:List Nat) (t1 t2:List (Nat×List Nat)):Prop where
 a:∃u1 y1,t1=(r1,s1)::u1∧qO x k w1 u1 y1
 b:∃u2 y2,t2=(r2,s2)::u2∧qO x k w2 u2 y2
structure zXk (x:SPr) (D:Nat) (m:zB) (T:Mx):Prop where
 p1:∀k j,k<j→j<x.zA.length→ ∀t1 t2,zK8 x k j [k] (nw 0 (x.zU.getD j [])++[k]) (base x.zA.length k+(j-(k+1))) [] (J1 (yI x j-1) j++k::nw 0 (lcj x k j)) t1 t2→tv m.Prime D m T t1=tv m.Prime D m T t2
 p2:∀k i j,k<i→i<j→j<x.zA.length→ ∀t1 t2,zK8 x k (base x.zA.length i+(j-(i+1))) [k] (i::(nw 0 (lcj x i j)++[k])) (base x.zA.length k+(i-(k+1))) [] (j::k::nw 0 (lcj x k i)) t1 t2→tv m.Prime D m T t1=tv m.Prime D m T t2
 p3:∀k,k<x.zA.length→ ∀t1 t2,zK8 x k k [k] (nw 0 (x.zU.getD k [])++[k]) k [] (k::nw 0 (x.zU.getD k [])) t1 t2→tv m.Prime D m T t1=tv m.Prime D m T t2
 p4:∀k j,k<j→j<x.zA.length→ ∀t1 t2,zK8 x k (base x.zA.length k+(j-(k+1))) (J1 (yI x k-1) k) (k::(nw 0 (lcj x k j)++J1 (yI x k-1) k)) k [] (j::nw 0 (x.zU.getD k [])) t1 t2→tv m.Prime D m T t1=tv m.Prime D m T t2
end Go.Pl

namespace Go.Pl
open Go Go.Ab Go.Wk Go.Pc
section
variable {D:Nat}{x:SPr}{m:zB}{T:Mx} (h:Pres x) (hE:ExB x.zA.length D x m T) (hT:∀i,i<T.length→Row m.Prime D (T.getD i []))
 include h hE hT
theorem zJ3{k:Nat}(hk:k<x.zA.length)(hL:LC x k)(hc:wR (suf (exx D x m T) (k+1))):LCn x (exx D x m T) k↔
  (∀j,k<j→j<x.zA.length→ ∀t1 t2,zK8 x k j [k] (nw 0 (x.zU.getD j [])++[k]) (base x.zA.length k+(j-(k+1))) [] (J1 (yI x j-1) j++k::nw 0 (lcj x k j)) t1 t2→tv m.Prime D m T t1=tv m.Prime D m T t2)∧
  (∀i j,k<i→i<j→j<x.zA.length→ ∀t1 t2,zK8 x k (base x.zA.length i+(j-(i+1))) [k] (i::(nw 0 (lcj x i j)++[k])) (base x.zA.length k+(i-(k+1))) [] (j::k::nw 0 (lcj x k i)) t1 t2→tv m.Prime D m T t1=tv m.Prime D m T t2)∧
  (∀t1 t2,zK8 x k k [k] (nw 0 (x.zU.getD k [])++[k]) k [] (k::nw 0 (x.zU.getD k [])) t1 t2→tv m.Prime D m T t1=tv m.Prime D m T t2)∧
  (∀j,k<j→j<x.zA.length→ ∀t1 t2,zK8 x k (base x.zA.length k+(j-(k+1))) (J1 (yI x k-1) k) (k::(nw 0 (lcj x k j)++J1 (yI x k-1) k)) k [] (j::nw 0 (x.zU.getD k [])) t1 t2→tv m.Prime D m T t1=tv m.Prime D m T t2):=by
 have hC:=fun(w:List Nat)(hw:∀a∈w,k≤a∧a<x.zA.length)=>zVE h (x.zA.length-k) k (by omega) w hw
 have eG:∀i j,i<j→j<x.zA.length→ ∀a∈nw 0 (lcj x i j),i+1≤a∧a<x.zA.length:=fun i j hi hj=>(sX h (uL h hi hj) (by omega)).2
 have eK:∀i,i<x.zA.length→ ∀a∈nw 0 (x.zU.getD i []),i+1≤a∧a<x.zA.length:=fun i hi=>(sX h (jO h hi) hi).2
 constructor
 ·intro g
  refine⟨?_,?_,?_,?_⟩
  ·rintro j h1 h2 t1 t2 ⟨⟨u1,y1,rfl,k1⟩,⟨u2,y2,rfl,k2⟩⟩
   exact(zXg h hE hT hk hc hL (by omega) h2 k1 k2).2 (g.c1 j (by omega) h2)
  ·rintro i j h1 gO h2 t1 t2 ⟨⟨u1,y1,rfl,k1⟩,⟨u2,y2,rfl,k2⟩⟩
   exact(zXh h hE hT hk hc hL (by omega) gO h2 k1 k2).2 (g.c2 i (by omega) (by omega) j (by omega) h2)
  ·rintro t1 t2 ⟨⟨u1,y1,rfl,k1⟩,⟨u2,y2,rfl,k2⟩⟩
   exact(zXd h hE hT hk hc hL k1 k2).2 g.c3
  ·rintro j h1 h2 t1 t2 ⟨⟨u1,y1,rfl,k1⟩,⟨u2,y2,rfl,k2⟩⟩
   exact(zXj h hE hT hk hc hL (by omega) h2 k1 k2).2 (g.c4 j (by omega) h2)
 ·rintro⟨g1,g2,g3,g4⟩
  refine⟨fun j h1 h2=>?_,fun i h1 hi j gO h2=>?_,?_,fun j h1 h2=>?_⟩
  ·obtain⟨u1,y1,k1⟩:=hC (nw 0 (x.zU.getD j [])++[k]) (fun a ha=>by
    simp only[Je,List.mem_singleton]at ha;rcases ha with ha|rfl
    ·have:=eK j h2 a ha;omega
    ·omega)
   obtain⟨u2,y2,k2⟩:=hC (J1 (yI x j-1) j++k::nw 0 (lcj x k j)) (fun a ha=>by
    simp only[Je,J8]at ha;rcases ha with ha|rfl|ha
    ·have:=Kc ha;omega
    ·omega
    ·have:=eG k j (by omega) h2 a ha;omega)
   exact(zXg h hE hT hk hc hL h1 h2 k1 k2).1 (g1 j (by omega) h2 _ _ ⟨⟨u1,y1,rfl,k1⟩,⟨u2,y2,rfl,k2⟩⟩)
  ·obtain⟨u1,y1,k1⟩:=hC (i::(nw 0 (lcj x i j)++[k])) (fun a ha=>by
    simp only[Je,J8,Jau,or_false]at ha;rcases ha with rfl|ha|rfl
    ·omega
    ·have:=eG i j (by omega) h2 a ha;omega
    ·omega)
   obtain⟨u2,y2,k2⟩:=hC (j::k::nw 0 (lcj x k i)) (fun a ha=>by
    simp only[J8]at ha;rcases ha with rfl|rfl|ha
    ·omega
    ·omega
    ·have:=eG k i (by omega) hi a ha;omega)
   exact(zXh h hE hT hk hc hL h1 (by omega) h2 k1 k2).1 (g2 i j (by omega) (by omega) h2 _ _ ⟨⟨u1,y1,rfl,k1⟩,⟨u2,y2,rfl,k2⟩⟩)
  ·obtain⟨u1,y1,k1⟩:=hC (nw 0 (x.zU.getD k [])++[k]) (fun a ha=>by
    simp only[Je,List.mem_singleton]at ha;rcases ha with ha|rfl
    ·have:=eK k hk a ha;omega
    ·omega)
   obtain⟨u2,y2,k2⟩:=hC (k::nw 0 (x.zU.getD k [])) (fun a ha=>by
    simp only[J8]at ha;rcases ha with rfl|ha
    ·omega
    ·have:=eK k hk a ha;omega)
   exact(zXd h hE hT hk hc hL k1 k2).1 (g3 _ _ ⟨⟨u1,y1,rfl,k1⟩,⟨u2,y2,rfl,k2⟩⟩)
  ·obtain⟨u1,y1,k1⟩:=hC (k::(nw 0 (lcj x k j)++J1 (yI x k-1) k)) (fun a ha=>by
    simp only[Je,J8]at ha;rcases ha with rfl|ha|ha
    ·omega
    ·have:=eG k j (by omega) h2 a ha;omega
    ·have:=Kc ha;omega)
   obtain⟨u2,y2,k2⟩:=hC (j::nw 0 (x.zU.getD k [])) (fun a ha=>by
    simp only[J8]at ha;rcases ha with rfl|ha
    ·omega
    ·have:=eK k hk a ha;omega)
   exact(zXj h hE hT hk hc hL h1 h2 k1 k2).1 (g4 j (by omega) h2 _ _ ⟨⟨u1,y1,rfl,k1⟩,⟨u2,y2,rfl,k2⟩⟩)
theorem zQ5(hx:wR (suf x 0))(hr:zD6 x m D):zXk x D m T↔wR (suf (exx D x m T) 0):=by
 have hl:=wI h hE hT;have bf:∀k,k<x.zA.length→LC x k:=fun k hk=>((zAF h.w hk).1 (zB4 hx k)).2
 constructor
 ·intro g
  have key:∀(d k:Nat),k+d=x.zA.length→wR (suf (exx D x m T) k):=by
   intro d
   induction d with
   |zero=>intro k hk;exact zIi h hE hT D k (by omega) (by omega)
   |succ d ih=>
    intro k hk;have hc:=ih (k+1) (by omega);refine(zAF (zGE h hE hT) (by omega)).2 ⟨hc,zSS h hE hT hr (by omega) ((zJ3 h hE hT (by omega) (bf k (by omega)) hc).2 ⟨?_,?_,?_,?_⟩)⟩
    ·exact fun j h1 h2 t1 t2 b=>g.p1 k j h1 h2 t1 t2 b
    ·exact fun i j h1 gO h2 t1 t2 b=>g.p2 k i j h1 gO h2 t1 t2 b
    ·exact fun t1 t2 b=>g.p3 k (by omega) t1 t2 b
    ·exact fun j h1 h2 t1 t2 b=>g.p4 k j h1 h2 t1 t2 b
  exact key x.zA.length 0 (by omega)
 ·intro g
  have g0:=(zPy h hE hT hr).1 g;have hck:∀k,k<x.zA.length→wR (suf (exx D x m T) (k+1)):=fun k _=>zB4 g (k+1)
  have key:=fun k(hk:k<x.zA.length)=>(zJ3 h hE hT hk (bf k hk) (hck k hk)).1 (g0 k hk)
  exact⟨fun k j h1 h2=>(key k (by omega)).1 j h1 h2,fun k i j h1 gO h2=>(key k (by omega)).2.1 i j h1 gO h2,fun k hk=>(key k hk).2.2.1,fun k j h1 h2=>(key k (by omega)).2.2.2 j h1 h2⟩
end
theorem Col.det{x:SPr}{k k':Nat}{w:List Nat}{t1 t2:List (Nat×List Nat)}{w1 w2:List Nat}(h1:Col x k w t1 w1)(h2:Col x k' w t2 w2)(n1:stS x w1=im)(n2:stS x w2=im):t1=t2∧w1=w2:=by
 induction h1 generalizing t2 with
 |refl w=>
  cases h2 with
  |refl=>exact⟨rfl,rfl⟩
  |step _ hs _=>rw[n1]at hs;cases hs
 |step hw hs hc ih=>
  cases h2 with
  |refl=>rw[n2]at hs;cases hs
  |step _ p5 fc=>
   rw[hs]at p5;cases p5;obtain⟨rfl,rfl⟩:=ih fc n1;exact⟨rfl,rfl⟩
end Go.Pl

namespace Go.Pl
open Go Go.Ab Go.Wk Go.Pc
structure Fh (n D D2:Nat) (m m2:zB) (T T2:Mx) (φ:Vec→Vec):Prop where
 pr:m2.Prime=m.Prime
 row:∀u,Row m.Prime D u→Row m.Prime D2 (φ u)
 z:φ (zeros D)=zeros D2
 add:∀u v,Row m.Prime D u→Row m.Prime D v→φ (adv m.Prime D u v)=adv m.Prime D2 (φ u) (φ v)
 act:∀k,k<n→ ∀u,Row m.Prime D u→φ (wC m.Prime D u (m.zG.getD k []))=wC m.Prime D2 (φ u) (m2.zG.getD k [])
 t:∀r,r<base n n→φ (T.getD r [])=T2.getD r []
def Fm(φ:Vec→Vec)(N:Nat)(e:Vec):Vec:=e.take N++φ (e.drop N)
theorem zAK{φ:Vec→Vec}{N:Nat}{y u:Vec}(hy:y.length=N):Fm φ N (y++u)=y++φ u:=by rw[Fm,Ju hy,K7 hy]
theorem zGJ{φ:Vec→Vec}{N:Nat}{b:Int}{e:Vec}:Fm φ (N+1) (b::e)=b::Fm φ N e:=by simp only[Fm,Lf,List.drop_succ_cons,K4]
section
variable {D D2:Nat}{x:SPr}{m m2:zB}{T T2:Mx}{φ:Vec→Vec} (h:Pres x) (hE:ExB x.zA.length D x m T) (hT:∀i,i<T.length→Row m.Prime D (T.getD i [])) (gL:ExB x.zA.length D2 x m2 T2) (gS:∀i,i<T2.length→Row m2.Prime D2 (T2.getD i [])) (hF:Fh x.zA.length D D2 m m2 T T2 φ)
 include h hE hT gL gS hF
theorem yAx{k:Nat}(hk:k≤x.zA.length):Fm φ (x.zA.length-k) (zeros (suf (exx D x m T) k).length)=zeros (suf (exx D2 x m2 T2) k).length:=by rw[zBg h hE hT hk,zBg h gL gS hk,zAK (yA _),hF.z]
theorem zP8{k j:Nat}(h1:k+1≤j)(h2:j<x.zA.length):Fm φ (x.zA.length-(k+1)) ((lvl (exx D x m T) k).cs.getD (j-(k+1)) [])=(lvl (exx D2 x m2 T2) k).cs.getD (j-(k+1)) []:=by have hn:=hE.hn;have hb:=zCc x.zA.length (by omega) k (by omega);have gE:V (suf x (k+1)) ((lcj x k j).drop (k+1)):=jT (uL h (by omega) h2) (by omega);rw[zIg h hE hT (by omega) h1 h2,zIg h gL gS (by omega) h1 h2,show(lvl x k).cs.getD (j-(k+1)) []=(lcj x k j).drop (k+1)from map_drop,zAK (vC h (by omega) gE),hF.t _ (by omega)]
theorem zY9{k:Nat}(hk:k<x.zA.length):Fm φ (x.zA.length-(k+1)) (lvl (exx D x m T) k).w=(lvl (exx D2 x m2 T2) k).w:=by have hn:=hE.hn;have hb:=vT x.zA.length (by omega);have cx:V (suf x (k+1)) ((x.zU.getD k []).drop (k+1)):=jT (jO h hk) hk;rw[zIc h hE hT hk,zIc h gL gS hk,show(lvl x k).w=(x.zU.getD k []).drop (k+1)from rfl,zAK (vC h (by omega) cx),hF.t _ (by omega)]
theorem zTk{k:Nat}(hk:k<x.zA.length)(ih:∀a b,V (suf (exx D x m T) (k+1)) a→V (suf (exx D x m T) (k+1)) b→Fm φ (x.zA.length-(k+1)) (mul (suf (exx D x m T) (k+1)) a b)=mul (suf (exx D2 x m2 T2) (k+1)) (Fm φ (x.zA.length-(k+1)) a) (Fm φ (x.zA.length-(k+1)) b)){v:Vec}(hv:V (suf (exx D x m T) (k+1)) v):
  Fm φ (x.zA.length-(k+1)) (sig (suf (exx D x m T) (k+1)) (lvl (exx D x m T) k) v)=sig (suf (exx D2 x m2 T2) (k+1)) (lvl (exx D2 x m2 T2) k) (Fm φ (x.zA.length-(k+1)) v):=by
 have hp:=hE.m.p.pos;have ok:=uF h hE hT (k:=k+1) (by omega);obtain⟨y,u,rfl,hy,hu⟩:=(sL h hE hT (x.zA.length-(k+1)) (k+1) (by omega) _).1 hv;have ex:=vC h (by omega) hy;have fV:Row m2.Prime D2 (φ u):=by rw[hF.pr];exact hF.row u hu
 have hsg:Fm φ (x.zA.length-(k+1)) (sgG D x m T k y)=sgG D2 x m2 T2 k y:=by
  unfold sgG;rw[zFe (S:=V (suf (exx D x m T) (k+1))) (n:=mul (suf (exx D2 x m2 T2) (k+1))) (Fm φ (x.zA.length-(k+1))) (fun a b=>xG ok) ih _ _ _ (zPw h hE hT hk) (wP ok),yAx h hE hT gL gS hF (by omega)]
  congr 1
  apply Qk
  ·rw[Ji,tX h hE hT,tX h gL gS]
  ·intro i h1 h2
   rw[Ji,tX h hE hT]at h1;have e1:(eC1 x T k)[i]'(by rw[tX h hE hT];exact h1)=(lvl (exx D x m T) k).cs.getD (k+1+i-(k+1)) []:=by rw[show k+1+i-(k+1)=i from by omega,zCe h hE hT hk,J2,Jv (by rw[tX h hE hT];exact h1),J4 (by rw[tX h hE hT];exact h1)];rfl
   have e2:(eC1 x T2 k)[i]'h2=(lvl (exx D2 x m2 T2) k).cs.getD (k+1+i-(k+1)) []:=by rw[show k+1+i-(k+1)=i from by omega,zCe h gL gS hk,J2,Jv h2,J4 h2];rfl
   rw[Jc4,e1,e2,zP8 h hE hT gL gS hF (by omega) (by omega)]
 obtain⟨y1,u1,e,fh,cB⟩:=(sL h hE hT (x.zA.length-(k+1)) (k+1) (by omega) _).1 (zIe h hE hT hk (y:=y));have gM:=vC h (by omega) fh;rw[e,zAK gM]at hsg;rw[zCf h hE hT hk hy hu,e,Ju gM,K7 gM,zAK gM,zAK ex,zCf h gL gS hk hy fV,←hsg,Ju gM,K7 gM,hF.pr,hF.add _ _ cB (vB (by omega)),hF.act k hk u hu]
theorem zK9{k:Nat}(hk:k<x.zA.length)(ih:∀a b,V (suf (exx D x m T) (k+1)) a→V (suf (exx D x m T) (k+1)) b→Fm φ (x.zA.length-(k+1)) (mul (suf (exx D x m T) (k+1)) a b)=mul (suf (exx D2 x m2 T2) (k+1)) (Fm φ (x.zA.length-(k+1)) a) (Fm φ (x.zA.length-(k+1)) b)):∀(q:Nat){v:Vec},V (suf (exx D x m T) (k+1)) v→
  Fm φ (x.zA.length-(k+1)) (iter q (sig (suf (exx D x m T) (k+1)) (lvl (exx D x m T) k)) v)=iter q (sig (suf (exx D2 x m2 T2) (k+1)) (lvl (exx D2 x m2 T2) k)) (Fm φ (x.zA.length-(k+1)) v)
 |0,_,_=>rfl
 |q+1,v,hv=>by show Fm φ _ (iter q _ (sig _ _ v))=iter q _ (sig _ _ (Fm φ _ v));rw[zK9 hk ih q (zAJ h hE hT hk hv),zTk h hE hT gL gS hF hk ih hv]
theorem zNV:∀(d k:Nat),k+d=x.zA.length→ ∀a b,V (suf (exx D x m T) k) a→V (suf (exx D x m T) k) b→Fm φ (x.zA.length-k) (mul (suf (exx D x m T) k) a b)=mul (suf (exx D2 x m2 T2) k) (Fm φ (x.zA.length-k) a) (Fm φ (x.zA.length-k) b)
 |0,k,hk,a,b,ha,hb=>by
  have hp:=hE.m.p.pos;have bN:=gL.m.p.pos;rw[zAy h hE hT D k (by omega) (by omega)]at ha hb ⊢
  rw[zAy h gL gS D2 k (by omega) (by omega)];have md:=(zDP _ _).1 ha;have eT:=(zDP _ _).1 hb;have e:∀w:Vec,Fm φ (x.zA.length-k) w=φ w:=fun w=>by rw[Fm,show x.zA.length-k=0 from by omega];rfl
  rw[e,e,e,qW (by omega) D _ _ md eT,hF.add _ _ md eT,hF.pr,qW (by omega) D2 _ _ (hF.row _ md) (hF.row _ eT)]
 |d+1,k,hk,a,b,ha,hb=>by
  have pN:k<x.zA.length:=by omega
  have ih:=zNV d (k+1) (by omega);have hl:=wI h hE hT;have pM:=wI h gL gS;have ok:=uF h hE hT (k:=k+1) (by omega);have fX:=zQ3 h hE hT pN;rw[yE (x:=exx D x m T) (by omega)]at ha hb ⊢
  rw[yE (x:=exx D2 x m2 T2) (by omega)];cases a with
  |nil=>exact ha.elim
  |cons a u=>
  cases b with
  |nil=>exact hb.elim
  |cons b v=>
   obtain⟨_,ha⟩:=ha;obtain⟨_,hb⟩:=hb;have eg:=zNU h hE hT pN b.toNat ha;have hm:=xG ok eg hb;rw[show x.zA.length-k=x.zA.length-(k+1)+1 from by omega,zGJ,zGJ,yY,yY,zB9 h hE hT pN,zB9 h gL gS pN,←zK9 h hE hT gL gS hF pN ih _ ha,←ih _ _ eg hb]
   by_cases g:a+b≥at0 x.zA k
   ·rw[if_pos g,if_pos g,zGJ,ih _ _ fX hm,zY9 h hE hT gL gS hF pN]
   ·rw[if_neg g,if_neg g,zGJ]
end
end Go.Pl

namespace Go.Pl
open Go Go.Ab Go.Wk Go.Pc
section
variable {D D2:Nat}{x:SPr}{m m2:zB}{T T2:Mx}{φ:Vec→Vec} (h:Pres x) (hE:ExB x.zA.length D x m T) (hT:∀i,i<T.length→Row m.Prime D (T.getD i [])) (gL:ExB x.zA.length D2 x m2 T2) (gS:∀i,i<T2.length→Row m2.Prime D2 (T2.getD i [])) (hF:Fh x.zA.length D D2 m m2 T T2 φ)
 include h hE hT gL gS hF
theorem zXl{k:Nat}(hk:k<x.zA.length){c:Vec}(hc:V (suf (exx D x m T) (k+1)) c):∀q,Fm φ (x.zA.length-(k+1)) (pw (mul (suf (exx D x m T) (k+1))) (zeros (suf (exx D x m T) (k+1)).length) c q)=pw (mul (suf (exx D2 x m2 T2) (k+1))) (zeros (suf (exx D2 x m2 T2) (k+1)).length) (Fm φ (x.zA.length-(k+1)) c) q
 |0=>yAx h hE hT gL gS hF (by omega)
 |q+1=>by have ok:=uF h hE hT (k:=k+1) (by omega);have hq:V (suf (exx D x m T) (k+1)) (pw (mul (suf (exx D x m T) (k+1))) (zeros (suf (exx D x m T) (k+1)).length) c q):=vO (fun w hw=>xG ok hw hc) q (wP ok);have ih:=zXl hk hc q;rw[pw,vG,pw,vG];show Fm φ _ (mul _ (pw _ _ c q) c)=mul _ (pw _ _ (Fm φ _ c) q) (Fm φ _ c);rw[zNV h hE hT gL gS hF _ (k+1) (by omega:k+1+(x.zA.length-(k+1))=x.zA.length) _ _ hq hc,ih]
theorem zYA{k j:Nat}(hk:k≤j)(hj:j<x.zA.length):V (suf (exx D x m T) (k+1)) (((exx D x m T).zU.getD j []).drop (k+1))∧Fm φ (x.zA.length-(k+1)) (((exx D x m T).zU.getD j []).drop (k+1))=((exx D2 x m2 T2).zU.getD j []).drop (k+1):=by have hn:=hE.hn;have hb:=vT x.zA.length (by omega);have hpx:V (suf x (k+1)) ((x.zU.getD j []).drop (k+1)):=jT (zK7 (jO h hj) hk) (by omega);rw[zEr h hE hT hk hj,zEr h gL gS hk hj];exact⟨zD8 h hE hT (by omega) hpx (zCg h hE hT hj),by rw[zAK (vC h (by omega) hpx),hF.t _ (by omega)]⟩
theorem zYB{k i j:Nat}(hk:k≤i)(hi:i<j)(hj:j<x.zA.length):V (suf (exx D x m T) (k+1)) ((((exx D x m T).zF.getD i []).getD (j-(i+1)) []).drop (k+1))∧Fm φ (x.zA.length-(k+1)) ((((exx D x m T).zF.getD i []).getD (j-(i+1)) []).drop (k+1))=(((exx D2 x m2 T2).zF.getD i []).getD (j-(i+1)) []).drop (k+1):=by have hn:=hE.hn;have hb:=zCc x.zA.length (by omega) i (by omega);have bT:V (suf x (k+1)) ((lcj x i j).drop (k+1)):=jT (zK7 (uL h hi hj) hk) (by omega);rw[zFT h hE hT hk hi hj,zFT h gL gS hk hi hj];exact⟨zD8 h hE hT (by omega) bT (zDQ h hE hT hi hj),by rw[zAK (vC h (by omega) bT),hF.t _ (by omega)]⟩
theorem zVF{k j:Nat}(h1:k+1≤j)(h2:j<x.zA.length):Fm φ (x.zA.length-(k+1)) (xN ((exx D x m T).zA.length-(k+1)) (j-(k+1)))=xN ((exx D2 x m2 T2).zA.length-(k+1)) (j-(k+1)):=by rw[zQ2 h hE hT h1 h2,zQ2 h gL gS h1 h2,zAK (by simp[xN,zeros]),hF.z]
theorem zP9{k:Nat}(hk:k<x.zA.length):LCQ (fun k a b=>Fm φ (x.zA.length-k) a=Fm φ (x.zA.length-k) b) x (exx D x m T) k↔LCn x (exx D2 x m2 T2) k:=by
 have hl:=wI h hE hT;have ok:=uF h hE hT (k:=k+1) (by omega);have co:=zNV h hE hT gL gS hF _ (k+1) (by omega:k+1+(x.zA.length-(k+1))=x.zA.length);have er:=fun v hv=>zTk h hE hT gL gS hF hk co (v:=v) hv
 have fX:=zQ3 h hE hT hk;have e1:∀j,k+1≤j→j<x.zA.length→(c1Q (fun k a b=>Fm φ (x.zA.length-k) a=Fm φ (x.zA.length-k) b) (exx D x m T) k j↔c1E (exx D2 x m2 T2) k j):=fun j h1 h2=>by obtain⟨p1,p2⟩:=zYA h hE hT gL gS hF (k:=k) (j:=j) (by omega) h2;unfold c1Q c1E;show Fm φ _ _=Fm φ _ _↔_;rw[zXl h hE hT gL gS hF hk (zMx h hE hT hk h1 h2),zP8 h hE hT gL gS hF h1 h2,er _ p1,p2,tG h hE hT h2,tG h gL gS h2]
 have e2:∀i j,k+1≤i→i<j→j<x.zA.length→(c2Q (fun k a b=>Fm φ (x.zA.length-k) a=Fm φ (x.zA.length-k) b) (exx D x m T) k i j↔c2E (exx D2 x m2 T2) k i j):=fun i j h1 gO h2=>by obtain⟨p1,p2⟩:=zYB h hE hT gL gS hF (k:=k) (by omega) gO h2;have ci:=zMx h hE hT hk h1 (show i<x.zA.length by omega);have cj:=zMx h hE hT hk (show k+1≤j by omega) h2;unfold c2Q c2E;show Fm φ _ _=Fm φ _ _↔_;rw[co _ _ cj ci,co _ _ ci (zAJ h hE hT hk p1),zP8 h hE hT gL gS hF h1 (by omega),zP8 h hE hT gL gS hF (by omega) h2,er _ p1,p2]
 have e3:Fm φ (x.zA.length-(k+1)) (sig (suf (exx D x m T) (k+1)) (lvl (exx D x m T) k) (lvl (exx D x m T) k).w)=Fm φ (x.zA.length-(k+1)) (lvl (exx D x m T) k).w↔sig (suf (exx D2 x m2 T2) (k+1)) (lvl (exx D2 x m2 T2) k) (lvl (exx D2 x m2 T2) k).w=(lvl (exx D2 x m2 T2) k).w:=by rw[er _ fX,zY9 h hE hT gL gS hF hk]
 have e4:∀j,k+1≤j→j<x.zA.length→(c4Q (fun k a b=>Fm φ (x.zA.length-k) a=Fm φ (x.zA.length-k) b) (exx D x m T) k j↔c4E (exx D2 x m2 T2) k j):=fun j h1 h2=>by have hg:=zCW h hE hT h1 h2;unfold c4Q c4E;show Fm φ _ _=Fm φ _ _↔_;rw[co _ _ fX (zNU h hE hT hk _ hg),co _ _ hg fX,zK9 h hE hT gL gS hF hk co _ hg,zVF h hE hT gL gS hF h1 h2,zY9 h hE hT gL gS hF hk,zB9 h hE hT hk,zB9 h gL gS hk]
 constructor
 ·intro g
  exact⟨fun j h1 h2=>(e1 j h1 h2).1 (g.c1 j h1 h2),fun i h1 hi j gO h2=>(e2 i j h1 (by omega) h2).1 (g.c2 i h1 hi j gO h2),e3.1 g.c3,fun j h1 h2=>(e4 j h1 h2).1 (g.c4 j h1 h2)⟩
 ·intro g
  exact⟨fun j h1 h2=>(e1 j h1 h2).2 (g.c1 j h1 h2),fun i h1 hi j gO h2=>(e2 i j h1 (by omega) h2).2 (g.c2 i h1 hi j gO h2),e3.2 g.c3,fun j h1 h2=>(e4 j h1 h2).2 (g.c4 j h1 h2)⟩
theorem zTl{m0:zB}(hM:Mv D x.zA.length m0 m)(hx:wR (suf x 0))(hr:zD6 x m2 D2):∃L,f_Q ⟨x,m0,T⟩=ik L∧L.length≤1000∧(∀r∈L,Row m.Prime D r)∧((∀r∈L,φ r=zeros D2)↔wR (suf (exx D2 x m2 T2) 0)):=by
 have hp:=hE.m.p.pos;have bN:=gL.m.p.pos;obtain⟨L,e,g⟩:=zY1 h hE hT hM (Z:=fun r=>φ r=zeros D2) (Q:=fun k a b=>Fm φ (x.zA.length-k) a=Fm φ (x.zA.length-k) b) (fun k hk a b ha hb e=>by
  obtain⟨y,u,rfl,hy,hu,_,ex⟩:=prV h hE hT hk ha;obtain⟨z,v,rfl,hz,hv,_,mw⟩:=prV h hE hT hk hb;rw[Ju ex,Ju mw]at e;subst e;rw[K7 ex,K7 ex,zAK ex,zAK ex,List.append_cancel_left_eq];have ha:=kV (p:=m.Prime) (D:=D) (r:=u) (s:=v) (k:=-1) hE.m.p;have hs:adv m.Prime D (uH m.Prime D u (-1) v) v=u:=by refine Eq.trans (yC (g:=fun j=>at0 u j) fun j hj=>?_) (uA hu.1).symm;have hr:=hu.2 j hj;rw[uH,yG hj,Int.emod_add_emod,show at0 u j+ -1*at0 v j+at0 v j=at0 u j from by omega,Kb (by omega) (by omega)]
  have hφ:=hF.add _ _ ha hv;rw[hs]at hφ;have hra:=hF.row _ ha;have hrv:=hF.row _ hv;constructor
  ·intro g
   rw[hφ,g,uB hrv]
  ·intro g
   rw[hφ,tO]at g;have:=(zV5 (u:=φ v) hra (xP (p:=m.Prime) (D:=D2) (by omega))).1 (by rw[g,zAH hrv]);exact this) hx
 refine⟨L,e,g.len,g.row,g.iff.trans ?_⟩;rw[zPy h gL gS hr];exact⟨fun a k hk=>(zP9 h hE hT gL gS hF hk).1 (a k hk),fun a k hk=>(zP9 h hE hT gL gS hF hk).2 (a k hk)⟩
end
end Go.Pl
