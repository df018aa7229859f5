/- The program's EquivalenceMap returns what the reference's returns,for all arguments;no conditions. -/
import Derived.Test.YtijcbaigdbgofaaGreatPlA
import Derived.Test.YtijcbaigdbgofaaGreatWF
open List renaming replicate→J1,getD_eq_getElem?_getD→J3,getElem?_eq_getElem→J4,getElem?_append_right→J7,length_append→Ja,append_assoc→Jb,replicate_append_replicate→Je,append_nil→Jg,mem_map→Jh,take_of_length_le→Ji,take_succ_eq_append_getElem→Jj,range→Jl,map_cons→Jm,getElem?_map→Jp,getElem?_eq_none→Jq,length_take→Jr,length_map→Jt,getElem?_append_left→Jx,take_zero→Jz,take_left'→K0,nil_append→K1,length_replicate→K2,getElem?_replicate→K3,length_cons→K4,mem_iff_getElem→K5,getElem_mem→K7,ext_getElem?→K9,drop_append_of_le_length→Kf,length_drop→Ki,replicate_succ→Km,eq_nil_of_length_eq_zero→Kn,drop_replicate→L4,mem_append→L5,range_succ→L6,take_succ_cons→La,mem_range→Ld,cons_append→Lg,drop_left'→Lj,map_append→Ls,getElem?_drop→H0,drop_eq_getElem_cons→H2,length_singleton→H9,length_nil→Ha,set_append_right→Hd,take_length→Hh,replicate_zero→Hm,drop_zero→Ga,drop_of_length_le→Gm,map_congr_left→U6,getD_cons_zero→U7,map_nil→Ub,flatMap_append→Uj,map_map→Uo,length_range→Up,mem_of_mem_drop→Qp,range_succ_eq_map→Ja0,cons→Ja1,replicate_succ'→Jah,mem_flatten→Jai,length→Jce
open Int renaming toNat_natCast→J6,mul_emod→Jo,emod_emod→Js,emod_eq_of_lt→Jv,add_emod→K6,natCast_add→Ka,emod_lt_of_pos→Kd,zero_add→Kg,emod_nonneg→Kx,add_mul_emod_self_left→Lb,mul_one→Lm,mul_assoc→H6,zero_mul→Hx,mul_zero→Hy,mul_comm→Hz,add_zero→G4,add_emod_right→Ge,sub_mul→Us,one_mul→Ut,add_assoc→Ja2,natCast_mul→Jan,toNat_of_nonneg→Jar
open Nat renaming zero_add→J8,lt_or_ge→Jd,le_refl→Jf,zero_le→Jy,sub_self→Kc,mul_le_mul→Ku,add_sub_cancel_left→Lf,min_eq_left→Li,succ_mul→Lz,mul_le_mul_right→H1,min_eq_right→G5,sub_zero→Gb,lt_trichotomy→Gd,add_zero→Gt,mul_succ→Q2,le_mul_of_pos_right→Ja6,eq_zero_or_pos→Ja7,lt_of_not_le→Jal
open Bool renaming not_true→J9,not_false→Ju,false_and→Jby
open Option renaming some→Hf
open Prod renaming mk→Qv
open Option renaming some→dJ,none→dK
open Bool renaming true→dL,false→dM
namespace Go.Pl
open Go Go.Ab Go.Wk Go.Pc
section
variable {p:Int} (hp:Prime p) {n:Nat}{out:Mx}{pv:Nat→Nat} (h:Red p n out pv) {u:List Int}{k q:Nat} (hu:Row p n u) (hk:k<n) (u1:at0 u k=1) (ul:∀j,j<k→at0 u j=0) (up:∀i,i<out.length→at0 u (pv i)=0) (hq:q≤out.length) (q1:∀i,i<q→pv i<k) (q2:∀i,q≤i→i<out.length→k<pv i)
def oth(p:Int)(n:Nat)(out:Mx)(u:List Int)(k i:Nat):List Int:=vA p n (out.getD i []) (p-at0 (out.getD i []) k) u
def tO(p:Int)(n:Nat)(out:Mx)(u:List Int)(k q i:Nat):List Int:=if i<q then oth p n out u k i else if i=q then u else oth p n out u k (i-1)
def zTz(pv:Nat→Nat)(k q i:Nat):Nat:=if i<q then pv i else if i=q then k else pv (i-1)
 include hp h hu hk u1 ul up hq q1 q2
theorem zMb{i j:Nat}(hj:j<n):at0 (oth p n out u k i) j=(at0 (out.getD i []) j-at0 (out.getD i []) k*at0 u j)%p:=by have _:=hp;have _:=h;have _:=hu;have _:=hk;have _:=u1;have _:=ul;have _:=up;have _:=hq;have _:=q1;have _:=q2;rw[oth,vA,yH hj,show at0 (out.getD i []) j+(p-at0 (out.getD i []) k)*at0 u j=at0 (out.getD i []) j-at0 (out.getD i []) k*at0 u j+p*at0 u j from by rw[Us];omega,Lb]
theorem zDQ{i j:Nat}(hi:i<out.length)(hj:j<n)(hz:at0 (out.getD i []) k=0∨at0 u j=0):at0 (oth p n out u k i) j=ent out i j:=by
 rw[zMb hp h hu hk u1 ul up hq q1 q2 hj];have:=(h.row i hi).2 j hj;have e:at0 (out.getD i []) k*at0 u j=0:=by rcases hz with g|g<;>rw[g]<;>simp
 rw[e,Int.sub_zero];exact Jv this.1 (by omega)
theorem zXX{i:Nat}:at0 (oth p n out u k i) k=0:=by rw[zMb hp h hu hk u1 ul up hq q1 q2 hk,u1,Lm,Int.sub_self];rfl
theorem zT0{i j:Nat}(hi:i<out.length)(hj:j<pv i)(gf:pv i≠k):at0 (oth p n out u k i) j=0:=by
 have gE:=h.lt i hi;rcases Jd (pv i) k with g|g
 ·rw[zDQ hp h hu hk u1 ul up hq q1 q2 hi (by omega) (.inr (ul j (by omega)))];exact h.low i hi j hj
 ·have:=h.low i hi k (by omega)
  rw[zDQ hp h hu hk u1 ul up hq q1 q2 hi (by omega) (.inl this)];exact h.low i hi j hj
theorem zXY{i:Nat}(hi:i<out.length):pv i≠k:=by have _:=h;have _:=q1;have _:=q2;have _:=hp;have _:=hu;have _:=hk;have _:=ul;have _:=hq;intro e;have:=up i hi;rw[e,u1]at this;cases this
theorem zIi{i:Nat}(hi:i<out.length+1):(i=q∧tO p n out u k q i=u∧zTz pv k q i=k)∨ ∃a,a<out.length∧(i<q∧a=i∨q<i∧i=a+1)∧tO p n out u k q i=oth p n out u k a∧zTz pv k q i=pv a:=by
 have _:=hp;have _:=h;have _:=hu;have _:=hk;have _:=u1;have _:=ul;have _:=up;have _:=q1;have _:=q2;unfold tO zTz;rcases Gd i q with g|g|g
 ·exact .inr ⟨i,by omega,.inl ⟨g,rfl⟩,by rw[if_pos g],by rw[if_pos g]⟩
 ·exact .inl ⟨g,by rw[if_neg (by omega),if_pos g],by rw[if_neg (by omega),if_pos g]⟩
 ·exact .inr ⟨i-1,by omega,.inr ⟨g,by omega⟩,by rw[if_neg (by omega),if_neg (by omega)],by rw[if_neg (by omega),if_neg (by omega)]⟩
theorem zMc:Red p n (mkR (out.length+1) (tO p n out u k q)) (zTz pv k q):=by
 have nc:=fun i hi=>zIi hp h hu hk u1 ul up hq q1 q2 (i:=i) hi
 have pn:=fun i hi=>zXY hp h hu hk u1 ul up hq q1 q2 (i:=i) hi
 refine⟨fun i hi=>?_,fun i hi=>?_,fun i hi=>?_,fun i hi j hj=>?_,fun i j hi hj gf=>?_,fun i j eh hj=>?_⟩<;>rw[tL]at*
 ·rw[jJ hi]
  rcases nc i hi with⟨_,e,_⟩|⟨a,_,_,e,_⟩<;>rw[e]
  ·exact hu
  ·exact jS hp
 ·rcases nc i hi with⟨_,_,e⟩|⟨a,ha,_,_,e⟩<;>rw[e]
  ·exact hk
  ·exact h.lt a ha
 ·rw[zDO hi]
  rcases nc i hi with⟨_,e1,e2⟩|⟨a,ha,_,e1,e2⟩<;>rw[e1,e2]
  ·exact u1
  ·rw[zDQ hp h hu hk u1 ul up hq q1 q2 ha (h.lt a ha) (.inr (up a ha))];exact h.one a ha
 ·rw[zDO hi]
  rcases nc i hi with⟨_,e1,e2⟩|⟨a,ha,_,e1,e2⟩<;>rw[e2]at hj<;>rw[e1]
  ·exact ul j hj
  ·exact zT0 hp h hu hk u1 ul up hq q1 q2 ha hj (pn a ha)
 ·rw[zDO hj]
  rcases nc i hi with⟨g1,_,e2⟩|⟨a,ha,ga,_,e2⟩<;>rw[e2]<;>rcases nc j hj with⟨g3,e3,_⟩|⟨b,hb,gb,e3,_⟩<;>rw[e3]
  ·omega
  ·exact zXX hp h hu hk u1 ul up hq q1 q2
  ·exact up a ha
  ·rw[zDQ hp h hu hk u1 ul up hq q1 q2 hb (h.lt a ha) (.inr (up a ha))]
   exact h.off a b ha hb (by omega)
 ·rcases nc i (by omega)with⟨g1,_,e2⟩|⟨a,ha,ga,_,e2⟩<;>rw[e2]<;>rcases nc j hj with⟨g3,_,e4⟩|⟨b,hb,gb,_,e4⟩<;>rw[e4]
  ·omega
  ·exact q2 b (by omega) hb
  ·exact q1 a (by omega)
  ·exact h.mono a b (by omega) hb
theorem zOC:(∀i,i<out.length+1→Sp p n (out++[u]) (tO p n out u k q i))∧(∀i,i<out.length→Sp p n (mkR (out.length+1) (tO p n out u k q)) (out.getD i []))∧Sp p n (mkR (out.length+1) (tO p n out u k q)) u:=by
 have ew:Sp p n (out++[u]) u:=by have:=qG (p:=p) (n:=n) (R:=out++[u]) (i:=out.length) (by simp);simpa[J3]using this
 have hol:∀i,i<out.length→Sp p n (out++[u]) (out.getD i []):=fun i hi=>by have:=qG (p:=p) (n:=n) (R:=out++[u]) (i:=i) (by simp;omega);simpa[J3,Jx hi]using this
 have db:∀i,i<out.length→Sp p n (out++[u]) (oth p n out u k i):=fun i hi=>
  qH (k:=p-at0 (out.getD i []) k) (hol i hi) ew fun j hj=>by rw[oth,vA,yH hj,Js]
 have bx:Sp p n (mkR (out.length+1) (tO p n out u k q)) u:=by have:=zBp (p:=p) (n:=n) (m:=out.length+1) (F:=tO p n out u k q) (i:=q) (by omega);rw[show tO p n out u k q q=u from by unfold tO;rw[if_neg (by omega),if_pos rfl]]at this;exact this
 refine⟨fun i hi=>?_,fun i hi=>?_,bx⟩
 ·rcases zIi hp h hu hk u1 ul up hq q1 q2 hi with⟨_,e,_⟩|⟨a,ha,_,e,_⟩<;>rw[e]
  ·exact ew
  ·exact db a ha
 ·have eE:∃b,b<out.length+1∧tO p n out u k q b=oth p n out u k i:=by
   rcases Jd i q with g|g
   ·exact⟨i,by omega,by unfold tO;rw[if_pos g]⟩
   ·exact⟨i+1,by omega,by unfold tO;rw[if_neg (by omega),if_neg (by omega)];rfl⟩
  obtain⟨b,hb,e⟩:=eE;have h1:=zBp (p:=p) (n:=n) (m:=out.length+1) (F:=tO p n out u k q) hb;rw[e]at h1;refine qH (k:=at0 (out.getD i []) k) h1 bx fun j hj=>?_
  rw[zMb hp h hu hk u1 ul up hq q1 q2 hj,K6,Js,←K6,show at0 (out.getD i []) j-at0 (out.getD i []) k*at0 u j+at0 (out.getD i []) k*at0 u j=at0 (out.getD i []) j from by omega]
theorem zK6(hn:n≤100000)(hm:out.length≤100000){x:Int}:
  ((zH (zHx p (out,x) (k:Int) u) ([],dM,0)).bind fun r32=>cond (!r32.2) ((xC r32.1 [u]).bind fun v33=>dJ v33) (dJ r32.1))=dJ (mkR (out.length+1) (tO p n out u k q)):=by
 have _:=u1;have _:=ul;have _:=up;have h7:=hp.pos;have ho:∀i,i<out.length→f_s p (out.getD i []) (p-at0 (out.getD i []) k) u=dJ (oth p n out u k i)∧ixO (out.getD i []) (k:Int)=dJ (at0 (out.getD i []) k)∧0≤at0 (out.getD i []) k∧at0 (out.getD i []) k≤p-1∧f_A (out.getD i [])=dJ (pv i:Int):=fun i hi=>by have hr:=h.row i hi;have fA:=hr.2 k hk;have gA:=h.one i hi;have fd:=h.low i hi;simp only[ent]at gA fd;exact⟨by rw[uB hp hr hu ⟨by omega,by omega⟩ (by omega)];rfl,yG (by rw[hr.1];exact hk),fA.1,fA.2,zFv hr.1 (by omega) (h.lt i hi) fd (by rw[gA];decide)⟩
 have bz:∀{m:Nat}{F:Nat→List Int},mkR m F++[F m]=mkR (m+1) F:=fun{m F}=>by simp[mkR,L6]
 have:=zO (body:=zHx p (out,x) (k:Int) u) (r:=(if out.length≤q then(mkR out.length (tO p n out u k q),dM)else(mkR (out.length+1) (tO p n out u k q),dL)))
  (fun j=>if j≤q then(mkR j (tO p n out u k q),dM,(j:Int))else(mkR (j+1) (tO p n out u k q),dL,(j:Int))) out.length (fun j hj=>by
   obtain⟨a1,a2,a3,a4,a5⟩:=ho j hj;have aI:rng (p-at0 (out.getD j []) k)=dJ (p-at0 (out.getD j []) k):=zE (by omega) (by omega);rcases Gd j q with g|g|g
   ·have hpj:=q1 j g
    rw[if_pos (by omega),if_pos (by omega)];unfold zHx;simp only
    rw[yN hj,zJ,Ju,zJ,yE [] hj];simp only[bs,a5];rw[dO (by omega),zK,a2];simp only[bs,aI,a1];rw[zZ (by rw[tL];simp;omega),bs,zE (by omega) (by omega),bs,cs];have:tO p n out u k q j=oth p n out u k j:=by unfold tO;rw[if_pos g]
    rw[←this,bz]
   ·subst g
    have hpj:=q2 j (Jf _) hj;rw[if_pos (by omega),if_neg (by omega)];unfold zHx;simp only
    rw[yN hj,zJ,Ju,zJ,yE [] hj];simp only[bs,a5];rw[dP (by omega),zJ,zZ (by rw[tL];simp;omega),a2];simp only[bs,aI,a1];have e1:tO p n out u k j j=u:=by unfold tO;rw[if_neg (by omega),if_pos rfl]
    have e2:tO p n out u k j (j+1)=oth p n out u k j:=by unfold tO;rw[if_neg (by omega),if_neg (by omega)];rfl
    have e3:mkR j (tO p n out u k j)++[u]=mkR (j+1) (tO p n out u k j):=by rw[←bz,e1]
    rw[e3,zZ (by rw[tL];simp;omega),bs,zE (by omega) (by omega),bs,cs,←e2,bz]
   ·rw[if_neg (by omega),if_neg (by omega)]
    unfold zHx;simp only
    rw[yN hj,zJ,J9,zK,yE [] hj];simp only[bs,a2,aI,a1];have e2:tO p n out u k q (j+1)=oth p n out u k j:=by unfold tO;rw[if_neg (by omega),if_neg (by omega)];rfl
    rw[zZ (by rw[tL];simp;omega),bs,zE (by omega) (by omega),bs,cs,←e2,bz]) (by
   by_cases g:out.length≤q
   ·rw[if_pos g,if_pos g]
    unfold zHx;simp only
    rw[vC,zK]
   ·rw[if_neg g,if_neg g]
    unfold zHx;simp only
    rw[vC,zK])
 rw[if_pos (Jy _),show((0:Nat):Int)=0 from rfl,show mkR 0 (tO p n out u k q)=[]from rfl]at this;rw[this,bs]
 by_cases g:out.length≤q
 ·have e1:tO p n out u k q out.length=u:=by unfold tO;rw[if_neg (by omega),if_pos (by omega)]
  rw[if_pos g];simp only
  rw[Ju,zJ,zZ (by rw[tL];simp;omega),bs]
  congr 1
  rw[←bz,e1]
 ·rw[if_neg g]
  simp only
  rw[J9,zK]
end
end Go.Pl

namespace Go.Pl
open Go Go.Ab Go.Wk Go.Pc
theorem zMd{p:Int}{n:Nat}{R out:Mx}{cf:Nat→Int}(ho:∀i,i<out.length→Sp p n R (out.getD i [])){u:List Int}(hu:∀j,j<n→at0 u j%p=(S out.length fun k=>cf k*ent out k j)%p):Sp p n R u:=
 jU ho ⟨cf,fun j hj=>(hu j hj).symm⟩
theorem Red.len_le{p:Int}{n:Nat}{R:Mx}{pv:Nat→Nat}(h:Red p n R pv):R.length≤n:=by
 have key:∀i,i<R.length→i≤pv i:=by
  intro i
  induction i with
  |zero=>intro _;omega
  |succ i ih=>
   intro hi;have h1:=ih (by omega);have h2:=h.mono i (i+1) (by omega) hi;omega
 rcases Ja7 R.length with g|g
 ·omega
 ·have h1:=key (R.length-1) (by omega)
  have h2:=h.lt (R.length-1) (by omega);omega
theorem zCs{xs:Mx}{v:List Int}{i:Nat}(h:i<xs.length):(xs++[v]).getD i []=xs.getD i []:=by simp only[J3,Jx h]
theorem zCt{xs:Mx}{v:List Int}:(xs++[v]).getD xs.length []=v:=by simp[J3]
section
variable {p:Int} (hp:Prime p) {n:Nat} (hn:n≤100000)
 include hp hn
theorem zGC{w:List Int}(hw:Row p n w){r:Int}(h0:0≤r)(h1:r≤p-1):zS2 p r w=dJ (mkv n fun j=>(at0 w j*r)%p):=by
 have h7:=hp.pos;unfold zS2;rw[hw.1,yR (by omega),bs,uB hp (zGB (by omega)) hw ⟨by omega,by omega⟩ (by omega),bs]
 congr 1
 refine yA fun j hj=>?_
 rw[show at0 (z0 n) j=0 from by simp[z0,at0,J3,hj],Kg,Hz]
variable {rows:Mx} (hm:rows.length≤600000) (hr:∀i,i<rows.length→Row p n (rows.getD i []))
 include hm hr
theorem zDR:∃R pv,f_m p rows=dJ R∧(Red p n R pv∧R.length≤rows.length)∧qB p n R rows:=by
 have h7:=hp.pos;unfold f_m;have main:=vW (body:=zPe p rows) (s:=([],0)) (Q:=fun R=> ∃pv,(Red p n R pv∧R.length≤rows.length)∧qB p n R rows)
  (fun i s=> ∃(out:Mx)(pv:Nat→Nat),s=(out,(i:Int))∧Red p n out pv∧qB p n out (rows.take i)∧out.length≤i∧i≤rows.length) rows.length (fun i s hi hI=>?_) (fun s hI=>?_) ⟨[],fun _=>0,rfl,Red.empty,by rw[Jz];exact qB.refl,Jy _,Jy _⟩
 ·obtain⟨R,h1,pv,h2,h3⟩:=main
  rw[h1,bs];exact⟨R,pv,rfl,h2,h3⟩
 ·obtain⟨out,pv,rfl,h,hs,hl,_⟩:=hI
  have hon:out.length≤n:=h.len_le;left;have hv:=hr i hi;have hw:=zDi hp hn h hv out.length;have gI:=zDj hp hn h hv (by omega);have hpz:=zQR hp hn h hv out.length (Jf _);obtain⟨cf,fh⟩:=zNK hp hn h hv out.length (Jf _);obtain⟨k,k1,k2,k3,k4⟩:=zIh hw.1 (by omega);have fO:rows.take (i+1)=rows.take i++[rows.getD i []]:=by rw[Jj hi,J3,J4 hi];rfl
  have mN:(rows.take i).length=i:=by rw[Jr];omega
  have f7:∀u,Sp p n (rows.take i) u→Sp p n (rows.take (i+1)) u:=fun u hu=>jU (fun a ha=>by have:=qG (p:=p) (n:=n) (R:=rows.take (i+1)) (i:=a) (by rw[fO,Ja];omega);rw[fO,zCs ha,←fO]at this;exact this) hu
  have fI:Sp p n (rows.take (i+1)) (rows.getD i []):=by
   have:=qG (p:=p) (n:=n) (R:=rows.take (i+1)) (i:=i) (by rw[fO,Ja,mN];simp);rw[fO]at this;have e:(rows.take i++[rows.getD i []]).getD i []=rows.getD i []:=by have:=zCt (xs:=rows.take i) (v:=rows.getD i []);rw[mN]at this;exact this
   rw[e,←fO]at this;exact this
  by_cases hkn:k=n
  ·
   refine⟨(out,((i+1:Nat):Int)),?_,out,pv,rfl,h,⟨fun a ha=>f7 _ (hs.1 a ha),fun a ha=>?_⟩,by omega,by omega⟩
   ·unfold zPe
    simp only
    rw[yN hi,zJ,yE [] hi];simp only[bs,gI,k2];rw[hw.1,zK3 (by omega),zJ,zE (by omega) (by omega),bs,cs]
   ·rw[fO,Ja,mN,H9]at ha
    rw[fO];rcases Jd a i with g|g
    ·rw[zCs (by omega)];exact hs.2 a (by omega)
    ·have:a=i:=by omega
     subst this;have e:(rows.take a++[rows.getD a []]).getD a []=rows.getD a []:=by have:=zCt (xs:=rows.take a) (v:=rows.getD a []);rw[mN]at this;exact this
     rw[e];refine zMd (out:=out) (cf:=fun q=> -1*cf q) (fun a ha=>qG ha) fun j hj=>?_
     have h1:=fh j hj;rw[k3 j (by omega)]at h1;rw[vF (g:=fun q=> -1*(cf q*ent out q j)) (fun q _=>by rw[H6]),zE2];have h2:(at0 (rows.getD a []) j+S out.length fun q=>cf q*ent out q j)%p=0:=by rw[←h1];rfl
     rw[show at0 (rows.getD a []) j=(at0 (rows.getD a []) j+S out.length fun q=>cf q*ent out q j)+ -1*(S out.length fun q=>cf q*ent out q j)from by omega,K6,h2,Kg,Js]
  ·have hk:k<n:=by omega
   have hwk:=hw.2 k hk;have gf:=k4 hk;obtain⟨r,r1,r2,r3,r4⟩:=zQQ hp (x:=at0 (cl p n out pv (rows.getD i []) out.length) k) (by omega) (by omega);have mP:=zGC hp hn hw r2 r3;have hu:Row p n (mkv n fun j=>(at0 (cl p n out pv (rows.getD i []) out.length) j*r)%p):=⟨zX _ _,fun j hj=>by have e1:=Kx (at0 (cl p n out pv (rows.getD i []) out.length) j*r) (show p≠0 by omega);have e2:=Kd (at0 (cl p n out pv (rows.getD i []) out.length) j*r) (show 0<p by omega);rw[yH hj];omega⟩
   have ua:∀j,j<n→at0 (mkv n fun j=>(at0 (cl p n out pv (rows.getD i []) out.length) j*r)%p) j=(at0 (cl p n out pv (rows.getD i []) out.length) j*r)%p:=fun j hj=>yH hj
   generalize mkv n (fun j=>(at0 (cl p n out pv (rows.getD i []) out.length) j*r)%p)=u at mP hu ua
   have u1:at0 u k=1:=by rw[ua k hk];exact r4
   have ul:∀j,j<k→at0 u j=0:=fun j hj=>by rw[ua j (by omega),k3 j hj];simp
   have up:∀a,a<out.length→at0 u (pv a)=0:=fun a ha=>by rw[ua _ (h.lt a ha),hpz a ha];simp
   obtain⟨q,⟨hq,aZ⟩,ef⟩:=zC7 (p:=fun q=>q≤out.length∧(q<out.length→k<pv q)) ⟨out.length,Jf _,fun g=>by omega⟩;have q1:∀a,a<q→pv a<k:=fun a ha=>by
    have h1:¬(k<pv a):=fun g=>ef a ha ⟨by omega,fun _=>g⟩
    have h2:pv a≠k:=fun e=>by have:=up a (by omega);rw[e,u1]at this;cases this
    omega
   have q2:∀a,q≤a→a<out.length→k<pv a:=fun a ha ha2=>by
    have h1:=aZ (by omega);rcases Jd q a with g|g
    ·have:=h.mono q a g ha2;omega
    ·rw[show a=q from by omega];exact h1
   have eA:=zK6 hp h hu hk u1 ul up hq q1 q2 hn (by omega) (x:=(i:Int));have aK:=zMc hp h hu hk u1 ul up hq q1 q2;obtain⟨s1,s2,s3⟩:=zOC hp h hu hk u1 ul up hq q1 q2;refine⟨(mkR (out.length+1) (tO p n out u k q),((i+1:Nat):Int)),?_,_,_,rfl,aK,⟨fun a ha=>?_,fun a ha=>?_⟩,by rw[tL];omega,by omega⟩
   ·unfold zPe
    simp only
    rw[yN hi,zJ,yE [] hi];simp only[bs,gI,k2];rw[hw.1,zK4 (by omega),zK,yG (by rw[hw.1];exact hk)];simp only[bs,r1,mP];cases ej:zH (zHx p (out,(i:Int)) (k:Int) u) ([],dM,0)with
    |none=>rw[ej]at eA;cases eA
    |some r32=>
     rw[ej,bs]at eA;simp only[bs];obtain⟨a1,a2⟩:=r32;cases a2 with
     |true=>
      simp only[J9,zK]at eA ⊢
      rw[zE (by omega) (by omega),bs,cs,Hf.inj eA]
     |false=>
      simp only[Ju,zJ]at eA ⊢
      cases hap:xC a1 [u]with
      |none=>rw[hap]at eA;cases eA
      |some v33=>
       rw[hap,bs]at eA;simp only[bs];rw[zE (by omega) (by omega),bs,cs,Hf.inj eA]
   ·rw[tL]at ha
    rw[jJ ha];refine jU (fun b hb=>?_) (s1 a ha);rw[Ja,H9]at hb;rcases Jd b out.length with g|g
    ·rw[zCs g];exact f7 _ (hs.1 b g)
    ·rw[show b=out.length from by omega,zCt]
     have ao:Sp p n (rows.take (i+1)) (cl p n out pv (rows.getD i []) out.length):=by
      have pj:Sp p n (rows.take (i+1)) (mkv n fun j=>S out.length fun k=>cf k*ent out k j):=zMd (out:=out) (cf:=cf) (fun b hb=>f7 _ (hs.1 b hb)) fun j hj=>by rw[yH hj]
      refine qH (k:=1) fI pj fun j hj=>?_
      rw[fh j hj,yH hj,Ut]
     refine qH (k:=r) (zAt (u:=[]) fun j _=>by simp[at0]) ao fun j hj=>?_
     rw[ua j hj,Js,show at0 ([]:List Int) j=0 from by simp[at0],Kg,Hz]
   ·rw[fO,Ja,mN,H9]at ha
    rw[fO];rcases Jd a i with g|g
    ·rw[zCs (by omega)]
     exact jU s2 (hs.2 a (by omega))
    ·have hai:a=i:=by omega
     subst hai;have e:(rows.take a++[rows.getD a []]).getD a []=rows.getD a []:=by have:=zCt (xs:=rows.take a) (v:=rows.getD a []);rw[mN]at this;exact this
     rw[e];have ao:Sp p n (mkR (out.length+1) (tO p n out u k q)) (cl p n out pv (rows.getD a []) out.length):=by
      refine qH (k:=at0 (cl p n out pv (rows.getD a []) out.length) k) (zAt (u:=[]) fun j _=>by simp[at0]) s3 fun j hj=>?_
      rw[ua j hj,show at0 ([]:List Int) j=0 from by simp[at0],Kg];rw[Jo,Js,←Jo,←H6,Hz (at0 (cl p n out pv (rows.getD a []) out.length) k),H6,Jo,r4,Lm,Js]
     have pj:Sp p n (mkR (out.length+1) (tO p n out u k q)) (mkv n fun j=>S out.length fun k=>cf k*ent out k j):=zMd (out:=out) (cf:=cf) s2 fun j hj=>by rw[yH hj]
     refine qH (k:=-1) ao pj fun j hj=>?_
     rw[yH hj,K6,fh j hj,←K6]
     congr 1;omega
 ·obtain⟨out,pv,rfl,h,hs,hl,_⟩:=hI
  refine⟨out,?_,pv,⟨h,hl⟩,by rw[Hh]at hs;exact hs⟩;unfold zPe;simp only
  rw[vC,zK]
theorem zK7:∃R pv,f_m p rows=dJ R∧Red p n R pv∧qB p n R rows:=by obtain⟨R,pv,h1,h2,h3⟩:=zDR hp hn hm hr;exact⟨R,pv,h1,h2.1,h3⟩
theorem zGD{R:Mx}{pv:Nat→Nat}(h:Red p n R pv)(hs:qB p n R rows):R.length≤rows.length:=by have h7:=hp.pos;obtain⟨R',pv',_,h2,h3⟩:=zDR hp hn hm hr;rw[h.unique (by omega) h2.1 (hs.trans h3.symm)];exact h2.2
theorem zBX:∃R pv,f_m p rows=dJ R∧f_g p rows=dJ R∧Red p n R pv∧qB p n R rows:=by have h7:=hp.pos;obtain⟨R,pv,h1,h2,h3⟩:=zK7 hp hn hm hr;obtain⟨R',pv',g1,g2,g3⟩:=zK5 hp hn hm hr;have e:=h2.unique (by omega) g2 (h3.trans g3.symm);exact⟨R,pv,h1,by rw[e];exact g1,h2,h3⟩
end
end Go.Pl

namespace Go.Pl
open Go Go.Ab Go.Wk Go.Pc
theorem qI{β:Type}{body:List β×Int→Option ((List β×Int)⊕List β)}(n:Nat)(F:Nat→β)(h:∀i acc,i<n→acc.length=i→body (acc,(i:Int))=dJ (.inl (acc++[F i],((i+1:Nat):Int))))(he:∀acc,body (acc,(n:Int))=dJ (.inr acc)):
  zH body ([],0)=dJ ((Jl n).map F):=by
 have:=zO (body:=body) (r:=(Jl n).map F) (fun i=>((Jl i).map F,(i:Int))) n (by grind[L6]) (he _);exact this
theorem zIj{xs:Mx}(hx:xs.length≤100000)(hf:xs.flatten.length≤1000000):f_W xs=dJ xs.flatten:=by
 unfold f_W;have:=zO (body:=zSF xs) (r:=xs.flatten) (fun i=>((xs.take i).flatten,(i:Int))) xs.length (fun i hi=>by
  have h1:=zE7 hi;have h2:=zIY (xs:=xs) (i+1);have h3:=congrArg Jce h1;rw[Ja]at h3;unfold zSF;simp only
  rw[yN hi,zJ,yE [] hi,bs,zZ (by omega),bs,zE (by omega) (by omega),bs,cs,h1]) (by
  unfold zSF;simp)
 grind
theorem zJc{p:Int}{L:Nat}{v:List Int}:Row p L v↔v.length=L∧ ∀a∈v,0≤a∧a≤p-1:=by
 constructor
 ·rintro⟨h1,h2⟩
  refine⟨h1,fun a ha=>?_⟩;obtain⟨i,hi,rfl⟩:=K5.1 ha
  grind
 ·rintro⟨h1,h2⟩
  refine⟨h1,fun i hi=>?_⟩
  simp_all
theorem zDS{D:Nat}:∀{xs:Mx},(∀r∈xs,r.length=D)→xs.flatten.length=xs.length*D
 | [],_=>by simp
 |x::xs,h=>by
  have:=zDS (xs:=xs) fun r hr=>h r (by simp[hr])
  grind
theorem zQS{p:Int}{D:Nat}{xs:Mx}(h:∀r∈xs,Row p D r):Row p (xs.length*D) xs.flatten:=by grind[zJc,zDS,Jai]
def wT(D k:Nat):List Int:=mkv D fun j=>if j=k then 1 else 0
theorem zOD{p:Int}{D k:Nat}(hp:2≤p):Row p D (wT D k):=⟨zX _ _,by grind[wT,yH]⟩
theorem tC{D k:Nat}(hk:k<D)(hD:D≤1000000):zGZ (D:Int) (k:Int)=dJ (wT D k):=by grind[zGZ,yR,yG,tV,jH,wT]
end Go.Pl

namespace Go.Pl
open Go Go.Ab Go.Wk Go.Pc
abbrev gl{β:Type}(m:Nat)(F:Nat→β):List β:=(Jl m).map F
theorem xR{β:Type}{m:Nat}{F:Nat→β}:(gl m F).length=m:=by simp[gl]
theorem zGE{β:Type}{m:Nat}{F:Nat→β}{i:Nat}(h:i<m):ixO (gl m F) (i:Int)=dJ (F i):=by rw[kK (by grind)];simp[gl]
theorem zAf{β:Type}{m:Nat}{F G:Nat→β}(h:∀i,i<m→F i=G i):gl m F=gl m G:=by grind[U6]
theorem zMe{β:Type}{m:Nat}{F:Nat→β}{i:Nat}{a:β}:(gl m F).set i a=gl m (fun k=>if k=i then a else F k):=by
 apply K9
 grind
theorem uI{β:Type}{m:Nat}{F:Nat→β}:gl m F++[F m]=gl (m+1) F:=by simp[gl,L6]
def base(n i:Nat):Nat:=n+i*n-i*(i+1)/2
theorem zOE:∀n,n<7→ ∀i,i<n→base n (i+1)=base n i+(n-1-i):=by decide
theorem zDT:∀n,n<7→ ∀i,i<n→base n i+(n-1-i)≤base n n:=by decide
theorem sN:∀n,n<7→n≤base n n∧base n n≤21∧base n 0=n:=by decide
theorem zGF:∀n:Nat,n<7→ ∀j:Nat,j<n→ ∀i:Nat,i<j→zUe (n:Int) (i:Int) (j:Int)=dJ ((base n i+(j-i-1):Nat):Int):=by decide+kernel
def exP(n D:Nat)(x:SPr)(T:Mx)(i:Nat):List Int:=if i<n then x.zU.getD i []++T.getD i []else J1 (n+D) 0
def exF(n:Nat)(x:SPr)(m:zC)(T:Mx)(i j:Nat):List Int:=if j<n-1-i then(x.zD.getD i []).getD j []++T.getD (base n i+j) []else J1 n 0++(m.zI.getD i []).getD (j-(n-1-i)) []
def unC(N i:Nat):Mx:=gl (N-1-i) fun j=>wT N (i+1+j)
def exC(n D:Nat)(x:SPr)(m:zC)(T:Mx)(i:Nat):Mx:=if i<n then gl (n+D-1-i) (exF n x m T i)else unC (n+D) i
def ext(n D:Nat)(x:SPr)(m:zC)(T:Mx):SPr:=⟨x.zA++J1 D m.Prime,gl (n+D) (exP n D x T),gl (n+D) (exC n D x m T)⟩
structure zE8 (n D:Nat) (x:SPr) (m:zC) (T:Mx):Prop where
 hn:n≤6
 o:x.zA.length=n
 p:x.zU.length=n
 c:x.zD.length=n
 cl:∀i,i<n→(x.zD.getD i []).length=n-1-i
 pl:∀i,(x.zU.getD i []).length≤6
 ce:∀i j,((x.zD.getD i []).getD j []).length≤6
 t:T.length=base n n
 tl:∀i,(T.getD i []).length≤30
 m:zVT n m D
section
variable {n D:Nat}{x:SPr}{m:zC}{T:Mx} (h:zE8 n D x m T)
 include h
theorem zXZ{N k:Nat}(hk:k<N)(hN:N≤100):zJp (N:Int) (k:Int)=dJ (wT N k):=by
 have _:=h;unfold zJp;rw[yR (by omega),bs,yG (by grind),bs]
 congr 1
 apply K9;intro j
 by_cases hj:j<N
 ·by_cases hkj:k=j
  ·grind[wT,mkv]
  ·rw[J6,List.getElem?_set_ne hkj];simp[wT,mkv,hj,Ne.symm hkj]
 grind[wT,mkv]
theorem zYa{i:Nat}(hi:i<n){P:Mx}{C:List Mx}:zH (zPf x T (P,C,(i:Int))) ([],((i+1:Nat):Int))=dJ (gl (n-1-i) (exF n x m T i)):=by
 have h6:=h.hn;have hc:=h.cl i hi;have:=zO (body:=zPf x T (P,C,(i:Int))) (r:=gl (n-1-i) (exF n x m T i)) (fun j=>(gl j (exF n x m T i),((i+1+j:Nat):Int))) (n-1-i) (fun j hj=>by
  have hb:=zDT n (by omega) i hi;have a1:=h.ce i j;have a2:=h.tl (base n i+j);have e:exF n x m T i j=(x.zD.getD i []).getD j []++T.getD (base n i+j) []:=if_pos hj;unfold zPf;simp only
  rw[h.o,yN (by omega),zJ,yE [] (by grind),bs,zE (by omega) (by omega),bs,zE (by omega) (by omega),bs,
   show((i+1+j:Nat):Int)-(i:Int)-1=(j:Int)from by omega,yE [] (by omega),bs,uA (by omega),bs,
   zGF n (by omega) (i+1+j) (by omega) i (by omega),bs,show i+1+j-i-1=j from by omega,yE [] (by rw[h.t];omega),bs,zZ (by omega),bs,zZ (by rw[xR];simp;omega),bs,zE (by omega) (by omega),bs,cs,←e,uI];rfl) (by
  unfold zPf;simp only
  rw[h.o,show i+1+(n-1-i)=n from by omega,vC,zK])
 exact this
theorem zYb{i:Nat}(hi:i<n){P:Mx}{C:List Mx}:zH (zPg x m (P,C,(i:Int))) (gl (n-1-i) (exF n x m T i),0)=dJ (gl (n+D-1-i) (exF n x m T i)):=by
 have h6:=h.hn;have h3:=h.m.d3;have pc:=h.m.mat i hi;have:=zO (body:=zPg x m (P,C,(i:Int))) (r:=gl (n+D-1-i) (exF n x m T i)) (fun j=>(gl (n-1-i+j) (exF n x m T i),((j:Nat):Int))) D (fun j hj=>by
  have e:exF n x m T i (n-1-i+j)=J1 n 0++(m.zI.getD i []).getD j []:=by rw[exF,if_neg (by omega),show n-1-i+j-(n-1-i)=j from by omega]
  have hr:=(pc.2 j hj).1;unfold zPg;simp only
  rw[h.m.d,yN hj,zJ,h.o,yR (by omega),bs,yE [] (by grind),bs,yE [] (by rw[pc.1];exact hj),bs,zZ (by rw[hr];simp;omega),bs,zZ (by rw[xR];simp;omega),bs,zE (by omega) (by omega),bs,cs,←e,uI];rfl) (by
  unfold zPg;simp only
  rw[h.m.d,vC,zK,show n-1-i+D=n+D-1-i from by omega])
 exact this
theorem zYc:zH (zMB x m T) ([],[],0)=dJ (gl n (exP n D x T),gl n (exC n D x m T)):=by
 have h6:=h.hn;have h3:=h.m.d3;have hb:=sN n (by omega);have:=zO (body:=zMB x m T) (r:=(gl n (exP n D x T),gl n (exC n D x m T))) (fun i=>(gl i (exP n D x T),gl i (exC n D x m T),((i:Nat):Int))) n (fun i hi=>by
  have a1:=h.pl i;have a2:=h.tl i;have e1:exP n D x T i=x.zU.getD i []++T.getD i []:=if_pos hi;have e2:exC n D x m T i=gl (n+D-1-i) (exF n x m T i):=if_pos hi;unfold zMB;simp only
  rw[h.o,yN hi,zJ,yE [] (by rw[h.p];exact hi),bs,uA (by omega),bs,yE [] (by rw[h.t];omega),bs,zZ (by omega),bs,zZ (by rw[xR];simp;omega),bs,zE (by omega) (by omega),bs,cs,
   zYa h hi,bs,zYb h hi,bs,zZ (by rw[xR];simp;omega),bs,bs,←e1,←e2,uI,uI]) (by
  unfold zMB;simp only
  rw[h.o,vC,zK])
 exact this
theorem zYd{k:Nat}(hk:k<D):zH (zPh x m) ([],((k+1:Nat):Int))=dJ (unC (n+D) (n+k)):=by
 have h6:=h.hn;have h3:=h.m.d3;have:=zO (body:=zPh x m) (r:=unC (n+D) (n+k)) (fun j=>(gl j fun j=>wT (n+D) (n+k+1+j),((k+1+j:Nat):Int))) (D-1-k) (fun j hj=>by
  unfold zPh;simp only
  rw[h.m.d,yN (by omega),zJ,h.o,zE (by omega) (by omega),bs,zE (by omega) (by omega),bs,←Ka,←Ka,zXZ h (by omega) (by omega),bs,zZ (by rw[xR];simp;omega),bs,zE (by omega) (by omega),bs,cs,show n+(k+1+j)=n+k+1+j from by omega,uI (F:=fun j=>wT (n+D) (n+k+1+j))];rfl) (by
  unfold zPh;simp only
  rw[h.m.d,show k+1+(D-1-k)=D from by omega,vC,zK,unC,show n+D-1-(n+k)=D-1-k from by omega])
 exact this
theorem zYe:zH (zMC x m) (gl n (exP n D x T),gl n (exC n D x m T),0)=dJ (gl (n+D) (exP n D x T),gl (n+D) (exC n D x m T)):=by
 have h6:=h.hn;have h3:=h.m.d3;have:=zO (body:=zMC x m) (r:=(gl (n+D) (exP n D x T),gl (n+D) (exC n D x m T))) (fun k=>(gl (n+k) (exP n D x T),gl (n+k) (exC n D x m T),((k:Nat):Int))) D (fun k hk=>by
  have e1:exP n D x T (n+k)=J1 (n+D) 0:=if_neg (by omega);have e2:exC n D x m T (n+k)=unC (n+D) (n+k):=if_neg (by omega);unfold zMC;simp only
  rw[h.m.d,yN hk,zJ,h.o,zE (by omega) (by omega),bs,←Ka,yR (by omega),bs,zZ (by grind),bs,zE (by omega) (by omega),bs,cs,zYd h hk,bs,zZ (by rw[xR];simp;omega),bs,bs,←e1,←e2,uI,uI];rfl) (by
  unfold zMC;simp only
  rw[h.m.d,vC,zK])
 exact this
theorem zK8:f_h x m T=dJ (ext n D x m T):=by
 have h6:=h.hn;have h3:=h.m.d3;have:=zO (body:=zS4 m) (r:=x.zA++J1 D m.Prime) (fun i=>(x.zA++J1 i m.Prime,((i:Nat):Int))) D (fun i hi=>by
  unfold zS4;simp only
  rw[h.m.d,yN hi,zJ,zZ (by rw[Ja,h.o];simp;omega),bs,zE (by omega) (by omega),bs,cs,Jb,←Jah]) (by
  unfold zS4;simp only
  rw[h.m.d,vC,zK])
 rw[Hm,Jg,show((0:Nat):Int)=0 from rfl]at this;unfold f_h;rw[uA (by rw[h.o];omega),bs,this,bs,zYc h,bs,zYe h,bs];rfl
end
end Go.Pl

namespace Go.Pl
open Go Go.Ab Go.Wk Go.Pc
theorem zJd{a b:List Int}(ha:a.length≤1000)(hb:b.length≤1000):f_u [a,b]=dJ (a++b):=by grind[zAs]
theorem zIk{v:Int}{k:Nat}(hk:k≤1000):∀d c:Nat,c≤k→(c=0→k=0)→k-c≤d→zH zFi (J1 c v++J1 (k-c) 0,(c:Int))=dJ (J1 k v):=by
 intro d
 induction d with
 |zero=>
  intro c h1 _ h3;obtain rfl:c=k:=by omega
  rw[xE];unfold zFi;simp
 |succ d ih=>
  intro c h1 h2 h3
  by_cases hc:c=k
  ·grind
  ·have hl:(J1 c v++J1 (k-c) (0:Int)).length=k:=by simp;omega
   have s1:zW (J1 c v++J1 (k-c) (0:Int)) (c:Int) (k:Int)=dJ (((J1 c v++J1 (k-c) (0:Int)).drop c).take (k-c)):=by
    unfold zW
    simp_all
   have s2:zW (J1 c v++J1 (k-c) (0:Int)) 0 (c:Int)=dJ (J1 c v):=by
    unfold zW
    simp_all
   have e1:(J1 c v).take (k-c)=J1 (min (k-c) c) v:=by simp
   have e2:wV (J1 c v++J1 (k-c) (0:Int)) c (J1 (min (k-c) c) v)=J1 (c+min c (k-c)) v++J1 (k-(c+min c (k-c))) 0:=by
    unfold wV;rw[K0 (by simp),K2,Nat.min_comm (k-c) c,Je,List.drop_append,K2,Gm (by rw[K2];omega),K1,L4]
    congr 2;omega
   have hb:zFi (J1 c v++J1 (k-c) 0,(c:Int))=dJ (.inl (J1 (c+min c (k-c)) v++J1 (k-(c+min c (k-c))) 0,((c+min c (k-c):Nat):Int))):=by
    unfold zFi;simp only
    rw[hl,yN (by omega),zJ,s1,bs,s2,bs,K2];simp only[J6];rw[e1,e2,←Ka,zE (by omega) (by omega),bs]
   rw[xE,hb];exact ih (c+min c (k-c)) (by omega) (by omega) (by omega)
theorem zMf{v:Int}{k:Nat}(hk:k≤30):f_w [v] (k:Int)=dJ (J1 k v):=by
 have key:∀k:Nat,k<31→zSc 1 (IntKind.wrap .u64 (k:Int))=dJ (0,(k:Int))∧yV (IntKind.wrap .i64 (k:Int))=dJ k:=by decide+kernel
 obtain⟨k1,k2⟩:=key k (by omega);unfold f_w;rw[dO (by omega),zK,zQL k1,bs];simp only[k2,bs];rw[show decide ((0:Int)> 0)=dM from rfl,zK,dO (by omega),zK]
 by_cases h0:k=0
 ·subst h0
  have:=zIk (v:=v) (k:=0) (by omega) 0 0 (by omega) (by omega) (by omega);rw[show wV (J1 0 (0:Int)) 0 (([v]:List Int).take ((J1 0 (0:Int)).length-0))=J1 0 v++J1 (0-0) 0 from rfl,show((min ([v]:List Int).length ((J1 0 (0:Int)).length-0):Nat):Int)=((0:Nat):Int)from rfl,this,bs]
 ·have:=zIk (v:=v) (k:=k) (by omega) k 1 (by omega) (by omega) (by omega)
  have e1:wV (J1 k (0:Int)) 0 (([v]:List Int).take ((J1 k (0:Int)).length-0))=J1 1 v++J1 (k-1) 0:=by
   unfold wV
   grind
  grind
theorem zOF{O:List Int}{N:Nat}(hO:O.length=N)(hN:N≤100):f_F O=dJ ⟨O,gl N (fun _=>J1 N 0),gl N (unC N)⟩:=by
 have hJ:∀i,i<N→zH (zPj O) ([],((i+1:Nat):Int))=dJ (unC N i):=fun i hi=>by
  have:=zO (body:=zPj O) (r:=unC N i) (fun j=>(gl j fun j=>wT N (i+1+j),((i+1+j:Nat):Int))) (N-1-i) (fun j hj=>by
   unfold zPj;simp only
   rw[hO,yN (by omega),zJ,tC (by omega) (by omega),bs,zZ (by grind),bs,zE (by omega) (by omega),bs,cs,uI (F:=fun j=>wT N (i+1+j))];rfl) (by
   unfold zPj;simp only
   rw[hO,show i+1+(N-1-i)=N from by omega,vC,zK,unC])
  exact this
 have:=zO (body:=zPk O) (r:=(gl N (fun _=>J1 N 0),gl N (unC N))) (fun i=>(gl i (fun _=>J1 N (0:Int)),gl i (unC N),((i:Nat):Int))) N (fun i hi=>by
  unfold zPk;simp only
  rw[hO,yN hi,zJ,yR (by omega),bs,zZ (by grind),bs,zE (by omega) (by omega),bs,cs,hJ i hi,bs,zZ (by rw[xR];simp;omega),bs,bs,uI (F:=unC N),uI (F:=fun _=>J1 N (0:Int))]) (by
  unfold zPk
  grind)
 unfold f_F;rw[jB (by omega),bs]
 grind
section
variable {n D:Nat}{x:SPr}{m:zC}{T:Mx} (h:zE8 n D x m T)
 include h
def exG(n N:Nat)(x:SPr)(m:zC)(T:Mx)(i t q:Nat):List Int:=if q<t then exF n x m T i q else wT N (i+1+q)
def exE(n D:Nat)(x:SPr)(m:zC)(T:Mx)(i t k:Nat):Mx:=if k<i then exC n D x m T k else if k=i then gl (n+D-1-i) (exG n (n+D) x m T i t)else unC (n+D) k
theorem zMg{i t:Nat}:exE n D x m T i t i=gl (n+D-1-i) (exG n (n+D) x m T i t):=by have _:=h;rw[exE,if_neg (by omega),if_pos rfl]
theorem zNL{i t:Nat}:(gl (n+D) (exE n D x m T i t)).set i ((gl (n+D-1-i) (exG n (n+D) x m T i t)).set t (exF n x m T i t))=gl (n+D) (exE n D x m T i (t+1)):=by
 have _:=h;rw[zMe,zMe];refine zAf fun k _=>?_
 by_cases hk:k=i
 ·subst hk
  rw[if_pos rfl,zMg h];refine zAf fun q _=>?_
  simp only[exG]
  grind
 ·rw[if_neg hk,exE,exE,if_neg hk,if_neg hk]
theorem zGG{i k:Nat}:exE n D x m T i 0 k=if k<i then exC n D x m T k else unC (n+D) k:=by
 have _:=h;rw[exE]
 by_cases h1:k<i
 ·grind
 ·rw[if_neg h1,if_neg h1]
  by_cases h2:k=i
  ·subst h2
   rw[if_pos rfl];rfl
  grind
theorem zQT{i:Nat}(hi:i<n):gl (n+D) (exE n D x m T i (n+D-1-i))=gl (n+D) (exE n D x m T (i+1) 0):=by
 refine zAf fun k _=>?_
 rw[zGG h,exE]
 by_cases h1:k<i
 ·grind
 ·rw[if_neg h1]
  by_cases h2:k=i
  ·subst h2
   rw[if_pos rfl,if_pos (by omega),exC,if_pos hi];exact zAf fun q hq=>by rw[exG,if_pos hq]
  grind
theorem zYf{i:Nat}(hi:i<n){C:List Mx}{w:Int}:zH (zMF T (C,w,(i:Int)) (x.zD.getD i [])) (gl (n+D) (exE n D x m T i 0),((base n i:Nat):Int),0)=dJ (gl (n+D) (exE n D x m T i (n-1-i)),((base n (i+1):Nat):Int)):=by
 have h6:=h.hn;have h3:=h.m.d3;have hc:=h.cl i hi;have hb:=zDT n (by omega) i hi;have po:=sN n (by omega);have:=zO (body:=zMF T (C,w,(i:Int)) (x.zD.getD i [])) (r:=(gl (n+D) (exE n D x m T i (n-1-i)),((base n (i+1):Nat):Int))) (fun j=>(gl (n+D) (exE n D x m T i j),((base n i+j:Nat):Int),((j:Nat):Int))) (n-1-i) (fun j hj=>by
  have a1:=h.ce i j;have a2:=h.tl (base n i+j);have e:exF n x m T i j=(x.zD.getD i []).getD j []++T.getD (base n i+j) []:=if_pos hj;unfold zMF;simp only
  rw[hc,yN hj,zJ,yE [] (by omega),bs,zGE (by omega),bs,yE [] (by rw[h.t];omega),bs,zJd (by omega) (by omega),bs,zMg h,zGE (by omega),bs,zE (by omega) (by omega),bs,zE (by omega) (by omega),bs,cs,cs,←e,J6,J6,zNL h];rfl) (by
  unfold zMF;simp only
  rw[hc,vC,zK,zOE n (by omega) i hi])
 exact this
theorem zYg{i:Nat}(hi:i<n){C:List Mx}{w:Int}:zH (zMG x (C,w,(i:Int)) (m.zI.getD i [])) (gl (n+D) (exE n D x m T i (n-1-i)),0)=dJ (gl (n+D) (exE n D x m T (i+1) 0)):=by
 have h6:=h.hn;have h3:=h.m.d3;have pc:=h.m.mat i hi;have:=zO (body:=zMG x (C,w,(i:Int)) (m.zI.getD i [])) (r:=gl (n+D) (exE n D x m T (i+1) 0)) (fun j=>(gl (n+D) (exE n D x m T i (n-1-i+j)),((j:Nat):Int))) D (fun j hj=>by
  have e:exF n x m T i (n-1-i+j)=J1 n 0++(m.zI.getD i []).getD j []:=by rw[exF,if_neg (by omega),show n-1-i+j-(n-1-i)=j from by omega]
  have hr:=(pc.2 j hj).1;unfold zMG;simp only
  rw[pc.1,yN hj,zJ,yE [] (by grind),bs,zGE (by omega),bs,h.o,zE (by omega) (by omega),bs,zE (by omega) (by omega),bs,zE (by omega) (by omega),bs,show(0:Int)=((0:Nat):Int)from rfl,zK0 (by omega) (by omega) (by omega),bs,
   show(n:Int)-1-(i:Int)+(j:Int)=((n-1-i+j:Nat):Int)from by omega,zMg h,zGE (by omega),bs,zE (by omega) (by omega),bs,cs,Hm,Jg,←e,J6,J6,zNL h];rfl) (by
  unfold zMG;simp only
  rw[pc.1,vC,zK,show n-1-i+D=n+D-1-i from by omega,zQT h hi])
 exact this
theorem zYh:zH (zMH x m T) (gl (n+D) (unC (n+D)),((n:Nat):Int),0)=dJ (gl (n+D) (exC n D x m T)):=by
 have h6:=h.hn;have h3:=h.m.d3;have po:=sN n (by omega);have:=zO (body:=zMH x m T) (r:=gl (n+D) (exC n D x m T)) (fun i=>(gl (n+D) (exE n D x m T i 0),((base n i:Nat):Int),((i:Nat):Int))) n (fun i hi=>by
  unfold zMH;simp only
  rw[h.o,yN hi,zJ,yE [] (by rw[h.c];exact hi),bs,zYf h hi,bs,yE [] (by rw[h.m.len];exact hi),bs,zYg h hi,bs,zE (by omega) (by omega),bs,cs]) (by
  unfold zMH;simp only
  rw[h.o,vC,zK]
  congr 2
  refine zAf fun k _=>?_
  rw[zGG h,exC]
  grind)
 have e:gl (n+D) (exE n D x m T 0 0)=gl (n+D) (unC (n+D)):=zAf fun k _=>by rw[zGG h,if_neg (by omega)]
 grind
theorem zYi:zH (zME x T) (gl (n+D) (fun _=>J1 (n+D) 0),0,0)=dJ (gl (n+D) (exP n D x T),((n:Nat):Int)):=by
 have h6:=h.hn;have h3:=h.m.d3;have po:=sN n (by omega);have:=zO (body:=zME x T) (r:=(gl (n+D) (exP n D x T),((n:Nat):Int))) (fun i=>(gl (n+D) (fun k=>if k<i then exP n D x T k else J1 (n+D) 0),((i:Nat):Int),((i:Nat):Int))) n (fun i hi=>by
  have a1:=h.pl i;have a2:=h.tl i;have e:exP n D x T i=x.zU.getD i []++T.getD i []:=if_pos hi;unfold zME;simp only
  rw[h.p,yN hi,zJ,yE [] (by rw[h.p];exact hi),bs,yE [] (by rw[h.t];omega),bs,zJd (by omega) (by omega),bs,zGE (by omega),bs,zE (by omega) (by omega),bs,bs,cs,←e,J6,zMe]
  grind) (by
  unfold zME;simp only
  rw[h.p,vC,zK]
  congr 3
  refine zAf fun k _=>?_
  by_cases hk:k<n
  ·grind
  ·rw[if_neg hk,exP,if_neg hk])
 grind
theorem zT1{v:Int}:f_w [v] m.Dim=dJ (J1 D v):=by rw[h.m.d];exact zMf (by have:=h.m.d3;omega)
theorem zGH:f_j x m T=dJ (ext n D x m T):=by
 have h6:=h.hn;have h3:=h.m.d3;unfold f_j;rw[jB (by rw[h.o];omega),bs,zT1 h,bs,zZ (by rw[h.o];simp;omega),bs,zOF (N:=n+D) (by rw[Ja,h.o];simp) (by omega),bs];simp only
 rw[zYi h,bs,zYh h,bs];rfl
end
end Go.Pl

namespace Go.Pl
open Go Go.Ab Go.Wk Go.Pc
theorem zIl{α:Type}{c:α→Nat}{b:Nat}:∀{xs:List α},(∀x∈xs,c x≤b)→sm c xs≤xs.length*b
 | [],_=>by simp[sm]
 |x::xs,h=>by
  have h1:=zIl (xs:=xs) fun y hy=>h y (by simp[hy])
  grind[sm,Lz]
theorem zJe{xs:Mx}{b:Nat}(h:∀i,i<xs.length→(xs.getD i []).length≤b)(i:Nat):(xs.getD i []).length≤b:=by grind
theorem zMh{x:SPr}{n:Nat}(ho:x.zA.length=n)(hn:n≤6):zUd x=dJ ((base n n:Nat):Int):=by
 unfold zUd;rw[ho];have key:∀n:Nat,n<7→((rng ((n:Int)-1)).bind fun v1=>(rng ((n:Int)*v1)).bind fun v2=>(uY v2 2).bind fun v3=>(rng ((n:Int)+v3)).bind fun v4=>dJ v4)=dJ ((base n n:Nat):Int):=by decide+kernel
 grind
theorem zMi{x:SPr}{n:Nat}(ho:x.zA.length=n)(hn:n≤6):zUf x=dJ ((base n n:Nat):Int):=by
 unfold zUf;rw[ho];have key:∀n:Nat,n<7→((rng ((n:Int)+1)).bind fun v1=>(rng ((n:Int)*v1)).bind fun v2=>(uY v2 2).bind fun v3=>dJ v3)=dJ ((base n n:Nat):Int):=by decide+kernel
 grind
theorem zE8.ofX{x:SPr}{m:zC}{D:Nat}{T:Mx}(hx:zEV x)(hm:zVT x.zA.length m D)(ht:T.length=base x.zA.length x.zA.length)(ft:∀i,(T.getD i []).length≤30):zE8 x.zA.length D x m T:=by
 have h6:=hx.n6;refine⟨h6,rfl,hx.pl,hx.cl,fun i hi=>by have:=(hx.tl i hi).2.1;omega,zJe fun i hi=>?_,fun i=>?_,ht,ft,hm⟩
 ·have:=(hx.tl i (by rw[←hx.pl];exact hi)).1.1.1
  omega
 ·rcases Jd i x.zA.length with g|g
  ·refine zJe fun j hj=>?_
   have:=((hx.tl i g).2.2 j hj).1.1;omega
  ·have e:x.zD.getD i []=[]:=by rw[J3,Jq (by rw[hx.cl];exact g)];rfl
   grind
theorem zE8.of{x:SPr}{m:zC}{D:Nat}{T:Mx}(hx:zEV x)(hm:MOk x.zA.length m D)(ht:T.length=base x.zA.length x.zA.length)(ft:∀i,(T.getD i []).length≤3):zE8 x.zA.length D x m T:=.ofX hx hm.x ht (by grind)
theorem zIm{n D:Nat}{x:SPr}{m:zC}{T:Mx}(h:zE8 n D x m T):sX (ext n D x m T):=by
 have h6:=h.hn;have h3:=h.m.d3;have hF:∀i,i<n→ ∀j,(exF n x m T i j).length≤36:=fun i hi j=>by
  have a1:=h.ce i j;have a2:=h.tl (base n i+j);have a3:=zJe (xs:=m.zI.getD i []) (b:=30) (fun k hk=>by have pc:=h.m.mat i hi;rw[pc.1]at hk;rw[(pc.2 k hk).1];omega) (j-(n-1-i))
  grind[exF]
 have hC:∀i,c2 (exC n D x m T i)≤1332:=fun i=>by
  unfold exC;split
  ·have:=zIl (c:=c1) (b:=36) (xs:=gl (n+D-1-i) (exF n x m T i)) (by grind)
   grind
  ·have:=zIl (c:=c1) (b:=36) (xs:=unC (n+D) i) fun y hy=>by
    obtain⟨j,_,rfl⟩:=Jh.1 hy;simp only[c1,wT,zX];omega
   have e:(unC (n+D) i).length=n+D-1-i:=xR
   grind
 refine⟨?_,?_,?_⟩
 ·simp only[S1,c1,ext,Ja,K2,h.o];omega
 ·have:=zIl (c:=c1) (b:=36) (xs:=gl (n+D) (exP n D x T)) fun y hy=>by
   obtain⟨j,_,rfl⟩:=Jh.1 hy;have a1:=h.pl j;have a2:=h.tl j;simp only[c1,exP]
   grind
  rw[xR]at this;have h8:(n+D)*36≤36*36:=by omega
  simp only[S2,ext,c2,xR];omega
 ·have:=zIl (c:=c2) (b:=1332) (xs:=gl (n+D) (exC n D x m T)) (by grind)
  rw[xR]at this;have h8:(n+D)*1332≤36*1332:=by omega
  simp only[S3,ext,c3,xR];omega
theorem zMj{x:SPr}{m:zC}{n D:Nat}{T:Mx}(h:zE8 n D x m T):∃g k,zMD x m T=dJ (g,k)∧zMI x m T=dJ (g,k)∧sX g:=by
 have hs:=zIm h;have eM:sX ⟨[],[],[]⟩:=⟨by simp,by simp[S2,c2,sm],by simp[S3,c3,sm]⟩;unfold zMD zMI;rw[zK8 h,zGH h,bs,bs];rcases(sJ hs.1).both (sH hs.1)with⟨s1,i1,_⟩|⟨s1,i1,_⟩
 all_goals simp_all
end Go.Pl

namespace Go.Pl
open Go Go.Ab Go.Wk Go.Pc
def zE9(x:SPr):Nat:=c1 x.zA+sm c1 x.zU+sm (sm c1) x.zD
def zIn(x:SPr)(k:Int):SPr:=⟨m1 k x.zA,m2 (k+c1 x.zA) x.zU,m3 (k+c1 x.zA+sm c1 x.zU) x.zD⟩
theorem kO{x:SPr}(h:sX x):zE9 x≤3145728:=by obtain⟨h1,h2,h3⟩:=h;have g2:=zDd (x:=x.zU);have g3:=zLK (x:=x.zD);simp only[S1]at h1;simp only[S2]at h2;simp only[S3]at h3;simp only[zE9];omega
theorem sK{x:SPr}{k:Int}(h:sX x)(k0:0≤k)(k1:k≤1000000000):zPa x k=dJ (k+zE9 x,zIn x k):=by have ht:=kO h;simp only[zE9]at ht;unfold zPa;rw[zGr h.1 k0 (by omega),bs,jP h.2.1 (by simp only;omega) (by simp only;omega),bs,zDF h.2.2 (by simp only;omega) (by simp only;omega),bs];simp only[zE9,zIn,Ka,Ja2]
theorem zAR{x:SPr}{k:Int}(h:sX x)(k0:0≤k)(k1:k≤1000000000):zS5 (zIn x k) k=dJ (k+zE9 x):=by
 have ht:=kO h;simp only[zE9]at ht;unfold zS5 zIn;simp only
 rw[zGs h.1 k0 (by omega),bs,dO (by omega),zK,zBO h.2.1 (by omega) (by omega),bs,dO (by omega),zK,zIT h.2.2 (by omega) (by omega),bs,dO (by omega),zK];simp only[zE9,Ka,Ja2]
end Go.Pl

namespace Go.Pl
open Go Go.Ab Go.Wk Go.Pc
end Go.Pl

namespace Go.Pl
open Go Go.Ab Go.Wk Go.Pc
end Go.Pl

namespace Go.Pl
open Go Go.Ab Go.Wk Go.Pc
theorem zMk{v:List Int}{k:Nat}(hl:v.length≤1000000)(hk:k<v.length)(h0:∀j,j<k→at0 v j=0)(h1:at0 v k≠0):zUn v=dJ (k:Int):=by
 unfold zUn;have:=zO (body:=zIw v) (r:=.inr (k:Int)) (fun i=>(i:Int)) k (fun i hi=>by
  unfold zIw zUm;rw[yN (by omega),zJ,yG (by omega),bs,bs,h0 i hi,bne_self_eq_false,zK,zE (by omega) (by omega),bs,cs]) (by
  unfold zIw zUm;rw[yN hk,zJ,yG hk,bs,bs,sY h1,zJ])
 have e:zH (zIw v) 0=dJ (.inr (k:Int)):=this;rw[e,bs]
section
variable {p:Int} (hp:Prime p) {n:Nat} (hn:n≤100000) {R:Mx}{pv:Nat→Nat} (h:Red p n R pv) {v:List Int} (hv:Row p n v)
 include hp hn h
theorem zK9(hm:R.length≤100000):zUo R=dJ (gl R.length fun i=>(pv i:Int)):=by
 have h7:=hp.pos;unfold zUo;rw[qI (body:=zLo R) R.length (fun i=>(pv i:Int)) (fun i acc hi ha=>by
  have hr:=h.row i hi;have h1:=h.one i hi;unfold zLo;simp only
  rw[yN hi,zJ,yE [] hi,bs,zMk (k:=pv i) (by rw[hr.1];omega) (by rw[hr.1];exact h.lt i hi) (fun j hj=>h.low i hi j hj) (by simp only[ent]at h1;omega),bs,zZ (by simp;omega),bs,zE (by omega) (by omega),bs,cs]) (fun acc=>by
  unfold zLo;simp only
  rw[vC,zK]),bs]
 include hv
theorem zQU{i:Nat}(hi:i<R.length):vA p n (cl p n R pv v i) (0-at0 (cl p n R pv v i) (pv i)) (R.getD i [])=cl p n R pv v (i+1):=by
 have _:=hp;have _:=hn;have _:=h;have _:=hv;have _:=hi;rw[cl];refine yA fun j _=>?_
 generalize at0 (cl p n R pv v i) (pv i)=a
 generalize at0 (R.getD i []) j=b
 rw[Us,Us,Hx];have e:at0 (cl p n R pv v i) j+(p*b-a*b)=at0 (cl p n R pv v i) j+(0-a*b)+p*b:=by omega
 rw[e,Lb]
theorem zGI{c:Int}(hm:R.length≤100000):zUp (zV.mk p c R) v=dJ (cl p n R pv v R.length):=by
 have h7:=hp.pos;have:=zO (body:=zIx (zV.mk p c R) (gl R.length fun i=>(pv i:Int))) (r:=cl p n R pv v R.length) (fun i=>(cl p n R pv v i,(i:Int))) R.length (fun i hi=>by
  have hr:=zDi hp hn h hv i;have ha:=hr.2 (pv i) (h.lt i hi);unfold zIx;simp only
  rw[xR,yN hi,zJ,zGE hi,bs,yE [] hi,bs,yG (by rw[hr.1];exact h.lt i hi),bs,zE (by omega) (by omega),bs,jA hp hr (h.row i hi) (by omega) (by omega),bs,zE (by omega) (by omega),bs,cs,zQU hp hn h hv hi]) (by
  unfold zIx;simp only
  rw[xR,vC,zK])
 unfold zUp;rw[jB (by rw[hv.1];omega),bs];simp only
 rw[zK9 hp hn h hm,bs];have e:zH (zIx (zV.mk p c R) (gl R.length fun i=>(pv i:Int))) (v,0)=dJ (cl p n R pv v R.length):=this;rw[e,bs]
theorem zT2:(∀j,j<n→at0 (cl p n R pv v R.length) j=0)↔Sp p n R v:=by
 have h7:=hp.pos;obtain⟨cf,fh⟩:=zNK hp hn h hv R.length (Jf _);have hr:=zDi hp hn h hv R.length;have hs:Sp p n R (mkv n fun j=>S R.length fun k=>cf k*ent R k j):=⟨cf,fun j hj=>by rw[yH hj]⟩;constructor
 ·intro h0
  refine qH (v:=mkv n fun _=>0) (w:=mkv n fun j=>S R.length fun k=>cf k*ent R k j) (k:=-1) (zAt fun j hj=>by rw[yH hj];rfl) hs fun j hj=>?_
  have h1:=fh j hj;rw[h0 j hj]at h1;rw[yH hj,yH hj]
  generalize (S R.length fun k=>cf k*ent R k j)=s at h1 ⊢
  have h2:(at0 v j+s)%p=0:=by rw[←h1];rfl
  have h3:(at0 v j-(0+ -1*s))%p=0:=by rw[←h2];congr 1;omega
  exact Int.emod_eq_emod_iff_emod_sub_eq_zero.2 h3
 ·intro cW j hj
  have h1:Sp p n R (cl p n R pv v R.length):=qH (k:=1) cW hs fun j hj=>by rw[fh j hj,yH hj,Ut]
  have h2:=h.expand h1 j hj;rw[vF (g:=fun _=>0) (fun i hi=>by rw[zQR hp hn h hv R.length (Jf _) i hi,Hx]),jZ]at h2;have h3:=hr.2 j hj;rw[Jv h3.1 (by omega)]at h2;rw[h2];rfl
end
end Go.Pl

namespace Go.Pl
open Go Go.Ab Go.Wk Go.Pc
section
variable {p:Int} (hp:1<p) {n:Nat}{R R':Mx}{pv pv':Nat→Nat} (h:Red p n R pv) (h':Red p n R' pv') (hs:∀i,i<R.length→Sp p n R' (R.getD i []))
 include hp h h' hs
theorem Red.lt_of{i i2 k k2:Nat}(hii:i<i2)(eE:i2<R.length)(hk:k<R'.length)(e:pv' k=pv i)(e2:pv' k2=pv i2):k<k2:=by
 have _:=hp;have _:=hs;have h1:=h.mono i i2 hii eE;refine Classical.byContradiction fun hn=>?_
 rcases Jd k2 k with g|g
 ·have:=h'.mono k2 k g hk;omega
 ·have:k=k2:=by omega
  subst this;omega
theorem Red.low_in:∀i,i<R.length→ ∃k,k<R'.length∧pv' k=pv i∧i≤k:=by
 intro i
 induction i with
 |zero=>intro hi;obtain⟨k,hk,e⟩:=h.piv_in hp h' hs hi;exact⟨k,hk,e,by omega⟩
 |succ i ih=>
  intro hi;obtain⟨k,hk,e,bY⟩:=ih (by omega);obtain⟨k2,fA,e2⟩:=h.piv_in hp h' hs hi;have:=h.lt_of hp h' hs (show i<i+1 by omega) hi hk e e2;exact⟨k2,fA,e2,by omega⟩
theorem Red.le_of:R.length≤R'.length:=by
 rcases Ja7 R.length with g|g
 ·omega
 ·obtain⟨k,hk,_,bY⟩:=h.low_in hp h' hs (R.length-1) (by omega)
  omega
end
end Go.Pl

namespace Go.Pl
open Go Go.Ab Go.Wk Go.Pc
end Go.Pl

namespace Go.Pl
open Go Go.Ab Go.Wk Go.Pc
theorem zFw{u v:List Int}{j:Nat}:at0 (u++v) j=if j<u.length then at0 u j else at0 v (j-u.length):=by grind
theorem qJ{v:List Int}{c j:Nat}:at0 (v.drop c) j=at0 v (c+j):=by simp
theorem zAS{v:List Int}{c j:Nat}(h:j<c):at0 (v.take c) j=at0 v j:=by grind
theorem zFx{f:Nat→Int}(t:Nat):∀d:Nat,S (t+d) f=S t f+S d (fun i=>f (t+i))
 |0=>by simp[S]
 |d+1=>by rw[←Nat.add_assoc];simp only[S];rw[zFx t d];omega
theorem zYO{f:Nat→Int}{t n:Nat}(ht:t≤n)(h:∀i,i<t→f i=0):S n f=S (n-t) (fun i=>f (t+i)):=by
 have e:n=t+(n-t):=by omega
 conv=>lhs;rw[e,zFx,vF (g:=fun _=>0) h,jZ]
 omega
theorem zT3{f:Nat→Int}{t n:Nat}(ht:t≤n)(h:∀i,t≤i→i<n→f i=0):S n f=S t f:=by
 have e:n=t+(n-t):=by omega
 conv=>lhs;rw[e,zFx,vF (f:=fun i=>f (t+i)) (g:=fun _=>0) (by grind),jZ]
 omega
theorem xS{F:Nat→List Int}{m i:Nat}(h:i<m):(gl m F).getD i []=F i:=by grind
def ur(N i:Nat):List Int:=mkv N fun j=>if j=i then 1 else 0
def wd(N:Nat)(A:Mx):Mx:=gl N fun i=>A.getD i []++ur N i
def Gr(p:Int)(c N:Nat)(A:Mx)(u:List Int):Prop:=∀j,j<c→at0 u j%p=(S N fun k=>at0 u (c+k)*ent A k j)%p
section
variable {p:Int} (hp:1<p) {c N:Nat}{A:Mx} (hA:∀i,i<N→Row p c (A.getD i []))
 include hA
theorem zBq:(wd N A).length=N:=by have _:=hA;exact xR
theorem zFy{i j:Nat}(hi:i<N)(hj:j<c):ent (wd N A) i j=ent A i j:=by rw[ent,wd,xS hi,zFw,(hA i hi).1,if_pos hj]
theorem zAT{i l:Nat}(hi:i<N)(hl:l<N):ent (wd N A) i (c+l)=if l=i then 1 else 0:=by
 rw[ent,wd,xS hi,zFw,(hA i hi).1,if_neg (by omega),Lf,ur,yH hl]
 include hp
theorem zQV{i:Nat}(hi:i<N):Row p (c+N) ((wd N A).getD i []):=by
 refine⟨by rw[wd,xS hi,Ja,(hA i hi).1,ur,zX],fun j hj=>?_⟩;rcases Jd j c with g|g
 ·have:=(hA i hi).2 j g
  have e:=zFy hA hi g
  grind
 ·have e:=zAT hA (l:=j-c) hi (by omega)
  grind
theorem zYj{u:List Int}:Sp p (c+N) (wd N A) u↔Gr p c N A u:=by
 have _:=hp;constructor
 ·rintro⟨cf,fh⟩ j hj
  rw[zBq hA]at fh;rw[←fh j (by omega)];refine zDK fun k hk=>?_
  have h1:=fh (c+k) (by omega);rw[zAO (k:=k) hk (fun i hi gf=>by rw[zAT hA hi hk,if_neg (Ne.symm gf),Hy]),zAT hA hk hk,if_pos rfl,Lm]at h1;rw[zFy hA hk hj,Jo,h1,←Jo]
 ·intro h
  refine⟨fun k=>at0 u (c+k),fun j hj=>?_⟩;rw[zBq hA];rcases Jd j c with g|g
  ·rw[h j g]
   refine congrArg (· %p) (vF fun k hk=>?_);rw[zFy hA hk g]
  ·obtain⟨l,rfl⟩:∃l,j=c+l:=⟨j-c,by omega⟩
   rw[zAO (k:=l) (by omega) (fun i hi gf=>by rw[zAT hA hi (by omega),if_neg (Ne.symm gf),Hy]),zAT hA (by omega) (by omega),if_pos rfl,Lm]
variable {W:Mx}{pv:Nat→Nat} (hW:Red p (c+N) W pv) (hs:qB p (c+N) W (wd N A))
 include hW
theorem zVY:∃t,t≤W.length∧(∀i,i<t→pv i<c)∧ ∀i,t≤i→i<W.length→c≤pv i:=by
 have _:=hA;have _:=hp;obtain⟨t,ht,ef⟩:=zC7 (p:=fun t=>W.length≤t∨c≤pv t) ⟨W.length,.inl (Jf _)⟩;have gE:∀i,i<t→i<W.length∧pv i<c:=fun i hi=>by have:=ef i hi;exact⟨Jal fun h=>this (.inl h),Jal fun h=>this (.inr h)⟩
 refine⟨t,Nat.le_of_not_lt fun h=>?_,fun i hi=>(gE i hi).2,fun i hi eE=>?_⟩
 ·have:=(gE W.length h).1;omega
 ·rcases ht with h|h
  ·omega
  ·rcases Jd t i with g|g
   ·have:=hW.mono t i g eE;omega
   ·rw[show i=t from by omega];exact h
def nul(c t:Nat)(W:Mx):Mx:=gl (W.length-t) fun i=>(W.getD (t+i) []).drop c
def lft(c t:Nat)(W:Mx):Mx:=gl t fun i=>(W.getD i []).take c
 omit hp hA hW in
theorem zJf{t i j:Nat}(hi:t+i<W.length):ent (nul c t W) i j=ent W (t+i) (c+j):=by
  rw[ent,nul,xS (by omega),qJ]
 omit hp hA hW in
theorem zDU{t i j:Nat}(hi:i<t)(hj:j<c):ent (lft c t W) i j=ent W i j:=by rw[ent,lft,xS hi,zAS hj]
variable {t:Nat} (ht:t≤W.length) (h1:∀i,i<t→pv i<c) (h2:∀i,t≤i→i<W.length→c≤pv i)
 include ht h1 h2
theorem zT4:Red p N (nul c t W) (fun i=>pv (t+i)-c):=by
 have _:=hp;have _:=hA;have _:=h1;have _:=ht;have hl:(nul c t W).length=W.length-t:=xR;have hpc:∀i,i<W.length-t→c≤pv (t+i):=by grind
 refine⟨fun i hi=>?_,fun i hi=>?_,fun i hi=>?_,fun i hi j hj=>?_,fun i k hi hk gf=>?_,fun i j eh hj=>?_⟩
 ·rw[hl]at hi
  have hr:=hW.row (t+i) (by omega);refine⟨by rw[nul,xS hi,Ki,hr.1];omega,fun j hj=>?_⟩;have:=hr.2 (c+j) (by omega)
  grind[nul]
 ·rw[hl]at hi
  have:=hW.lt (t+i) (by omega)
  grind
 ·rw[hl]at hi
  rw[zJf (by omega),show c+(pv (t+i)-c)=pv (t+i)from by grind];exact hW.one _ (by omega)
 ·rw[hl]at hi
  rw[zJf (by omega)];exact hW.low _ (by omega) _ (by omega)
 ·rw[hl]at hi hk
  rw[zJf (by omega),show c+(pv (t+i)-c)=pv (t+i)from by grind];exact hW.off _ _ (by omega) (by omega) (by omega)
 ·rw[hl]at hj
  have:=hW.mono (t+i) (t+j) (by omega) (by omega)
  grind
 include hs
theorem zYP{u:List Int}:Sp p (c+N) W u↔Gr p c N A u:=by have _:=hW;have _:=ht;have _:=h1;have _:=h2;exact hs.iff.trans (zYj hp hA)
theorem zT5:Red p c (lft c t W) pv:=by
 have _:=hp;have _:=hA;have _:=hs;have _:=h2;have hl:(lft c t W).length=t:=xR;refine⟨fun i hi=>?_,by grind,fun i hi=>?_,fun i hi j hj=>?_,fun i k hi hk gf=>?_,fun i j eh hj=>hW.mono i j eh (by omega)⟩
 ·rw[hl]at hi
  have hr:=hW.row i (by omega);refine⟨by rw[lft,xS hi,Jr,hr.1];omega,fun j hj=>?_⟩;rw[lft,xS hi,zAS hj];exact hr.2 j (by omega)
 ·rw[hl]at hi
  rw[zDU hi (h1 i hi)];exact hW.one _ (by omega)
 ·rw[hl]at hi
  have:=h1 i hi;rw[zDU hi (by omega)];exact hW.low _ (by omega) _ hj
 ·rw[hl]at hi hk
  rw[zDU hk (h1 i hi)];exact hW.off _ _ (by omega) (by omega) gf
theorem zVZ(fH:A.length=N):qB p c (lft c t W) A:=by
 have hl:(lft c t W).length=t:=xR;constructor
 ·intro i hi
  rw[hl]at hi;have hg:=(zYP hp hA hW hs ht h1 h2).1 (qG (p:=p) (n:=c+N) (R:=W) (i:=i) (by omega));refine⟨fun k=>ent W i (c+k),fun j hj=>?_⟩;rw[fH,lft,xS hi,zAS hj];exact(hg j hj).symm
 ·intro k hk
  rw[fH]at hk;obtain⟨cf,fh⟩:=hs.2 k (by rw[zBq hA];exact hk);refine⟨cf,fun j hj=>?_⟩;have h3:=fh j (by omega);have e:=zFy hA hk hj;simp only[ent]at e;rw[e,zT3 ht (fun i g1 g2=>by rw[hW.low i g2 j (by grind),Hy])]at h3;rw[hl,←h3];exact congrArg (· %p) (by grind[vF,zDU])
end
end Go.Pl

namespace Go.Pl
open Go Go.Ab Go.Wk Go.Pc
theorem zDV{v:List Int}(hl:v.length≤1000000):IsB (f_D v) (∀i,i<v.length→at0 v i=0):=by
 refine sG v.length (fun i=>at0 v i=0) rfl (fun i hi _=>?_) ?_
 ·refine vZ (o:=dJ (at0 v i==0)) (IsB.of_bool (by simp)) (by omega) ?_
  unfold zKS;rw[yN hi,zJ,yG hi,bs,bs];rfl
 ·unfold zKS
  simp
end Go.Pl

namespace Go.Pl
open Go Go.Ab Go.Wk Go.Pc
end Go.Pl

namespace Go.Pl
open Go Go.Ab Go.Wk Go.Pc
section
variable {n D:Nat}{m:zC} (hm:MOk n m D) (hn:n≤9)
 include hm hn
def zYk(m:zC)(D:Nat)(rows:Mx):Prop:=∀i,i<rows.length→Row m.Prime D (rows.getD i [])
theorem zJg{rows:Mx}(hl:rows.length≤1048576):IsB (zW2 m rows) (zYk m D rows):=by
 have _:=hn;have h3:=hm.d3;refine sG (body:=zLg m rows) rows.length (fun i=>Row m.Prime D (rows.getD i [])) rfl (fun i hi _=>?_) ?_
 ·refine vZ (zEY hm.p (D:=D) (by omega)) (by omega) ?_
  unfold zLg;rw[yN hi,zJ,yE [] hi,bs,hm.d]
 ·unfold zLg
  simp
end
end Go.Pl

namespace Go.Pl
open Go Go.Ab Go.Wk Go.Pc
structure Nul (p:Int) (c N:Nat) (A W:Mx) (pv:Nat→Nat) (t:Nat):Prop where
 row:∀i,i<N→Row p c (A.getD i [])
 len:A.length=N
 red:Red p (c+N) W pv
 sp:qB p (c+N) W (wd N A)
 le:t≤W.length
 lo:∀i,i<t→pv i<c
 hi:∀i,t≤i→i<W.length→c≤pv i
section
variable {p:Int} (hp:Prime p) {c N:Nat} (gD:c+N≤100000) {A W:Mx}{pv:Nat→Nat}{t:Nat}
 include hp gD
theorem Nul.get(hr:∀i,i<N→Row p c (A.getD i []))(hl:A.length=N):∃W pv t,Nul p c N A W pv t∧f_m p (wd N A)=dJ W∧f_g p (wd N A)=dJ W:=by have h7:=hp.pos;obtain⟨W,pv,r1,r2,r3,r4⟩:=zBX hp (n:=c+N) gD (rows:=wd N A) (by rw[zBq hr];omega) (fun i hi=>zQV (by omega) hr (by rwa [zBq hr]at hi));obtain⟨t,t1,t2,t3⟩:=zVY (by omega) hr r3;exact⟨W,pv,t,⟨hr,hl,r3,r4,t1,t2,t3⟩,r1,r2⟩
variable (h:Nul p c N A W pv t)
 include h
theorem Nul.nred:Red p N (nul c t W) (fun i=>pv (t+i)-c):=by have _:=gD;have h7:=hp.pos;exact zT4 (by omega) h.row h.red h.le h.lo h.hi
theorem Nul.full:W.length=N:=by
 have h7:=hp.pos;have g1:W.length≤(wd N A).length:=zGD hp (n:=c+N) gD (by rw[zBq h.row];omega) (fun i hi=>zQV (by omega) h.row (by rwa [zBq h.row]at hi)) h.red h.sp;rw[zBq h.row]at g1;have hl:(gl W.length fun i=>(W.getD i []).drop c).length=W.length:=xR;have hR:∀i,i<W.length→Row p N ((gl W.length fun i=>(W.getD i []).drop c).getD i []):=fun i hi=>by have hr:=h.red.row i hi;rw[xS hi];refine⟨by rw[Ki,hr.1];omega,fun j hj=>?_⟩;rw[qJ];exact hr.2 (c+j) (by omega)
 obtain⟨R3,pv3,_,_,g3,g4⟩:=zBX hp (n:=N) (by omega) (rows:=gl W.length fun i=>(W.getD i []).drop c) (by omega) (by rw[hl];exact hR);have g5:=zGD hp (n:=N) (by omega) (by omega) (by rw[hl];exact hR) g3 g4;have ew:(gl N (ur N)).length=N:=xR;have pg:∀i j,i<N→j<N→ent (gl N (ur N)) i j=if j=i then 1 else 0:=fun i j hi hj=>by rw[ent,xS hi,ur,yH hj]
 have gU:Red p N (gl N (ur N)) (fun i=>i):=by
  refine⟨fun i hi=>?_,fun i hi=>by omega,fun i hi=>?_,fun i hi j hj=>?_,fun i k hi hk gf=>?_,fun i j eh hj=>eh⟩
  ·rw[ew]at hi
   rw[xS hi];refine⟨zX _ _,fun j hj=>?_⟩;rw[ur,yH hj];split<;>omega
  ·rw[ew]at hi
   rw[pg i i hi hi,if_pos rfl]
  ·rw[ew]at hi
   rw[pg i j hi (by omega),if_neg (by omega)]
  ·rw[ew]at hi hk
   rw[pg k i hk hi,if_neg (Ne.symm gf)]
 have g6:=gU.le_of (by omega) g3 (fun i hi=>by rw[ew]at hi;refine g4.iff.2 ?_;obtain⟨cf,fh⟩:=h.sp.2 i (by rw[zBq h.row];exact hi);refine⟨cf,fun j hj=>?_⟩;have h1:=fh (c+j) (by omega);have h2:=zAT h.row hi hj;simp only[ent]at h2;rw[h2]at h1;have h3:=pg i j hi hj;simp only[ent]at h3;rw[h3,hl,←h1];exact congrArg (· %p) (vF fun k hk=>by rw[ent,xS hk,qJ]))
 omega
 omit h in
theorem zMl{N:Nat}(hN:N≤100000):f_I (N:Int)=dJ (gl N (ur N)):=by
  have _:=hp;have _:=gD;unfold f_I;rw[qI (body:=zKR (N:Int)) N (ur N) (fun i acc hi ha=>by
    unfold zKR;simp only
    rw[yN hi,zJ,yR (by omega),bs,vE,K3,if_pos hi,bs,J6,tV,jH,zZ (by simp;omega),bs,zE (by omega) (by omega),bs,cs];rfl) (fun acc=>by
    unfold zKR;simp only
    rw[vC,zK]),bs]
 omit h in
theorem zIo(hr:∀i,i<N→Row p c (A.getD i []))(hl:A.length=N):zS3 p A=f_m p (wd N A):=by
  unfold zS3;rw[hl,zMl hp gD (by omega),bs,qI (body:=zLe A (gl N (ur N))) N (fun i=>A.getD i []++ur N i) (fun i acc hi ha=>by
    unfold zLe;simp only
    rw[hl,yN hi,zJ,yE [] (by omega),bs,uA (by rw[(hr i hi).1];omega),bs,zGE hi,bs,zZ (by rw[(hr i hi).1,ur,zX];omega),bs,zZ (by simp;omega),bs,zE (by omega) (by omega),bs,cs]) (fun acc=>by
    unfold zLe;simp only
    rw[hl,vC,zK]),bs]
  show(f_m p (wd N A)).bind _=_;cases f_m p (wd N A)<;>rfl
theorem zOG:zH (zIu (c:Int) W) ([],0)=dJ (nul c t W):=by
 have hf:=h.full hp gD;have eQ:=h.le;have:=zO (body:=zIu (c:Int) W) (r:=nul c t W) (fun i=>(gl (i-t) (fun k=>(W.getD (t+k) []).drop c),(i:Int))) W.length (fun i hi=>by
  have hr:=h.red.row i hi;have h1:=h.red.one i hi;have gE:=h.red.lt i hi;have cH:=zFv (n:=c+N) hr.1 (by omega) gE (h.red.low i hi) (by simp only[ent]at h1;omega);unfold zIu;simp only
  rw[yN hi,zJ,yE [] hi,bs,cH,bs];rcases Jd i t with g|g
  ·have:=h.lo i g
   rw[dO (by omega),zK,zE (by omega) (by omega),bs,cs,show i-t=0 from by omega,show i+1-t=0 from by omega]
  ·have:=h.hi i g hi
   have e:zW (W.getD i []) (c:Int) ((W.getD i []).length:Int)=dJ ((W.getD i []).drop c):=by unfold zW;rw[if_pos ⟨by omega,by rw[hr.1];omega,by omega⟩,J6,J6,Ji (by rw[Ki];omega)]
   rw[dP (by omega),zJ,bs,e,bs,uA (by rw[Ki,hr.1];omega),bs,zZ (by rw[xR];simp;omega),bs,zE (by omega) (by omega),bs,cs,show i+1-t=(i-t)+1 from by omega,←uI,show t+(i-t)=i from by omega]) (by
  unfold zIu;simp only
  rw[vC,zK];rfl)
 rw[show 0-t=0 from by omega]at this;exact this
end
end Go.Pl

namespace Go.Pl
open Go Go.Ab Go.Wk Go.Pc
end Go.Pl

namespace Go.Pl
open Go Go.Ab Go.Wk Go.Pc
end Go.Pl

namespace Go.Pl
open Go Go.Ab Go.Wk Go.Pc
theorem zGJ{α:Type}{f:α→α}{a:α}(h:f a=a):∀k,iter k f a=a
 |0=>rfl
 |k+1=>by show iter k f (f a)=a;rw[h];exact zGJ h k
theorem zQW{p:Int}{D:Nat}{A:List Mx}:∀(v:Vec)(o:Nat)(B:Mx),o+v.length≤A.length→wM p D A (nw o v) B=img (PM p D) (A.drop o) v B
 | [],o,B,_=>by simp[nw,wM,img]
 |a::v,o,B,h=>by
  simp only[K4]at h;have e:A.drop o=A.getD o []::A.drop (o+1):=by grind[H2]
  rw[e];simp only[nw,img];rw[zE5,zG8,zQW v (o+1) _ (by omega)]
theorem zKA:∀(k o:Nat),nw o (zeros k)=[]
 |0,_=>rfl
 |k+1,o=>by rw[show zeros (k+1)=0::zeros k from rfl];simp only[nw];rw[zKA k];rfl
section
variable {x:SPr}{m:zC}{D:Nat} (h:Pres x) (hm:zVU x.zA.length m D) (hr:zHp x m D)
 include hm
 include h hr
theorem zNM:∀(d k:Nat),k+d=x.zA.length→Rel (PM m.Prime D) (idM D) (suf x k) (m.zI.drop k)
 |0,k,hk=>by rw[uH (by omega),Gm (by rw[hm.len];omega)];exact rfl
 |d+1,k,pK=>by
  have h6:=h.os.1;have hk:k<x.zA.length:=by omega
  have gm:=hm.len;have e:m.zI.drop k=m.zI.getD k []::m.zI.drop (k+1):=by simp_all
  obtain⟨t1,t2,t3⟩:=h.tl k hk;obtain⟨r1,r2⟩:=hr k hk;have bh:∀v,Exp x.zA v k→wM m.Prime D m.zI (nw 0 v) (idM D)=img (PM m.Prime D) (m.zI.drop (k+1)) (v.drop (k+1)) (idM D):=fun v hv=>by
   have hl:=hv.1.1
   conv=>lhs;rw[zAK hv hk]
   rw[zE4,zKA,K1,zS,zQW _ _ _ (by grind),J8]
  rw[yL hk,e];refine⟨?_,fun q c dd hc hd=>?_,zNM d (k+1) (by omega)⟩
  ·grind[pw,lvl,zG8]
  ·rw[H0]at hc
   have hq:k+1+q<m.zI.length:=by grind
   have ac:c=m.zI.getD (k+1+q) []:=by grind
   have mZ:dd=((x.zD.getD k []).getD q []).drop (k+1):=by grind[lvl]
   have:=r2 (k+1+q) (by omega) (by omega);rw[show k+1+q-(k+1)=q from by omega]at this;rw[ac,mZ,this,bh _ (t3 q (by omega))]
end
end Go.Pl

namespace Go.Pl
open Go Go.Ab Go.Wk Go.Pc
theorem zAu{p:Int}{c N:Nat}(gD:c+N≤100000){A:Mx}(hr:∀i,i<N→Row p c (A.getD i []))(hl:A.length=N):zSz A=dJ (wd N A):=by
 unfold zSz;rw[qI (body:=zKZ A) N (fun i=>A.getD i []++ur N i) (fun i acc hi ha=>by
  have h1:=(hr i hi).1;have e:wV (J1 (c+N) (0:Int)) 0 ((A.getD i []).take (((J1 (c+N) (0:Int)).length)-0))=A.getD i []++J1 N 0:=by unfold wV;rw[K2,Ji (l:=A.getD i []) (by omega),Jz,K1,h1,L4];simp
  have e2:ixO (A.getD i []++J1 N (0:Int)) ((c+i:Nat):Int)=dJ 0:=by rw[vE,J7 (by omega),h1,K3,if_pos (by omega)]
  unfold zKZ;simp only
  rw[hl,yN hi,zJ,yE [] (by omega),bs,h1,←Ka,zE (by omega) (by omega),bs,yR (by omega),bs,←Ka,zE (by omega) (by omega),bs,e,e2,bs,J6,Hd _ _ (by omega),h1,Lf,tV,jH,zZ (by simp;omega),bs,zE (by omega) (by omega),bs,cs];rfl) (fun acc=>by
  unfold zKZ
  grind),bs]
 rfl
end Go.Pl

namespace Go.Pl
open Go Go.Ab Go.Wk Go.Pc
theorem zKB{p:Int}(hp:Prime p){n:Nat}(hn:n≤100000){R:Mx}{pv:Nat→Nat}(h:Red p n R pv):f_m p R=dJ R∧f_g p R=dJ R:=by
 have h7:=hp.pos;have hl:R.length≤n:=h.len_le;obtain⟨R2,pv2,r1,r2,r3,r4⟩:=zBX hp hn (rows:=R) (by omega) h.row;have e:=r3.unique (by omega) h r4
 grind
section
variable {p:Int} (hp:Prime p) {c N:Nat} (gD:c+N≤100000) {A W:Mx}{pv:Nat→Nat}{t:Nat}
 include hp gD
theorem zKC(h:Nul p c N A W pv t):zH (zIy (c:Int) W) ([],0)=dJ (nul c t W):=by
 have h7:=hp.pos;have hf:=h.full hp gD;have eQ:=h.le;have:=zO (body:=zIy (c:Int) W) (r:=nul c t W) (fun i=>(gl (i-t) (fun k=>(W.getD (t+k) []).drop c),(i:Int))) W.length (fun i hi=>by
  have hr:=h.red.row i hi;have h1:=h.red.one i hi;have e0:zW (W.getD i []) 0 (c:Int)=dJ ((W.getD i []).take c):=by unfold zW;rw[if_pos ⟨by omega,by omega,by rw[hr.1];omega⟩,J6,show(0:Int).toNat=0 from rfl,Ga,Gb]
  have ft:((W.getD i []).take c).length=c:=by rw[Jr,hr.1];omega
  have hz:=zDV (v:=(W.getD i []).take c) (by omega);unfold zIy;simp only
  rw[yN hi,zJ,yE [] hi,bs,e0,bs];rcases Jd i t with g|g
  ·have ej:=h.lo i g
   rcases hz with⟨_,z⟩|⟨z,_⟩
   ·grind
   ·rw[z,bs,zK,zE (by omega) (by omega),bs,cs,show i-t=0 from by omega,show i+1-t=0 from by omega]
  ·have eS:=h.hi i g hi
   have e:zW (W.getD i []) (c:Int) ((W.getD i []).length:Int)=dJ ((W.getD i []).drop c):=by unfold zW;rw[if_pos (by grind),J6,J6,Ji (by rw[Ki];omega)]
   rcases hz with⟨z,_⟩|⟨_,z⟩
   ·rw[z,bs,zJ,e,bs,zZ (by grind),bs,zE (by omega) (by omega),bs,cs,show i+1-t=(i-t)+1 from by omega,←uI,show t+(i-t)=i from by omega]
   ·refine absurd (fun j hj=>?_) z
    rw[ft]at hj;rw[zAS hj];have:=h.red.low i hi j (by omega);omega) (by
  unfold zIy;simp only
  rw[vC,zK];rfl)
 grind
end
end Go.Pl

namespace Go.Pl
open Go Go.Ab Go.Wk Go.Pc
section
variable {x:SPr} (h:Pres x)
 include h
theorem zQX:∀k,k≤x.zA.length→2*((Jl k).flatMap (R2 x)).length+k*k+k=2*(x.zA.length*k)
 |0,_=>by simp
 |k+1,hk=>by
  have ih:=zQX k (by omega);have t2:=(h.tl k (by omega)).2.1;have e:((Jl (k+1)).flatMap (R2 x)).length=((Jl k).flatMap (R2 x)).length+(x.zD.getD k []).length:=by rw[L6,Uj,Ja];simp[R2]
  have e3:(k+1)*(k+1)=k*k+2*k+1:=by rw[Q2 (k+1) k,Lz k k];omega
  have e4:x.zA.length*(k+1)=x.zA.length*k+x.zA.length:=Q2 _ _;rw[e,e3,e4];omega
theorem zOH:2*(wF x).length=x.zA.length*(x.zA.length+1):=by have:=zQX h x.zA.length (Jf _);simp only[wF,Ja,Jt,Up];rw[Q2];omega
end
theorem zEA{α:Type}{F:α→List Int}{D:Nat}:∀(L:List α),(∀q∈L,(F q).length=D)→((L.map F).flatten).length=L.length*D
 | [],_=>by simp
 |y::L,h=>by
  have:=zEA L fun q hq=>h q (by simp[hq])
  have:=h y (by simp);simp only[Jm,List.flatten_cons,Ja,K4,Lz];omega
def zKD{α:Type}(N:Nat)(F:Nat→α→List Int)(L:List α):Mx:=gl N fun k=>(L.map (F k)).flatten
section
variable {α:Type}{p:Int}{N D:Nat}{F:Nat→α→List Int} (hF:∀k,k<N→ ∀q,Row p D (F k q))
 include hF
theorem zOI(L:List α):∀k,k<N→Row p (L.length*D) ((zKD N F L).getD k []):=by intro k hk;rw[zKD,xS hk];refine zJc.2 ⟨zEA L fun q _=>(hF k hk q).1,fun v hv=>?_⟩;obtain⟨r,h1,h2⟩:=Jai.1 hv;obtain⟨q,_,rfl⟩:=Jh.1 h1;exact(zJc.1 (hF k hk q)).2 v h2
end
def zAk(n D:Nat)(v:List Int):Mx:=gl n fun i=>mkv D fun j=>at0 v (i*D+j)
theorem zQY{v:List Int}{D a:Nat}(h:a+D≤v.length):(v.drop a).take D=mkv D fun j=>at0 v (a+j):=by
 have hl:((v.drop a).take D).length=D:=by rw[Jr,Ki];omega
 rw[vO hl];exact yA fun j hj=>by rw[zAS hj,qJ]
theorem zIp{v:List Int}{D a:Nat}(h:a+D≤v.length):zW v (a:Int) ((a+D:Nat):Int)=dJ (mkv D fun j=>at0 v (a+j)):=by unfold zW;rw[if_pos ⟨by omega,by omega,by omega⟩,J6,J6,Lf,zQY h]
theorem zWa{p:Int}{n D:Nat}{v:List Int}(hv:Row p (n*D) v):VOk n p D (zAk n D v):=by
 refine⟨xR,fun i hi=>?_⟩;rw[zAk,xS hi];refine⟨zX _ _,fun j hj=>?_⟩;rw[yH hj];have:i*D+D≤n*D:=by have:=H1 D (show i+1≤n by omega);rw[Lz]at this;exact this
 exact hv.2 _ (by omega)
end Go.Pl

namespace Go.Pl
open Go Go.Ab Go.Wk Go.Pc
theorem zNN{p:Int}{n:Nat}{R R':Mx}{pv:Nat→Nat}{v:List Int}:∀i,(∀k,k<i→R.getD k []=R'.getD k [])→cl p n R pv v i=cl p n R' pv v i
 |0,_=>rfl
 |i+1,h=>by rw[cl,cl,zNN i fun k hk=>h k (by omega),h i (by omega)]
theorem Red.sub{p:Int}{n:Nat}{R:Mx}{pv:Nat→Nat}(h:Red p n R pv){t:Nat}(ht:t≤R.length):Red p n (gl t fun i=>R.getD i []) pv:=by
 have hl:(gl t fun i=>R.getD i []).length=t:=xR;have he:∀i j,i<t→ent (gl t fun i=>R.getD i []) i j=ent R i j:=fun i j hi=>by rw[ent,xS hi]
 refine⟨fun i hi=>?_,fun i hi=>h.lt i (by omega),fun i hi=>?_,fun i hi j hj=>?_,fun i k hi hk gf=>?_,fun i j eh hj=>h.mono i j eh (by omega)⟩
 ·rw[hl]at hi
  rw[xS hi];exact h.row i (by omega)
 ·rw[hl]at hi
  rw[he _ _ hi];exact h.one i (by omega)
 ·rw[hl]at hi
  rw[he _ _ hi];exact h.low i (by omega) j hj
 ·rw[hl]at hi hk
  rw[he _ _ hk];exact h.off i k (by omega) (by omega) gf
end Go.Pl

namespace Go.Pl
open Go Go.Ab Go.Wk Go.Pc
theorem zNO{n D i:Nat}(hi:i<n):i*D+D≤n*D:=by
 have:=H1 D (show i+1≤n by omega)
 grind
theorem zGK{n D:Nat}(hD:1≤D){v:List Int}(hl:v.length=n*D)(hs:n*D≤100000):zPi v (D:Int)=dJ (zAk n D v):=by
 have hn:n≤n*D:=Ja6 n hD;have:=zO (body:=zLf v (D:Int)) (r:=zAk n D v) (fun i=>(gl i fun i=>mkv D fun j=>at0 v (i*D+j),((i*D:Nat):Int))) n (fun i hi=>by
  have h1:=zNO (D:=D) hi;unfold zLf;simp only
  rw[dP (by omega),zJ,←Ka,zE (by omega) (by omega),bs,zIp (by omega),bs,jB (by grind[zX]),bs,zZ (by rw[xR];simp;omega),bs,bs,uI,←Lz]) (by
  unfold zLf;simp only
  rw[dO (by omega),zK];rfl)
 grind[zPi]
theorem zKE{n D:Nat}(hD:1≤D)(hD3:D≤1000){v:List Int}(hl:v.length=n*D)(hs:n*D≤100000):f_X v (D:Int)=dJ (zAk n D v):=by
 have hn:n≤n*D:=Ja6 n hD;have:=zO (body:=zSG v (D:Int)) (r:=zAk n D v) (fun i=>(gl i fun i=>mkv D fun j=>at0 v (i*D+j),((i*D:Nat):Int))) n (fun i hi=>by
  have h1:=zNO (D:=D) hi;unfold zSG;simp only
  rw[←Ka,zE (by omega) (by omega),bs,dP (by omega),zJ,bs,zIp (by omega),bs,uA (by grind[zX]),bs,zZ (by rw[xR];simp;omega),bs,bs,uI,←Lz]) (by
  unfold zSG;simp only
  rw[←Ka,zE (by omega) (by omega),bs,dO (by omega),zK];rfl)
 grind[f_X]
section
variable {x:SPr} (h:Pres x) {m:zC}{D:Nat} (hm:MOk x.zA.length m D)
 include h hm
section
variable {vals:Mx} (hv:VOk x.zA.length m.Prime D vals)
 include hv
theorem zMm:f_o x m vals=dJ ((wF x).map (dfc m D vals)):=by
 have h6:=h.os.1;have h7:=hm.p.pos;have h3:=hm.d3;have pF:=h.pl;have gI:=h.cl;have hz:=zGB (p:=m.Prime) (D:=D) (by omega);unfold f_o;rw[hm.d,yR (by omega),bs];have e1:=qI (body:=zSI x m vals D) x.zA.length (fun i=>dfc m D vals (r1 x i)) (fun i acc hi ha=>by
  obtain⟨p1,p2⟩:=qA h.os (h.tl i hi).1;have ho:=(h.os.2 i hi).pos;unfold zSI;simp only
  rw[yN hi,zJ];rw[vJ (S:=Row m.Prime D) (body:=zSH x m vals (acc,(i:Int))) (fun v=>v) (fun v=>stp m D vals v i) (at0 x.zA i) (by omega) (by grind[zBo]) (fun u q hu hq=>by
   unfold zSH;simp only
   rw[yG hi,bs,dP hq,zJ,zAQ hm h6 hv hu hi,bs,zE (by omega) (by omega),bs,cs]) (fun u hu=>by
   unfold zSH;simp only
   rw[yG hi,bs,dO (by omega),zK]) hz,bs,zE (by omega) (by omega),bs,yE [] (by omega),bs,zFa hm h6 hv hz p1 p2,bs,←zLY]
  have e1:f_s m.Prime (ev m D vals (z0 D) (J1 (at0 x.zA i).toNat i)) (m.Prime-1) (ev m D vals (z0 D) (nw 0 (x.zU.getD i [])))=dJ (dfc m D vals (r1 x i)):=by rw[uB hm.p (zDh hm h6 hv hz _) (zDh hm h6 hv hz _) (by omega) (by omega),zBn];rfl
  grind[zZ,zE]) (fun acc=>by
  unfold zSI;simp)
 rw[e1,bs];have a9:=zGA h;have e2:=zO (body:=zSK x m vals D) (r:=(wF x).map (dfc m D vals)) (fun i=>(((Jl x.zA.length).map (fun i=>dfc m D vals (r1 x i)))++((Jl i).flatMap (R2 x)).map (dfc m D vals),(i:Int))) x.zA.length (fun i hi=>by
  have t2:=(h.tl i hi).2.1;have hfi:=a9 i (by omega);unfold zSK;simp only
  rw[yN hi,zJ,zE (by omega) (by omega),bs,cs];have hJ:=zO (body:=zSJ x m vals D (((Jl x.zA.length).map (fun i=>dfc m D vals (r1 x i)))++((Jl i).flatMap (R2 x)).map (dfc m D vals),(i:Int)))
   (r:=((Jl x.zA.length).map (fun i=>dfc m D vals (r1 x i)))++((Jl (i+1)).flatMap (R2 x)).map (dfc m D vals))
   (fun j=>(((Jl x.zA.length).map (fun i=>dfc m D vals (r1 x i)))++((Jl i).flatMap (R2 x)).map (dfc m D vals)++(Jl j).map (fun j=>dfc m D vals (r2 x i j)),((i+1+j:Nat):Int))) (x.zD.getD i []).length (fun j hj=>by
   obtain⟨c1,c2⟩:=qA h.os ((h.tl i hi).2.2 j hj);have mW:i+1+j<x.zA.length:=by omega
   have s1:=zAQ hm h6 hv hz mW;have s2:=zAQ hm h6 hv (zBo hm h6 hv (v:=z0 D) (w:=i+1+j)) hi;have s3:=zAQ hm h6 hv hz hi;have s4:=zFa hm h6 hv (zBo hm h6 hv (v:=z0 D) (w:=i)) c1 c2;unfold zSJ;simp only
   rw[yN mW,zJ,s1,bs,s2,bs,s3,bs,yE [] (by omega),bs,zE (by omega) (by omega),bs,zE (by omega) (by omega),bs,show(((i+1+j:Nat):Int)-(i:Int)-1)=(j:Int)from by omega,yE [] hj,bs,s4,bs,zE (by omega) (by omega),bs];have e2:f_s m.Prime (stp m D vals (stp m D vals (z0 D) (i+1+j)) i) (m.Prime-1) (ev m D vals (stp m D vals (z0 D) i) (nw 0 ((x.zD.getD i []).getD j [])))=dJ (dfc m D vals (r2 x i j)):=by
    rw[uB hm.p (zBo hm h6 hv) (by grind[zDh,zBo]) (by omega) (by omega),zBn];simp only[dfc,r2,ev,List.foldl_cons,List.foldl_nil]
    grind
   rw[e2,bs,zZ (by grind[Jt]),bs,zE (by omega) (by omega),bs,cs,L6,Ls,Jb];rfl) (by
   unfold zSJ;simp only
   rw[show i+1+(x.zD.getD i []).length=x.zA.length from by omega,vC,zK,L6 (n:=i),Uj,Ls,←Jb];simp[R2])
  simp_all) (by
  unfold zSK;simp only
  rw[vC,zK];simp only[wF,Ls,Uo];rfl)
 simp_all
end
def uv(n D k:Nat):Mx:=zAk n D (wT (n*D) k)
theorem zNP{k:Nat}:VOk x.zA.length m.Prime D (uv x.zA.length D k):=by have _:=h;have h7:=hm.p.pos;exact zWa (zOD h7.1)
theorem zWb:∀k,k<x.zA.length*D→ ∀q,Row m.Prime D (dfc m D (uv x.zA.length D k) q):=fun k _ q=>by have _:=h;exact jS hm.p
theorem zQZ{k:Nat}:zPi (wT (x.zA.length*D) k) (D:Int)=dJ (uv x.zA.length D k):=by have h6:=h.os.1;have h3:=hm.d3;have fW:x.zA.length*D≤9*3:=Ku h6 h3;exact zGK hm.d1 (zX _ _) (by omega)
theorem zWc{k:Nat}:f_X (wT (x.zA.length*D) k) (D:Int)=dJ (uv x.zA.length D k):=by have h6:=h.os.1;have h3:=hm.d3;have fW:x.zA.length*D≤9*3:=Ku h6 h3;exact zKE hm.d1 (by omega) (zX _ _) (by omega)
theorem zGL{vals:Mx}{L:List Rl}:((L.map (dfc m D vals)).flatten).length=L.length*D:=by have _:=h;have _:=hm;grind[zEA,zDL]
theorem zFh:zUs x m=dJ (zKD (x.zA.length*D) (fun k=>dfc m D (uv x.zA.length D k)) (wF x)):=by
 have h6:=h.os.1;have h3:=hm.d3;have fW:x.zA.length*D≤9*3:=Ku h6 h3;have fS:=zIZ h hm (zNP h hm (k:=0));have aL:(wF x).length*D≤100*3:=Ku fS h3;unfold zUs;rw[hm.d,←Jan,zE (by omega) (by omega),bs];rw[qI (body:=zLq x m ((x.zA.length*D:Nat):Int)) (x.zA.length*D) (fun k=>((wF x).map (dfc m D (uv x.zA.length D k))).flatten) (fun k acc hk ha=>by
  unfold zLq;simp only
  rw[yN hk,zJ,tC hk (by omega),bs,hm.d,zQZ h hm,bs,zJa h hm (zNP h hm (k:=k)),bs,zAs (by simp;omega) (by rw[zGL h hm];omega),bs,zZ (by simp;omega),bs,zE (by omega) (by omega),bs,cs]) (fun acc=>by
  unfold zLq;simp),bs]
 rfl
theorem zOJ{k N:Nat}:(J1 N (0:Int)).set k 1=wT N k:=by have _:=h;have _:=hm;rw[tV,jH,wT]
theorem zKF:zUr x m=dJ (zKD (x.zA.length*D) (fun k=>dfc m D (uv x.zA.length D k)) (wF x)):=by
 have h6:=h.os.1;have h3:=hm.d3;have fW:x.zA.length*D≤9*3:=Ku h6 h3;have fS:=zIZ h hm (zNP h hm (k:=0));have aL:(wF x).length*D≤100*3:=Ku fS h3;unfold zUr;rw[hm.d,←Jan,zE (by omega) (by omega),bs];rw[qI (body:=zLp x m ((x.zA.length*D:Nat):Int)) (x.zA.length*D) (fun k=>((wF x).map (dfc m D (uv x.zA.length D k))).flatten) (fun k acc hk ha=>by
  unfold zLp;simp only
  rw[yN hk,zJ,yR (by omega),bs,vE,K3,if_pos hk,bs,J6,zOJ h hm,hm.d,zWc h hm,bs,zMm h hm (zNP h hm (k:=k)),bs,zIj (by simp;omega) (by rw[zGL h hm];omega),bs,zZ (by simp;omega),bs,zE (by omega) (by omega),bs,cs]) (fun acc=>by
  unfold zLp;simp),bs]
 rfl
end
end Go.Pl

namespace Go.Pl
open Go Go.Ab Go.Wk Go.Pc
theorem zRa{v:List Int}{k:Nat}(hl:v.length≤1000000)(hk:k<v.length)(h0:∀j,j<k→at0 v j=0)(h1:at0 v k≠0):zUv v=dJ (k:Int):=by
 unfold zUv;have:=zO (body:=zLr v) (r:=.inr (k:Int)) (fun i=>(i:Int)) k (fun i hi=>by
  unfold zLr zUu;rw[yN (by omega),zJ,yG (by omega),bs,bs,h0 i hi,bne_self_eq_false,zK,zE (by omega) (by omega),bs,cs]) (by
  unfold zLr zUu;rw[yN hk,zJ,yG hk,bs,bs,sY h1,zJ])
 grind
theorem zIq{b:List Int}{N:Nat}(h:b.length+N≤1000000):wY b (N:Int) (0:Int)=dJ (b++J1 N 0):=by unfold wY;rw[if_pos (by omega),J6]
section
variable {p:Int} (hp:Prime p) {c N:Nat} (gD:c+N≤100000) {A W:Mx}{pv:Nat→Nat}{t:Nat} (h:Nul p c N A W pv t)
 include hp gD h
def sy(p:Int)(c N:Nat)(W:Mx)(pv:Nat→Nat)(b:List Int)(t:Nat):List Int:=cl p (c+N) W pv (b++J1 N 0) t
def sx(p:Int)(c N:Nat)(W:Mx)(pv:Nat→Nat)(b:List Int)(t:Nat):List Int:=mkv N fun j=>(0-at0 (sy p c N W pv b t) (c+j))%p
theorem zJh{b:List Int}(hb:Row p c b):Row p (c+N) (b++J1 N 0):=by
 have _:=gD;have _:=h;have h7:=hp.pos;refine⟨by rw[Ja,hb.1,K2],fun j hj=>?_⟩;rw[zFw,hb.1];split
 ·next g=>exact hb.2 j g
 ·next g=>
  have:at0 (J1 N (0:Int)) (j-c)=0:=by simp[at0,J3,show j-c<N by omega]
  omega
theorem zGM{b:List Int}(hb:Row p c b)(t:Nat):Row p (c+N) (sy p c N W pv b t):=zDi hp gD h.red (zJh hp gD h hb) t
theorem zMn{b:List Int}:Row p N (sx p c N W pv b t):=by have _:=gD;have _:=h;have h7:=hp.pos;refine⟨zX _ _,fun j hj=>?_⟩;rw[sx,yH hj];have e1:=Kx (0-at0 (sy p c N W pv b t) (c+j)) (show p≠0 by omega);have e2:=Kd (0-at0 (sy p c N W pv b t) (c+j)) (show 0<p by omega);omega
theorem zGN{y:List Int}(hy:y.length=c+N):zW y 0 (c:Int)=dJ (y.take c):=by have _:=hp;have _:=gD;have _:=h;unfold zW;rw[if_pos (by omega),J6,show(0:Int).toNat=0 from rfl,Ga,Gb]
theorem zBr{y:List Int}(hy:y.length=c+N):zW y (c:Int) ((c+N:Nat):Int)=dJ (y.drop c):=by have _:=hp;have _:=gD;have _:=h;unfold zW;rw[if_pos (by omega),J6,J6,Ji (by grind)]
theorem zOK:zH (zPp (c:Int) W) ([],0)=dJ (gl t fun i=>W.getD i []):=by
 have hf:=h.full hp gD;have eQ:=h.le;have:=zO (body:=zPp (c:Int) W) (r:=gl t fun i=>W.getD i []) (fun i=>(gl (min i t) (fun i=>W.getD i []),(i:Int))) W.length (fun i hi=>by
  have hr:=h.red.row i hi;have h1:=h.red.one i hi;have gE:=h.red.lt i hi;have cH:=zFv (n:=c+N) hr.1 (by omega) gE (h.red.low i hi) (by simp_all);unfold zPp;simp only
  rw[yN hi,zJ,yE [] hi,bs,cH,bs];rcases Jd i t with g|g
  ·have:=h.lo i g
   rw[dP (by omega),zJ,bs,zZ (by grind),bs,zE (by omega) (by omega),bs,cs,Li (by omega),Li (by omega:i+1≤t),uI]
  ·have:=h.hi i g hi
   rw[dO (by omega),zK,zE (by omega) (by omega),bs,cs,G5 g,G5 (by omega:t≤i+1)]) (by
  unfold zPp
  simp_all)
 grind
theorem zKG{b:List Int}(hb:Row p c b):zH (zPq (zV.mk p (c:Int) A) W) (b++J1 N 0,0)=dJ (sy p c N W pv b t):=by
 have h7:=hp.pos;have hf:=h.full hp gD;have eQ:=h.le;have hv:=zJh hp gD h hb;have:=zO (body:=zPq (zV.mk p (c:Int) A) W) (r:=sy p c N W pv b t) (fun i=>(sy p c N W pv b (min i t),(i:Int))) W.length (fun i hi=>by
  have hr:=h.red.row i hi;have h1:=h.red.one i hi;have gE:=h.red.lt i hi;have hix:=zRa (v:=W.getD i []) (k:=pv i) (by rw[hr.1];omega) (by grind) (h.red.low i hi) (by simp_all);unfold zPq;simp only
  rw[yN hi,zJ,yE [] hi,bs,hix,bs];rcases Jd i t with g|g
  ·have:=h.lo i g
   have hy:=zGM hp gD h hb i;have ha:=hy.2 (pv i) gE;rw[dP (by omega),zJ,Li (by omega),yG (by rw[hy.1];exact gE),bs,zE (by omega) (by omega),bs,jA hp hy hr (by omega) (by omega),bs,zE (by omega) (by omega),bs,cs,Li (by omega:i+1≤t)];rw[sy,zQU hp gD h.red hv hi];rfl
  ·have:=h.hi i g hi
   rw[dO (by omega),zK,zE (by omega) (by omega),bs,cs,G5 g,G5 (by omega:t≤i+1)]) (by
  unfold zPq
  simp_all)
 rw[Nat.zero_min]at this;exact this
def ng(p:Int)(c N:Nat)(y:List Int)(i:Nat):List Int:=mkv (c+N) fun j=>if c≤j∧j<c+i then(0-at0 y j)%p else at0 y j
theorem zRb{y:List Int}(hy:Row p (c+N) y):zH (zPr (zV.mk p (c:Int) A) y) (y,0)=dJ (ng p c N y N):=by
 have h7:=hp.pos;have eW:=hy.1;have:=zO (body:=zPr (zV.mk p (c:Int) A) y) (r:=ng p c N y N) (fun i=>(ng p c N y i,(i:Int))) N (fun i hi=>by
  have hl:(ng p c N y i).length=c+N:=zX _ _;have b5:((ng p c N y i).drop c).length=N:=by grind
  have he:at0 ((ng p c N y i).drop c) i=at0 y (c+i):=by rw[qJ,ng,yH (by omega),if_neg (by omega)]
  have hb:=hy.2 (c+i) (by omega);unfold zPr;simp only
  rw[J6,J6,eW,Lf,yN hi,zJ,zBr hp gD h hl,bs,yG (by omega),bs,he,zE (by omega) (by omega),bs,zEZ hp (by omega) (by omega),bs,bs,yG (by omega),bs,zE (by omega) (by omega),bs,cs,←Ka,J6]
  congr 3
  rw[ng,jH];refine yA fun j hj=>?_
  by_cases e:j=c+i
  ·simp_all
  omega) (by
  unfold zPr;simp only
  rw[J6,J6,eW,Lf,vC,zK])
 have e:ng p c N y 0=y:=by
  conv=>rhs;rw[vO eW]
  exact yA (by omega)
 grind
theorem zRc{b:List Int}:(ng p c N (sy p c N W pv b t) N).drop c=sx p c N W pv b t:=by
 have _:=hp;have _:=gD;have _:=h;have hl:((ng p c N (sy p c N W pv b t) N).drop c).length=N:=by grind[ng,zX]
 rw[vO hl];refine yA fun j hj=>?_
 rw[qJ,ng,yH (by omega),if_pos (by omega)]
theorem zMo{b:List Int}:(mkv N fun j=>(at0 ((sy p c N W pv b t).drop c) j*(p-1))%p)=sx p c N W pv b t:=by
 have _:=hp;have _:=gD;have _:=h;refine yA fun j hj=>?_
 rw[qJ]
 generalize at0 (sy p c N W pv b t) (c+j)=a
 have e:a*(p-1)=(0-a)+p*a:=by grind
 simp_all
theorem zDk(h2:f_m p (wd N A)=dJ W){b:List Int}(hb:Row p c b):f_R p A (c:Int) b=(zS8 ((sy p c N W pv b t).take c)).bind fun r13=>cond (!r13) (dJ ([],dM)) (dJ (cl p N (nul c t W) (fun i=>pv (t+i)-c) (sx p c N W pv b t) (nul c t W).length,dL)):=by
 have h7:=hp.pos;have hr:=h.row;have hl:=h.len;have hf:=h.full hp gD;have eQ:=h.le;have hy:=zGM hp gD h hb t;have hK:=h.nred hp gD;have hKl:(nul c t W).length≤N:=hK.len_le;have hx:=zMn hp gD h (b:=b);have bV:cl p (c+N) (gl t fun i=>W.getD i []) pv (b++J1 N 0) (gl t fun i=>W.getD i []).length=sy p c N W pv b t:=by grind[sy,zNN]
 have bL:zUc p A (c:Int)=dJ (nul c t W):=by grind[zUc,zIo,zOG]
 have b5:Row p N ((sy p c N W pv b t).drop c):=by refine⟨by rw[Ki,hy.1];omega,fun j hj=>?_⟩;rw[qJ];exact hy.2 _ (by omega)
 have hgl:(gl t fun i=>W.getD i []).length=t:=xR;unfold f_R;rw[zIo hp gD hr hl,h2,bs,uA (by rw[hb.1];omega),bs,hl,zIq (by rw[hb.1];omega),bs,zOK hp gD h,bs,zDj hp gD (h.red.sub eQ) (zJh hp gD h hb) (by omega),bs,bV,zGN hp gD h hy.1,bs,zE (by omega) (by omega),bs,hy.1,zBr hp gD h hy.1,bs,zGC hp (by omega) b5 (by omega) (by omega),bs,bL,bs,zMo hp gD h,zDj hp (by omega) hK hx (by omega),bs]
 omit h in
theorem zMp(hr:∀i,i<N→Row p c (A.getD i []))(hl:A.length=N){b:List Int}(hb:Row p c b):∃r ok,f_R p A (c:Int) b=dJ (r,ok)∧f_y (zV.mk p (c:Int) A) b=dJ (r,ok)∧r.length≤N:=by
  have h7:=hp.pos;obtain⟨W,pv,t,h,h2,h3⟩:=Nul.get hp gD hr hl;have hf:=h.full hp gD;have eQ:=h.le;have hy:=zGM hp gD h hb t;have hK:=h.nred hp gD;have hKl:(nul c t W).length≤N:=hK.len_le;have hx:=zMn hp gD h (b:=b);have gI:=zDi hp (by omega) hK hx (nul c t W).length;have dn:zUq p A (c:Int)=dJ (nul c t W):=by unfold zUq;rw[zAu gD hr hl,bs,h3,bs,zKC hp gD h,bs,(zKB hp (by omega) hK).2,bs]
  have ft:((sy p c N W pv b t).take c).length=c:=by rw[Jr,hy.1];omega
  have es:=zDk hp gD h h2 hb;have ei:f_y (zV.mk p (c:Int) A) b=(f_D ((sy p c N W pv b t).take c)).bind fun r13=>cond (!r13) (dJ ([],dM)) (dJ (cl p N (nul c t W) (fun i=>pv (t+i)-c) (sx p c N W pv b t) (nul c t W).length,dL)):=by
    unfold f_y zW5;simp only
    rw[jB (by rw[hb.1];omega),bs,hl,zIq (by rw[hb.1];omega),bs,zAu gD hr hl,bs,h3,bs,zKG hp gD h hb,bs,zGN hp gD h hy.1,bs,hy.1,zBr hp gD h hy.1,bs,zRb hp gD h hy,bs,dn,bs,bs,zBr hp gD h (y:=ng p c N (sy p c N W pv b t) N) (zX _ _),bs,zRc hp gD h,zGI hp (by omega) hK hx (by omega),bs]
  rw[es,ei];rcases(zCr (v:=(sy p c N W pv b t).take c) (by omega)).both (zDV (by omega))with⟨z1,z2,_⟩|⟨z1,z2,_⟩
  · rw[z1,z2,bs,J9,zK]
    exact⟨_,_,rfl,rfl,by rw[gI.1];omega⟩
  simp_all
end
end Go.Pl

namespace Go.Pl
open Go Go.Ab Go.Wk Go.Pc
end Go.Pl

namespace Go.Pl
open Go Go.Ab Go.Wk Go.Pc
theorem zGO{N c:Nat}{f:Nat→Int}:(mkv N f).drop c=mkv (N-c) fun i=>f (c+i):=by
 have hl:((mkv N f).drop c).length=N-c:=by rw[Ki,zX]
 grind[vO,yA,qJ,yH]
theorem jV{n j:Nat}:wK n j=mkv n fun i=>if i=j then 1 else 0:=by rw[wK,show zeros n=J1 n (0:Int)from rfl,tV,jH]
theorem uN{n i:Nat}:at0 (zeros n) i=0:=by
 rcases Jd i n with g|g
 ·simp[zeros,at0,J3,g]
 ·simp[zeros,at0,J3,g]
theorem zCB.p{x:SPr}(h:zCB x)(hl:x.zA.length≤9):Pres x:=⟨⟨hl,h.os.2⟩,h.pl,h.cl,h.tl⟩
structure ExB (n D:Nat) (x:SPr) (m:zC) (T:Mx):Prop where
 hn:n≤6
 o:x.zA.length=n
 p:x.zU.length=n
 c:x.zD.length=n
 cl:∀i,i<n→(x.zD.getD i []).length=n-1-i
 t:T.length=base n n
 m:zVU n m D
theorem zE8.b{n D:Nat}{x:SPr}{m:zC}{T:Mx}(h:zE8 n D x m T)(hm:MOk n m D):ExB n D x m T:=⟨h.hn,h.o,h.p,h.c,h.cl,h.t,hm.b⟩
section
variable {D:Nat}{x:SPr}{m:zC}{T:Mx} (h:Pres x) (hE:ExB x.zA.length D x m T) (hT:∀i,i<T.length→Row m.Prime D (T.getD i []))
 include h hE hT
abbrev exx(D:Nat)(x:SPr)(m:zC)(T:Mx):SPr:=ext x.zA.length D x m T
theorem uO:(exx D x m T).zA.length=x.zA.length+D:=by have _:=h;have _:=hE;have _:=hT;simp[exx,ext]
theorem zCu{i:Nat}(hi:i<x.zA.length):at0 (exx D x m T).zA i=at0 x.zA i:=by
 have _:=h;have _:=hE;have _:=hT;show at0 (x.zA++J1 D m.Prime) i=_
 grind
theorem zBs{i:Nat}(hi:x.zA.length≤i)(h2:i<x.zA.length+D):at0 (exx D x m T).zA i=m.Prime:=by
 have _:=h;have _:=hE;have _:=hT;show at0 (x.zA++J1 D m.Prime) i=_
 grind
theorem zMq{v t:List Int}{i:Nat}(hv:v.length=x.zA.length)(hr:∀j,j<x.zA.length→0≤at0 v j∧at0 v j≤at0 x.zA j-1)(hz:∀j,j≤i→j<x.zA.length→at0 v j=0)(ht:Row m.Prime D t)(hi:i<x.zA.length):Exp (exx D x m T).zA (v++t) i:=by
 have hl:=uO h hE hT;refine⟨⟨by rw[Ja,hv,ht.1,hl],fun j hj=>?_⟩,fun j hj=>?_⟩
 ·rw[Ja,hv,ht.1]at hj
  rw[zFw,hv];split
  ·grind[zCu]
  ·next g=>rw[zBs h hE hT (by omega) hj];exact ht.2 _ (by omega)
 grind
theorem zKH(i:Nat)(hi:i<base x.zA.length x.zA.length):Row m.Prime D (T.getD i []):=by have _:=h;exact hT i (by rw[hE.t];exact hi)
theorem zFz:zCB (exx D x m T):=by
 have hn:=hE.hn;have h3:=hE.m.d3;have h7:=hE.m.p.pos;have hl:=uO h hE hT;have hb:=sN x.zA.length (by omega);refine⟨⟨trivial,fun i hi=>?_⟩,by rw[hl];exact xR,by rw[hl];exact xR,fun i hi=>?_⟩
 ·rw[hl]at hi
  rcases Jd i x.zA.length with g|g
  ·rw[zCu h hE hT g];exact h.os.2 i g
  ·rw[zBs h hE hT g hi];exact hE.m.p
 ·rw[hl]at hi
  have hP:(exx D x m T).zU.getD i []=exP x.zA.length D x T i:=xS hi;have hC:(exx D x m T).zD.getD i []=exC x.zA.length D x m T i:=by
   show(gl (x.zA.length+D) (exC x.zA.length D x m T)).getD i []=_
   grind
  refine⟨?_,?_,?_⟩
  ·rw[hP,exP]
   rcases Jd i x.zA.length with g|g
   ·rw[if_pos g]
    obtain⟨t1,_,_⟩:=h.tl i g;exact zMq h hE hT t1.1.1 (fun j hj=>t1.1.2 j (by rw[t1.1.1];exact hj)) (fun j hj _=>t1.2 j hj) (by grind[zKH]) g
   ·rw[if_neg (by omega)]
    have hz:∀j,at0 (J1 (x.zA.length+D) (0:Int)) j=0:=fun j=>uN
    refine⟨⟨by grind,fun j hj=>?_⟩,fun j _=>hz j⟩;rw[K2]at hj;rw[hz];rcases Jd j x.zA.length with g2|g2
    ·rw[zCu h hE hT g2];have:=(h.os.2 j g2).pos;omega
    grind[zBs]
  ·grind[exC,unC]
  ·rw[hC,exC]
   split
   ·next g=>
    intro j hj;rw[xR]at hj;rw[xS hj,exF];split
    ·next g2=>
     have gI:=hE.cl i g;have pm:=zDT x.zA.length (by omega) i g;obtain⟨_,_,t3⟩:=h.tl i g;have t:=t3 j (by omega);exact zMq h hE hT t.1.1 (fun q hq=>t.1.2 q (by rw[t.1.1];exact hq)) (fun q hq _=>t.2 q hq) (by grind[zKH]) g
    ·next g2=>
     have hz:∀j,at0 (J1 x.zA.length (0:Int)) j=0:=fun j=>uN
     refine zMq h hE hT (by simp) (fun q hq=>?_) (fun q _ _=>hz q) ((hE.m.mat i g).2 _ (by omega)) g;rw[hz];have:=(h.os.2 q hq).pos;omega
   ·next g=>
    intro j hj;rw[unC,xR]at hj;rw[unC,xS hj];refine⟨⟨by rw[hl];exact zX _ _,fun q hq=>?_⟩,fun q hq=>?_⟩
    ·rw[wT,zX]at hq
     rw[wT,yH hq];rcases Jd q x.zA.length with g2|g2
     ·rw[zCu h hE hT g2];have:=(h.os.2 q g2).pos;omega
     grind[zBs]
    ·rw[wT,yH (by omega),if_neg (by omega)]
theorem zGP{k:Nat}(hk:k<x.zA.length):(lvl (exx D x m T) k).o=at0 x.zA k:=zCu h hE hT hk
theorem zUW{k:Nat}(hk:k<x.zA.length):(lvl (exx D x m T) k).w=(lvl x k).w++T.getD k []:=by have t1:=(h.tl k hk).1.1.1;have _:=hE;have _:=hT;show((exx D x m T).zU.getD k []).drop (k+1)=_;have hP:(exx D x m T).zU.getD k []=exP x.zA.length D x T k:=xS (by omega);rw[hP,exP,if_pos hk,Kf (by omega)];rfl
def eC1(x:SPr)(T:Mx)(k:Nat):List Vec:=gl (x.zA.length-1-k) fun j=>(lvl x k).cs.getD j []++T.getD (base x.zA.length k+j) []
def eC2(x:SPr)(m:zC)(D k:Nat):List Vec:=((gl D fun j=>(m.zI.getD k []).getD j []).map fun r=>zeros (x.zA.length-1-k)++r)
theorem zGQ{k:Nat}(hk:k<x.zA.length):(lvl (exx D x m T) k).cs=eC1 x T k++eC2 x m D k:=by
 have gI:=hE.cl k hk;have _:=hT;show((exx D x m T).zD.getD k []).map (·.drop (k+1))=_;have hC:(exx D x m T).zD.getD k []=exC x.zA.length D x m T k:=by
  show(gl (x.zA.length+D) (exC x.zA.length D x m T)).getD k []=_
  grind
 rw[hC,exC,if_pos hk];apply K9;intro j
 by_cases hj:j<x.zA.length+D-1-k
 ·have e1:((gl (x.zA.length+D-1-k) (exF x.zA.length x m T k)).map (·.drop (k+1)))[j]? =dJ ((exF x.zA.length x m T k j).drop (k+1)):=by grind
  rw[e1,exF]
  by_cases g:j<x.zA.length-1-k
  ·rw[if_pos g,Jx (by grind[eC1])]
   have t:=(h.tl k hk).2.2 j (by omega);rw[Kf (by have:=t.1.1;omega)];have e2:(eC1 x T k)[j]? =dJ ((lvl x k).cs.getD j []++T.getD (base x.zA.length k+j) []):=by simp[eC1,gl,g]
   rw[e2]
   congr 2
   simp only[lvl,J3,Jp]
   grind
  ·rw[if_neg g,J7 (by grind[eC1]),eC1,xR]
   have e2:(eC2 x m D k)[j-(x.zA.length-1-k)]? =dJ (zeros (x.zA.length-1-k)++(m.zI.getD k []).getD (j-(x.zA.length-1-k)) []):=by simp[eC2,gl,show j-(x.zA.length-1-k)<D by omega]
   rw[e2,Kf (by simp;omega),L4,show x.zA.length-(k+1)=x.zA.length-1-k from by omega];rfl
 ·rw[Jq (by grind),Jq (by simp[eC1,eC2,gl];omega)]
end
def tlv(p:Int):Nat→Pcp
 |0=>[]
 |d+1=>⟨p,zeros d,xU d⟩::tlv p d
theorem zF0{p:Int}:∀d,(tlv p d).length=d
 |0=>rfl
 |d+1=>by simp[tlv,zF0 d]
theorem zFb{p:Int}:∀(d:Nat)(v:Vec),V (tlv p d) v↔Row p d v
 |0,v=>by
  constructor
  ·intro h
   obtain rfl:v=[]:=h;exact⟨rfl,fun i hi=>by omega⟩
  ·intro h
   have:=Kn h.1;subst this;exact rfl
 |d+1,v=>by
  cases v with
  |nil=>exact⟨fun h=>h.elim,fun h=>by have:=h.1;grind⟩
  |cons a v=>
   show((0≤a∧a<p)∧V (tlv p d) v)↔_;rw[zFb d v];constructor
   ·rintro⟨⟨h0,h1⟩,h2⟩
    refine⟨by simp[h2.1],fun i hi=>?_⟩;cases i with
    |zero=>grind
    |succ i=>have:=h2.2 i (by omega);grind
   ·intro h
    have h0:=h.2 0 (by omega);simp only[at0,U7]at h0;refine⟨⟨h0.1,by omega⟩,by have:=h.1;grind,fun i hi=>?_⟩;have:=h.2 (i+1) (by omega)
    grind
abbrev adv(p:Int)(D:Nat)(u v:List Int):List Int:=mkv D fun j=>(at0 u j+at0 v j)%p
theorem zAv{p:Int}{D:Nat}{u v:List Int}(hp:0<p):Row p D (adv p D u v):=by refine⟨zX _ _,fun j hj=>?_⟩;rw[yH hj];have e1:=Kx (at0 u j+at0 v j) (show p≠0 by omega);have e2:=Kd (at0 u j+at0 v j) hp;omega
theorem zGR{p:Int}{D:Nat}{c:List Int}(hp:0<p):∀(k:Nat)(acc:List Int),Row p D acc→iter k (fun w=>adv p D w c) acc=mkv D fun j=>(at0 acc j+(k:Int)*at0 c j)%p
 |0,acc,ha=>by
  show acc=_
  conv=>lhs;rw[vO ha.1]
  refine yA fun j hj=>?_
  have:=ha.2 j hj;rw[Int.natCast_zero,Hx,G4,Jv this.1 (by omega)]
 |k+1,acc,ha=>by
  show iter k (fun w=>adv p D w c) (adv p D acc c)=_;rw[zGR hp k _ (zAv hp)];refine yA fun j hj=>?_
  grind[yH,K6,Js]
theorem zWd{f:Nat→Int}{n:Nat}:S (n+1) f=f 0+S n fun i=>f (i+1):=by
 rw[Nat.add_comm,zFx 1 n];simp only[S]
 grind
theorem zF1{p:Int}{D:Nat}(hp:0<p):∀(cs:List Vec)(v acc:Vec),v.length=cs.length→(∀i,i<v.length→0≤at0 v i)→Row p D acc→img (adv p D) cs v acc=mkv D fun j=>(at0 acc j+S cs.length fun k=>at0 v k*ent cs k j)%p
 | [],v,acc,hl,_,ha=>by
  show acc=_
  conv=>lhs;rw[vO ha.1]
  refine yA fun j hj=>?_
  have:=ha.2 j hj;simp only[Ha,S];rw[G4,Jv this.1 (by omega)]
 |c::cs,[],acc,hl,_,_=>by simp at hl
 |c::cs,a::v,acc,hl,hv,ha=>by
  have h0:=hv 0 (by simp);simp only[at0,U7]at h0;have f9:Row p D (iter a.toNat (fun w=>adv p D w c) acc):=vD (S:=Row p D) (fun _ _=>zAv hp) _ ha;show img (adv p D) cs v (iter a.toNat (fun w=>adv p D w c) acc)=_;rw[zF1 hp cs v _ (by grind) (fun i hi=>by have:=hv (i+1) (by grind);grind) f9,zGR hp _ _ ha];refine yA fun j hj=>?_
  rw[yH hj,K4,zWd,K6,Js,←K6,Jar h0,Ja2];rfl
theorem zCv{α:Type}{S:α→Prop}{m m':α→α→α}(hm:∀a b,S a→S b→m a b=m' a b)(hc:∀a b,S a→S b→S (m' a b)):∀(cs:List α)(v:Vec)(acc:α),(∀c∈cs,S c)→S acc→img m cs v acc=img m' cs v acc
 | [],_,_,_,_=>by simp[img]
 |c::cs,[],_,_,_=>by simp[img]
 |c::cs,a::v,acc,h1,h2=>by
  have pj:=h1 c (by simp);have e:∀k acc,S acc→iter k (fun w=>m w c) acc=iter k (fun w=>m' w c) acc∧S (iter k (fun w=>m' w c) acc):=by
   intro k
   induction k with
   |zero=>intro acc ha;exact⟨rfl,ha⟩
   |succ k ih=>
    intro acc ha;show iter k (fun w=>m w c) (m acc c)=iter k (fun w=>m' w c) (m' acc c)∧_;rw[hm acc c ha pj];exact ih _ (hc _ _ ha pj)
  show img m cs v (iter a.toNat (fun w=>m w c) acc)=img m' cs v (iter a.toNat (fun w=>m' w c) acc);rw[(e _ _ h2).1];exact zCv hm hc cs v _ (by grind) (e _ _ h2).2
theorem zCw{d k j:Nat}(hk:k<d)(hj:j<d):ent (xU d) k j=if j=k then 1 else 0:=by
 have e:(xU d).getD k []=wK d k:=by grind[xU]
 rw[ent,e,jV,yH hj]
theorem sO{p:Int}{D:Nat}(hp:0<p):Row p D (zeros D):=zGB hp
theorem jK{p:Int}(hp:2≤p):∀(d:Nat)(u v:Vec),Row p d u→Row p d v→mul (tlv p d) u v=adv p d u v
 |0,u,v,hu,_=>by rfl
 |d+1,u,v,hu,hv=>by
  have ih:=jK hp d;have br:=(zFb (d+1) u).2 hu;have px:=(zFb (d+1) v).2 hv;cases u with
  |nil=>exact br.elim
  |cons a u=>
   cases v with
   |nil=>exact px.elim
   |cons b v=>
    obtain⟨⟨a0,a1⟩,hu2⟩:=br;obtain⟨⟨b0,b1⟩,fJ⟩:=px;have hu3:=(zFb d u).1 hu2;have cM:=(zFb d v).1 fJ;change a<p at a1;change b<p at b1;have ey:∀w,Row p d w→sig (tlv p d) ⟨p,zeros d,xU d⟩ w=w:=fun w hw=>by
     have ay:∀c∈xU d,Row p d c:=fun c hc=>by obtain⟨k,hk,rfl⟩:=Jh.1 hc;rw[jV];exact⟨zX _ _,by grind[yH]⟩
     unfold sig;rw[zF0,zCv (S:=Row p d) (m':=adv p d) (by omega) (fun _ _ _ _=>zAv (by omega)) (xU d) w _ ay (sO (by omega)),zF1 (by omega) (xU d) w _ (by rw[hw.1];simp[xU]) (fun i hi=>(hw.2 i (by rw[←hw.1];exact hi)).1) (sO (by omega))]
     conv=>rhs;rw[vO hw.1]
     refine yA fun j hj=>?_
     have ew:(xU d).length=d:=by simp[xU]
     have:=hw.2 j hj;rw[ew,uN,Kg,zAO (k:=j) hj (fun k hk gf=>by rw[zCw hk hj,if_neg (Ne.symm gf),Hy]),zCw hj hj,if_pos rfl,Lm,Jv this.1 (by omega)]
    have eg:∀k,iter k (sig (tlv p d) ⟨p,zeros d,xU d⟩) u=u:=by grind[zGJ]
    show mul (⟨p,zeros d,xU d⟩::tlv p d) (a::u) (b::v)=_;rw[yY,eg,ih u v hu3 cM];have hz:adv p d (zeros d) (adv p d u v)=adv p d u v:=by
     refine yA fun j hj=>?_
     rw[yH hj,uN,Kg,Js]
    rw[ih _ _ (sO (by omega)) (zAv (by omega)),hz];have ta:adv p (d+1) (a::u) (b::v)=(a+b)%p::adv p d u v:=by
     simp only[adv,mkv,Ja0,Jm,Uo]
     congr 1
    rw[ta];split
    ·next g=>
     have g:a+b≥p:=g;have e:(a+b)%p=a+b-p:=by rw[show a+b=(a+b-p)+p from by omega,Ge,Jv (by omega) (by omega)];omega
     grind
    ·next g=>
     have g:¬a+b≥p:=g
     congr 1
     exact(Jv (by omega) (by omega)).symm
end Go.Pl

namespace Go.Pl
open Go Go.Ab Go.Wk Go.Pc
theorem zNQ{α:Type}{m:α→α→α}:∀(c1:List α)(y:Vec)(c2:List α)(u:Vec)(acc:α),c1.length=y.length→img m (c1++c2) (y++u) acc=img m c2 u (img m c1 y acc)
 | [],[],_,_,_,_=>by rfl
 | [],_::_,_,_,_,h=>by simp at h
 |_::_,[],_,_,_,h=>by simp at h
 |c::c1,a::y,c2,u,acc,h=>zNQ c1 y c2 u _ (by grind)
theorem zGS{α β:Type}{S:α→Prop}{m:α→α→α}{n:β→β→β}(φ:α→β)(hS:∀a b,S a→S b→S (m a b))(hm:∀a b,S a→S b→φ (m a b)=n (φ a) (φ b)):∀(cs:List α)(v:Vec)(a:α),(∀c∈cs,S c)→S a→φ (img m cs v a)=img n (cs.map φ) v (φ a)
 | [],v,a,_,_=>by rfl
 |_::_,[],_,_,_=>rfl
 |c::cs,t::v,a,hc,ha=>by
  have pj:=hc c (by simp);have e:∀k a,S a→φ (iter k (fun w=>m w c) a)=iter k (fun w=>n w (φ c)) (φ a)∧S (iter k (fun w=>m w c) a):=by
   intro k
   induction k with
   |zero=>intro a ha;exact⟨rfl,ha⟩
   |succ k ih=>
    intro a ha;have:=ih (m a c) (hS _ _ ha pj);rw[hm a c ha pj]at this;exact this
  show φ (img m cs v (iter t.toNat (fun w=>m w c) a))=img n (cs.map φ) v (iter t.toNat (fun w=>n w (φ c)) (φ a));rw[←(e _ a ha).1];exact zGS φ hS hm cs v _ (by grind) (e _ a ha).2
theorem zKI{p:Int}{D:Nat}{r:List Int}(hr:Row p D r):tW p D r (idM D)=r:=by
 conv=>rhs;rw[vO hr.1]
 refine yA fun j hj=>?_
 have:=hr.2 j hj;have e:∀l,l<D→ent (idM D) l j=if j=l then 1 else 0:=fun l hl=>by rw[ent,zCq hl,yH hj]
 rw[zAO (k:=j) hj (by grind),e j hj,if_pos rfl,Lm,kR this]
theorem zNR{p:Int}{D:Nat}{r:List Int}{A B:Mx}(hA:A.length=D):tW p D (tW p D r A) B=tW p D r (PM p D A B):=by
 refine yA fun j hj=>?_
 have e1:S D (fun l=>at0 (tW p D r A) l*ent B l j)%p=S D (fun l=>S D (fun i=>at0 r i*ent A i l)*ent B l j)%p:=zDK (by grind[tW,yH,Jo,Js]);have e2:S D (fun l=>at0 r l*ent (PM p D A B) l j)%p=S D (fun i=>at0 r i*S D (fun l=>ent A i l*ent B l j))%p:=zDK (by grind[zLW,Jo,Js]);rw[e1,e2]
 congr 1
 have e3:S D (fun l=>S D (fun i=>at0 r i*ent A i l)*ent B l j)=S D (fun l=>S D (fun i=>at0 r i*ent A i l*ent B l j)):=vF (by grind[zQH]);rw[e3,zLV];refine vF fun i _=>?_
 rw[←zE2];exact vF (by grind)
theorem zMr{p:Int}{D:Nat}{v:List Int}(hv:Row p D v):adv p D (zeros D) v=v:=by
 conv=>rhs;rw[vO hv.1]
 refine yA fun j hj=>?_
 rw[uN,Kg,kR (hv.2 j hj)]
theorem zRd{p:Int}{D:Nat}{acc v:List Int}{A:Mx}(hl:A.length=D):(mkv D fun j=>(at0 acc j+S A.length fun k=>at0 v k*ent A k j)%p)=adv p D acc (tW p D v A):=by grind[yA,tW,yH,Int.add_emod_emod]
theorem zBY{p:Int}{D:Nat}{u v:List Int}:adv p D u v=adv p D v u:=by grind
section
variable {D:Nat}{x:SPr}{m:zC}{T:Mx} (h:Pres x) (hE:ExB x.zA.length D x m T) (hT:∀i,i<T.length→Row m.Prime D (T.getD i []))
 include h hE hT
theorem zBt:∀(d k:Nat),x.zA.length≤k→k+d=x.zA.length+D→suf (exx D x m T) k=tlv m.Prime d
 |0,k,hk,hd=>by rw[uH (by grind[uO])];rfl
 |d+1,k,hk,hd=>by
  have hl:=uO h hE hT;rw[yL (by omega),zBt d (k+1) (by omega) (by omega),tlv]
  congr 1
  have hP:(exx D x m T).zU.getD k []=exP x.zA.length D x T k:=xS (by omega);have hC:(exx D x m T).zD.getD k []=exC x.zA.length D x m T k:=by
   show(gl (x.zA.length+D) (exC x.zA.length D x m T)).getD k []=_
   grind
  unfold lvl;rw[hP,hC,exP,exC,if_neg (by omega),if_neg (by omega),zBs h hE hT hk (by omega),L4,show x.zA.length+D-(k+1)=d from by omega]
  congr 1
  rw[unC,xU,gl,Uo,show x.zA.length+D-1-k=d from by omega];refine U6 fun j hj=>?_
  have hj:=Ld.1 hj;show(wT (x.zA.length+D) (k+1+j)).drop (k+1)=wK d j;rw[wT,zGO,jV,show x.zA.length+D-(k+1)=d from by omega];simp
theorem zCG:∀(d k:Nat),k+d=x.zA.length→ ∀v,V (suf (exx D x m T) k) v↔ ∃y u,v=y++u∧V (suf x k) y∧Row m.Prime D u
 |0,k,hk,v=>by
  rw[zBt h hE hT D k (by omega) (by omega),zFb,uH (x:=x) (k:=k) (by omega)];constructor
  ·intro g;exact⟨[],v,rfl,rfl,g⟩
  ·rintro⟨y,u,rfl,hy,hu⟩
   obtain rfl:y=[]:=hy;exact hu
 |d+1,k,hk,v=>by
  have hl:=uO h hE hT;have ih:=zCG d (k+1) (by omega);rw[yL (x:=exx D x m T) (by omega),yL (x:=x) (by omega)];cases v with
  |nil=>
   refine⟨fun g=>g.elim,?_⟩
   rintro⟨y,u,e,hy,hu⟩
   cases y with
   |nil=>exact hy.elim
   |cons a y=>simp at e
  |cons a v=>
   show((0≤a∧a<(lvl (exx D x m T) k).o)∧V (suf (exx D x m T) (k+1)) v)↔_;rw[zGP h hE hT (by omega),ih v];constructor
   ·rintro⟨g,y,u,rfl,hy,hu⟩
    exact⟨a::y,u,rfl,⟨g,hy⟩,hu⟩
   ·rintro⟨y,u,e,hy,hu⟩
    cases y with
    |nil=>exact hy.elim
    |cons b y=>
     simp only[Lg,Ja1.injEq]at e;obtain⟨rfl,rfl⟩:=e;exact⟨hy.1,y,u,rfl,hy.2,hu⟩
theorem zIr:∀(d k:Nat),k+d=x.zA.length→ ∀y u r,V (suf x k) y→Row m.Prime D u→Row m.Prime D r→mul (suf (exx D x m T) k) (y++u) (zeros d++r)=y++adv m.Prime D u r
 |0,k,hk,y,u,r,hy,hu,hr=>by have hp:=hE.m.p.pos;rw[uH (x:=x) (k:=k) (by omega)]at hy;obtain rfl:y=[]:=hy;rw[zBt h hE hT D k (by omega) (by omega)];exact jK (by omega) D u r hu hr
 |d+1,k,hk,y,u,r,hy,hu,hr=>by
  have hl:=uO h hE hT;rw[yL (x:=x) (by omega)]at hy;cases y with
  |nil=>exact hy.elim
  |cons a y=>
   obtain⟨⟨a0,a1⟩,hy⟩:=hy;change a<at0 x.zA k at a1;rw[yL (x:=exx D x m T) (by omega)];show mul _ (a::(y++u)) (0::(zeros d++r))=_;rw[yY,zGP h hE hT (by omega),if_neg (by omega)];show(a+0)::mul _ (y++u) (zeros d++r)=_;rw[zIr d (k+1) (by omega) y u r hy hu hr,G4];rfl
theorem zAU{k:Nat}(hk:k≤x.zA.length+D):Pc.Ok (suf (exx D x m T) k):=(zFz h hE hT).okAt (by grind[uO])
theorem zMs{d k:Nat}(hk:k+d=x.zA.length):∀(rs:List Vec)(v:Vec)(y u:Vec),(∀r∈rs,Row m.Prime D r)→V (suf x k) y→Row m.Prime D u→img (mul (suf (exx D x m T) k)) (rs.map fun r=>zeros d++r) v (y++u)=y++img (adv m.Prime D) rs v u
 | [],v,y,u,_,_,_=>by rfl
 |_::_,[],_,_,_,_,_=>rfl
 |c::rs,t::v,y,u,hr,hy,hu=>by
  have hp:=hE.m.p.pos;have hc:=hr c (by simp);have e:∀q u,Row m.Prime D u→iter q (fun w=>mul (suf (exx D x m T) k) w (zeros d++c)) (y++u)=y++iter q (fun w=>adv m.Prime D w c) u:=by
   intro q
   induction q with
   |zero=>intro u _;rfl
   |succ q ih=>
    intro u hu;show iter q _ (mul _ (y++u) (zeros d++c))=_;rw[zIr h hE hT d k hk y u c hy hu hc,ih _ (zAv (by omega))];rfl
  show img _ (rs.map fun r=>zeros d++r) v (iter t.toNat (fun w=>mul (suf (exx D x m T) k) w (zeros d++c)) (y++u))=_;rw[e _ _ hu,zMs hk rs v y _ (by grind) hy (vD (S:=Row m.Prime D) (fun _ _=>zAv (by omega)) _ hu)];rfl
theorem zWe{k:Nat}(hk:k<x.zA.length):(gl D fun j=>(m.zI.getD k []).getD j [])=m.zI.getD k []:=by
 have _:=h;have _:=hT;have hl:=(hE.m.mat k hk).1;apply K9
 grind
def sgG(D:Nat)(x:SPr)(m:zC)(T:Mx)(k:Nat)(y:Vec):Vec:=img (mul (suf (exx D x m T) (k+1))) (eC1 x T k) y (zeros (suf (exx D x m T) (k+1)).length)
theorem zDW{k:Nat}:(eC1 x T k).length=x.zA.length-1-k:=by have _:=h;have _:=hE;have _:=hT;grind[eC1]
theorem zRe{k:Nat}(hk:k<x.zA.length):∀c∈eC1 x T k,V (suf (exx D x m T) (k+1)) c:=by intro c hc;have ok:=zAU h hE hT (k:=k) (by omega);rw[yL (by grind[uO])]at ok;exact ok.2.2.2.1 c (by grind[zGQ])
theorem zBZ{k:Nat}(hk:k≤x.zA.length):zeros (suf (exx D x m T) k).length=zeros (x.zA.length-k)++zeros D:=by grind[xK,uO,zeros,Je]
theorem zRf{k:Nat}(hk:k<x.zA.length){y:Vec}:V (suf (exx D x m T) (k+1)) (sgG D x m T k y):=by have ok:=zAU h hE hT (k:=k+1) (by omega);exact sS (xN ok) _ _ (zRe h hE hT hk) (wJ ok)
theorem zMt{k:Nat}(hk:k<x.zA.length){y u:Vec}(hy:V (suf x (k+1)) y)(hu:Row m.Prime D u):
  sig (suf (exx D x m T) (k+1)) (lvl (exx D x m T) k) (y++u)=(sgG D x m T k y).take (x.zA.length-(k+1))++adv m.Prime D ((sgG D x m T k y).drop (x.zA.length-(k+1))) (tW m.Prime D u (m.zI.getD k [])):=by
 have hp:=hE.m.p.pos;have hA:=hE.m.mat k hk;have eW:=sZ h (by omega) hy;unfold sig;rw[zGQ h hE hT hk,zNQ _ _ _ _ _ (by grind[zDW])];show img _ (eC2 x m D k) u (sgG D x m T k y)=_;obtain⟨y1,u1,e,cL,bq⟩:=(zCG h hE hT (x.zA.length-(k+1)) (k+1) (by omega) _).1 (zRf h hE hT hk (y:=y));have pP:=sZ h (by omega) cL;rw[e,eC2,zWe h hE hT hk,show x.zA.length-1-k=x.zA.length-(k+1)from by omega,zMs h hE hT (by omega) _ _ _ _ (fun r hr=>?_) cL bq,zF1 (by omega) _ _ _ (by rw[hA.1,hu.1]) (fun i hi=>(hu.2 i (by rw[←hu.1];exact hi)).1) bq,zRd hA.1,K0 pP,Lj pP];obtain⟨j,hj,rfl⟩:=K5.1 hr;have fH:=hA.1;have:=hA.2 j (by omega)
 grind
theorem zF2{k:Nat}(hk:k<x.zA.length){u:Vec}(hu:Row m.Prime D u):
  sig (suf (exx D x m T) (k+1)) (lvl (exx D x m T) k) (zeros (x.zA.length-(k+1))++u)=zeros (x.zA.length-(k+1))++tW m.Prime D u (m.zI.getD k []):=by
 have hp:=hE.m.p.pos;have ok:=h.okAt (k:=k+1) (by omega);have hz:=wJ ok;rw[xK]at hz;have e:sgG D x m T k (zeros (x.zA.length-(k+1)))=zeros (x.zA.length-(k+1))++zeros D:=by grind[sgG,zAI,zBZ]
 rw[zMt h hE hT hk hz hu,e,K0 (zS _),Lj (zS _),zMr (jT (by omega))]
theorem zGT{k:Nat}(hk:k<x.zA.length):∀(q:Nat){u:Vec},Row m.Prime D u→
  iter q (sig (suf (exx D x m T) (k+1)) (lvl (exx D x m T) k)) (zeros (x.zA.length-(k+1))++u)=zeros (x.zA.length-(k+1))++iter q (fun u=>tW m.Prime D u (m.zI.getD k [])) u
 |0,u,_=>rfl
 |q+1,u,hu=>by have hp:=hE.m.p.pos;show iter q _ (sig _ _ _)=_;rw[zF2 h hE hT hk hu,zGT hk q (jT (by omega))];rfl
end
end Go.Pl

namespace Go.Pl
open Go Go.Ab Go.Wk Go.Pc
theorem zEB{p:Int}{D:Nat}{A:Mx}(hA:Mat p D A)(hp:2≤p){r:List Int}(hr:Row p D r):∀q,iter q (fun u=>tW p D u A) r=tW p D r (pw (PM p D) (idM D) A q)
 |0=>(zKI hr).symm
 |q+1=>by
  have hm:Mat p D (pw (PM p D) (idM D) A q):=vD (S:=Mat p D) (fun _ hB=>zBl (by omega) hB.1) q (kN hp);unfold pw at*
  rw[vV,vV,zEB hA hp hr q];exact zNR hm.1
theorem zRg{p:Int}{D:Nat}(hp:0<p){r:List Int}:iter p.toNat (fun w=>adv p D w r) (zeros D)=zeros D:=by
 rw[zGR hp _ _ (sO hp)];rw[show zeros D=mkv D fun _=>0 from tV D];refine yA fun j hj=>?_
 rw[yH hj,Jar (by omega),Kg,Int.mul_emod_right]
theorem zMu{p:Int}{D:Nat}{A:Mx}:tW p D (zeros D) A=zeros D:=by
 rw[show zeros D=mkv D fun _=>0 from tV D];refine yA fun j hj=>?_
 rw[vF (g:=fun _=>0) fun l hl=>by rw[yH hl,Hx],jZ,Int.zero_emod]
theorem zOL{p:Int}{D q:Nat}{A:Mx}(hq:q<D)(hA:Mat p D A):tW p D (wK D q) A=A.getD q []:=by
 have hr:=hA.2 q hq
 conv=>rhs;rw[vO hr.1]
 refine yA fun j hj=>?_
 rw[jV,zAO (k:=q) hq (fun i hi gf=>by rw[yH hi,if_neg gf,Hx]),yH hq,if_pos rfl,Ut,kR (hr.2 j hj)]
theorem tG{p:Int}{D q:Nat}(hp:2≤p):Row p D (wK D q):=by rw[jV];exact⟨zX _ _,by grind[yH]⟩
theorem zKJ{N D q:Nat}(hq:q<D):wK (N+D) (N+q)=zeros N++wK D q:=by
 rw[kL (by omega),kL hq,←Jb]
 grind[zeros,Je]
def aM(m:zC)(D k:Nat)(v:Vec):Mx:=img (PM m.Prime D) (m.zI.drop k) v (idM D)
theorem zRh{p:Int}{D:Nat}(hp:2≤p):Mon (Mat p D) (PM p D) (idM D):=
 ⟨fun ha _=>zBl (by omega) ha.1,kN (by omega),fun ha hb _=>zKr ha.1 hb.1,fun ha=>zIV ha,fun ha=>zKs ha⟩
section
variable {D:Nat}{x:SPr}{m:zC}{T:Mx} (h:Pres x) (hE:ExB x.zA.length D x m T) (hT:∀i,i<T.length→Row m.Prime D (T.getD i []))
 include h hE hT
theorem zRi{k:Nat}(hk:k<x.zA.length):(eC1 x T k).map (·.take (x.zA.length-(k+1)))=(lvl x k).cs:=by
 have _:=hE;have _:=hT;have gI:=kQ h.w hk;apply K9;intro j
 by_cases g:j<x.zA.length-(k+1)
 ·obtain⟨c,_,_,c3,c4⟩:=zDG h hk g
  have hl:=sZ h (by omega) c3;have e1:((eC1 x T k).map (·.take (x.zA.length-(k+1))))[j]? =dJ (((lvl x k).cs.getD j []++T.getD (base x.zA.length k+j) []).take (x.zA.length-(k+1))):=by simp[eC1,gl,show j<x.zA.length-1-k by omega]
  grind
 ·rw[Jq (by simp[eC1,gl];omega),Jq (by omega)]
theorem zYQ{k:Nat}{v:Vec}:Mat m.Prime D (aM m D k v):=by
 have _:=h;have _:=hT;have hp:=hE.m.p.pos;refine sS (fun ha _=>zBl (by omega) ha.1) _ _ (fun c hc=>?_) (kN (by omega));obtain⟨i,hi,rfl⟩:=K5.1 (Qp hc);have:=hE.m.mat i (by rw[←hE.m.len];exact hi)
 grind
theorem zKK{k:Nat}(hk:k<x.zA.length):m.zI.drop k=m.zI.getD k []::m.zI.drop (k+1):=by
 have _:=h;have _:=hT;have hl:=hE.m.len
 grind[H2]
theorem zT6{k:Nat}(hk:k<x.zA.length){b:Int}{y:Vec}:aM m D k (b::y)=PM m.Prime D (pw (PM m.Prime D) (idM D) (m.zI.getD k []) b.toNat) (aM m D (k+1) y):=by
 have M:=zRh hE.m.p.pos.1 (D:=D);unfold aM;rw[zKK h hE hT hk];refine sM M (hE.m.mat k hk) fun c hc=>?_
 obtain⟨i,hi,rfl⟩:=K5.1 (Qp hc);have:=hE.m.mat i (by rw[←hE.m.len];exact hi)
 grind
theorem pwM{k q:Nat}(hk:k<x.zA.length):Mat m.Prime D (pw (PM m.Prime D) (idM D) (m.zI.getD k []) q):=by have _:=h;have _:=hT;have _:=hk;have hp:=hE.m.p.pos;exact vD (S:=Mat m.Prime D) (fun _ hB=>zBl (by omega) hB.1) q (kN (by omega))
theorem zRj:∀(d k:Nat),k+d=x.zA.length→ ∀r y v,Row m.Prime D r→V (suf x k) y→Row m.Prime D v→mul (suf (exx D x m T) k) (zeros d++r) (y++v)=y++adv m.Prime D (tW m.Prime D r (aM m D k y)) v
 |0,k,hk,r,y,v,hr,hy,hv=>by
  have hp:=hE.m.p.pos;rw[uH (x:=x) (k:=k) (by omega)]at hy;obtain rfl:y=[]:=hy;rw[zBt h hE hT D k (by omega) (by omega)];have e:aM m D k []=idM D:=by unfold aM;cases m.zI.drop k<;>rfl
  rw[e,zKI hr];exact jK (by omega) D r v hr hv
 |d+1,k,hk,r,y,v,hr,hy,hv=>by
  have hl:=uO h hE hT;have hp:=hE.m.p.pos;have hA:=hE.m.mat k (by omega);rw[yL (x:=x) (by omega)]at hy;cases y with
  |nil=>exact hy.elim
  |cons b y=>
   obtain⟨⟨b0,b1⟩,hy⟩:=hy;change b<at0 x.zA k at b1;rw[yL (x:=exx D x m T) (by omega)];show mul _ (0::(zeros d++r)) (b::(y++v))=_;have e:=zGT h hE hT (k:=k) (by omega) b.toNat hr;rw[show x.zA.length-(k+1)=d from by omega]at e;rw[yY,zGP h hE hT (by omega),if_neg (by omega),e,zEB hA (by omega) hr,zRj d (k+1) (by omega) _ y v (jT (by omega)) hy hv,Kg,zT6 h hE hT (by omega),←zNR (pwM h hE hT (by omega)).1];rfl
theorem zKL{k:Nat}(hk:k<x.zA.length)(ih:∀a b,V (suf (exx D x m T) (k+1)) a→V (suf (exx D x m T) (k+1)) b→(mul (suf (exx D x m T) (k+1)) a b).take (x.zA.length-(k+1))=mul (suf x (k+1)) (a.take (x.zA.length-(k+1))) (b.take (x.zA.length-(k+1)))){v:Vec}(hv:V (suf (exx D x m T) (k+1)) v):
  (sig (suf (exx D x m T) (k+1)) (lvl (exx D x m T) k) v).take (x.zA.length-(k+1))=sig (suf x (k+1)) (lvl x k) (v.take (x.zA.length-(k+1))):=by
 have ok:=zAU h hE hT (k:=k+1) (by omega);obtain⟨y,u,rfl,hy,hu⟩:=(zCG h hE hT (x.zA.length-(k+1)) (k+1) (by omega) _).1 hv;have eW:=sZ h (by omega) hy;obtain⟨y1,u1,e,cL,bq⟩:=(zCG h hE hT (x.zA.length-(k+1)) (k+1) (by omega) _).1 (zRf h hE hT hk (y:=y));have pP:=sZ h (by omega) cL;rw[zMt h hE hT hk hy hu,K0 (by grind),K0 eW];unfold sgG sig;rw[zGS (S:=V (suf (exx D x m T) (k+1))) (n:=mul (suf x (k+1))) (·.take (x.zA.length-(k+1))) (fun a b=>xN ok) ih _ _ _ (zRe h hE hT hk) (wJ ok),zRi h hE hT hk,zBZ h hE hT (by omega),K0 (zS _),xK]
theorem zJi:∀(d k:Nat),k+d=x.zA.length→ ∀a b,V (suf (exx D x m T) k) a→V (suf (exx D x m T) k) b→(mul (suf (exx D x m T) k) a b).take d=mul (suf x k) (a.take d) (b.take d)
 |0,k,hk,a,b,_,_=>by rw[uH (x:=x) (by omega),Jz];rfl
 |d+1,k,hk,a,b,ha,hb=>by
  have hl:=uO h hE hT;have ih:=zJi d (k+1) (by omega);have hd:d=x.zA.length-(k+1):=by omega
  have ok:=zAU h hE hT (k:=k+1) (by omega);have ok0:=zAU h hE hT (k:=k) (by omega);rw[hd]at ih;have hs:=fun v hv=>zKL h hE hT (k:=k) (by omega) ih (v:=v) hv
  rw[yL (x:=exx D x m T) (by omega)]at ha hb ok0 ⊢
  rw[yL (x:=x) (by omega)];cases a with
  |nil=>rfl
  |cons a u=>
  cases b with
  |nil=>rfl
  |cons b v=>
   have eg:∀q u,V (suf (exx D x m T) (k+1)) u→(iter q (sig (suf (exx D x m T) (k+1)) (lvl (exx D x m T) k)) u).take d=iter q (sig (suf x (k+1)) (lvl x k)) (u.take d)∧V (suf (exx D x m T) (k+1)) (iter q (sig (suf (exx D x m T) (k+1)) (lvl (exx D x m T) k)) u):=by
    intro q
    induction q with
    |zero=>intro u hu;exact⟨rfl,hu⟩
    |succ q ihq=>
     intro u hu;have:=ihq _ (zDb ok0 hu);rw[hd,hs u hu]at this;rw[hd];exact this
   obtain⟨hi1,eE⟩:=eg b.toNat u ha.2;have hm:=xN ok eE hb.2;rw[yY,La,La,yY,zGP h hE hT (by omega),show(lvl x k).o=at0 x.zA k from rfl];have e1:=ih _ _ eE hb.2;rw[←hd,hi1]at e1;split
   ·rw[La]
    have e2:=ih _ _ ok0.2.1 hm;rw[←hd,e1]at e2;rw[e2]
    congr 2
    have ht:=(h.tl k (by omega)).1;have hw:=zHV ht (by omega);have hwl:(lvl x k).w.length=x.zA.length-(k+1):=sZ h (by omega) hw;rw[zUW h hE hT (by omega),K0 (by omega)]
   grind
end
end Go.Pl

namespace Go.Pl
open Go Go.Ab Go.Wk Go.Pc
theorem zOM{p:Int}{d:Nat}(hp:2≤p):∀c∈xU d,Row p d c:=fun c hc=>by obtain⟨k,_,rfl⟩:=Jh.1 hc;exact tG hp
theorem zT7{p:Int}(hp:2≤p){d:Nat}{w:Vec}(hw:Row p d w):sig (tlv p d) ⟨p,zeros d,xU d⟩ w=w:=by
 unfold sig;rw[zF0,zCv (S:=Row p d) (m':=adv p d) (by grind[jK]) (fun _ _ _ _=>zAv (by omega)) (xU d) w _ (zOM hp) (sO (by omega)),zF1 (by omega) (xU d) w _ (by rw[hw.1];simp[xU]) (fun i hi=>(hw.2 i (by rw[←hw.1];exact hi)).1) (sO (by omega))]
 conv=>rhs;rw[vO hw.1]
 refine yA fun j hj=>?_
 have ew:(xU d).length=d:=by simp[xU]
 rw[ew,uN,Kg,zAO (k:=j) hj (fun k hk gf=>by rw[zCw hk hj,if_neg (Ne.symm gf),Hy]),zCw hj hj,if_pos rfl,Lm,kR (hw.2 j hj)]
structure LCn (x e:SPr) (k:Nat):Prop where
 c1:∀j,k+1≤j→j<x.zA.length→pw (mul (suf e (k+1))) (zeros (suf e (k+1)).length) ((lvl e k).cs.getD (j-(k+1)) []) (at0 e.zA j).toNat=sig (suf e (k+1)) (lvl e k) ((e.zU.getD j []).drop (k+1))
 c2:∀i,k+1≤i→i<x.zA.length→ ∀j,i+1≤j→j<x.zA.length→
  mul (suf e (k+1)) ((lvl e k).cs.getD (j-(k+1)) []) ((lvl e k).cs.getD (i-(k+1)) [])=mul (suf e (k+1)) ((lvl e k).cs.getD (i-(k+1)) []) (sig (suf e (k+1)) (lvl e k) (((e.zD.getD i []).getD (j-(i+1)) []).drop (k+1)))
 c3:sig (suf e (k+1)) (lvl e k) (lvl e k).w=(lvl e k).w
 c4:∀j,k+1≤j→j<x.zA.length→mul (suf e (k+1)) (lvl e k).w (iter (lvl e k).o.toNat (sig (suf e (k+1)) (lvl e k)) (wK (e.zA.length-(k+1)) (j-(k+1))))=mul (suf e (k+1)) (wK (e.zA.length-(k+1)) (j-(k+1))) (lvl e k).w
section
variable {D:Nat}{x:SPr}{m:zC}{T:Mx} (h:Pres x) (hE:ExB x.zA.length D x m T) (hT:∀i,i<T.length→Row m.Prime D (T.getD i []))
 include h hE hT
theorem zRk{k j:Nat}(hk:k<x.zA.length)(hj:x.zA.length≤j)(h2:j<x.zA.length+D):(lvl (exx D x m T) k).cs.getD (j-(k+1)) []=zeros (x.zA.length-(k+1))++(m.zI.getD k []).getD (j-x.zA.length) []:=by
 rw[zGQ h hE hT hk,J3,J7 (by grind[zDW]),zDW h hE hT,eC2]
 grind
theorem zUX{k j:Nat}(hk:k<x.zA.length)(hj:k+1≤j)(h2:j<x.zA.length):(lvl (exx D x m T) k).cs.getD (j-(k+1)) []=(lvl x k).cs.getD (j-(k+1)) []++T.getD (base x.zA.length k+(j-(k+1))) []:=by
 rw[zGQ h hE hT hk,J3,Jx (by grind[zDW]),eC1]
 grind
theorem zUY{i j:Nat}(hi:i<j)(hj:j<x.zA.length):Row m.Prime D (T.getD (base x.zA.length i+(j-(i+1))) []):=by have _:=h;have hn:=hE.hn;have hb:=zDT x.zA.length (by omega) i (by omega);exact hT _ (by rw[hE.t];omega)
theorem zMv{i:Nat}(hi:i<x.zA.length):Row m.Prime D (T.getD i []):=by have _:=h;have hn:=hE.hn;have hb:=sN x.zA.length (by omega);exact hT _ (by rw[hE.t];omega)
theorem zMw{k j:Nat}(hj:k≤j)(h2:j<x.zA.length):((exx D x m T).zU.getD j []).drop (k+1)=(x.zU.getD j []).drop (k+1)++T.getD j []:=by have t1:=(h.tl j h2).1.1.1;have _:=hE;have _:=hT;have hP:(exx D x m T).zU.getD j []=exP x.zA.length D x T j:=xS (by omega);rw[hP,exP,if_pos h2,Kf (by omega)]
theorem zWf{k j:Nat}(hk:k<x.zA.length)(hj:x.zA.length≤j)(h2:j<x.zA.length+D):((exx D x m T).zU.getD j []).drop (k+1)=zeros (x.zA.length-(k+1))++zeros D:=by
 have _:=h;have _:=hE;have _:=hT;have hP:(exx D x m T).zU.getD j []=exP x.zA.length D x T j:=xS (by omega);rw[hP,exP,if_neg (by omega),L4]
 grind[zeros,Je]
theorem zGU{i:Nat}(hi:i<x.zA.length+D):(exx D x m T).zD.getD i []=exC x.zA.length D x m T i:=by
 have _:=h;have _:=hE;have _:=hT;show(gl (x.zA.length+D) (exC x.zA.length D x m T)).getD i []=_
 grind
theorem zMx{k i j:Nat}(hk:k≤i)(hi:i<j)(hj:j<x.zA.length):(((exx D x m T).zD.getD i []).getD (j-(i+1)) []).drop (k+1)=((x.zD.getD i []).getD (j-(i+1)) []).drop (k+1)++T.getD (base x.zA.length i+(j-(i+1))) []:=by obtain⟨_,t2,t3⟩:=h.tl i (by omega);have t:=(t3 (j-(i+1)) (by omega)).1.1;rw[zGU h hE hT (by omega),exC,if_pos (by omega),xS (by omega),exF,if_pos (by omega),Kf (by omega)]
theorem zWg{k i j:Nat}(hk:k<x.zA.length)(hi:i<x.zA.length)(hj:x.zA.length≤j)(h2:j<x.zA.length+D):(((exx D x m T).zD.getD i []).getD (j-(i+1)) []).drop (k+1)=zeros (x.zA.length-(k+1))++(m.zI.getD i []).getD (j-x.zA.length) []:=by rw[zGU h hE hT (by omega),exC,if_pos (by omega),xS (by omega),exF,if_neg (by omega),Kf (by simp;omega),L4,show j-(i+1)-(x.zA.length-1-i)=j-x.zA.length from by omega];rfl
theorem zWh{k i j:Nat}(hk:k<x.zA.length)(hi:x.zA.length≤i)(hj:i<j)(h2:j<x.zA.length+D):(((exx D x m T).zD.getD i []).getD (j-(i+1)) []).drop (k+1)=zeros (x.zA.length-(k+1))++wK D (j-x.zA.length):=by
 rw[zGU h hE hT (by omega),exC,if_neg (by omega),unC,xS (by omega),wT,zGO,←zKJ (by omega),jV]
 grind
theorem zT8(hr:zHp x m D){k:Nat}(hk:k<x.zA.length):pw (PM m.Prime D) (idM D) (m.zI.getD k []) (at0 x.zA k).toNat=aM m D (k+1) (lvl x k).w∧
  ∀i,k<i→i<x.zA.length→PM m.Prime D (m.zI.getD i []) (m.zI.getD k [])=PM m.Prime D (m.zI.getD k []) (aM m D (k+1) ((lvl x k).cs.getD (i-(k+1)) [])):=by
 have R:=zNM h hE.m hr (x.zA.length-k) k (by omega);rw[yL hk,zKK h hE hT hk]at R;obtain⟨r1,r2,_⟩:=R;refine⟨r1,fun i h1 h2=>?_⟩;have gI:=kQ h.w hk;have hl:=hE.m.len;refine r2 (i-(k+1)) _ _ ?_ ?_
 all_goals grind
theorem zv{k:Nat}(hk:k≤x.zA.length):V (suf x k) (zeros (x.zA.length-k)):=by
 have _:=hE;have _:=hT;have:=wJ (h.okAt hk)
 grind[xK]
theorem zWi(hr:zHp x m D){k:Nat}(hk:k<x.zA.length)(hc:LCn x (exx D x m T) k):LC (exx D x m T) k:=by
 have hp:=hE.m.p.pos;have hl:=uO h hE hT;have hA:=hE.m.mat k hk;obtain⟨r1,r2⟩:=zT8 h hE hT hr hk;have hz:=zv h hE hT (k:=k+1) (by omega);have hD0:Row m.Prime D (zeros D):=sO (by omega);have hw:=(zVS h hk).2;refine⟨fun j h1 h2=>?_,fun i h1 h2 j h3 h4=>?_,hc.c3,fun j h1 h2=>?_⟩
 ·rw[hl]at h2
  rcases Jd j x.zA.length with g|g
  ·exact hc.c1 j h1 g
  ·have hq:=hA.2 (j-x.zA.length) (by omega)
   rw[zRk h hE hT hk g h2,zWf h hE hT hk g h2,zF2 h hE hT hk hD0,zMu,zBs h hE hT g h2,zBZ h hE hT (by omega)];have e:=zMs h hE hT (d:=x.zA.length-(k+1)) (k:=k+1) (by omega) [(m.zI.getD k []).getD (j-x.zA.length) []] [m.Prime] _ _ (by grind) hz hD0;have e2:iter m.Prime.toNat (fun w=>adv m.Prime D w ((m.zI.getD k []).getD (j-x.zA.length) [])) (zeros D)=zeros D:=zRg (by omega);unfold pw;refine e.trans ?_;show zeros _++iter m.Prime.toNat (fun w=>adv m.Prime D w ((m.zI.getD k []).getD (j-x.zA.length) [])) (zeros D)=_;rw[e2]
 ·rw[hl]at h4
  rcases Jd j x.zA.length with g|g
  ·exact hc.c2 i h1 (by omega) j h3 g
  ·have hq:=hA.2 (j-x.zA.length) (by omega)
   rw[zRk h hE hT hk g h4];rcases Jd i x.zA.length with gi|gi
   ·have hAi:=hE.m.mat i gi
    have tu:=hAi.2 (j-x.zA.length) (by omega);have cK:=(jR h hk h1 gi).2.2;have ht:=zUY h hE hT (i:=k) (j:=i) (by omega) gi;rw[zUX h hE hT hk h1 gi,zWg h hE hT hk gi g h4,zF2 h hE hT hk tu,zRj h hE hT _ (k+1) (by omega) _ _ _ hq cK ht,zIr h hE hT _ (k+1) (by omega) _ _ _ cK ht (jT (by omega)),zBY]
    congr 2
    rw[←zBk (by rw[hA.1];omega),←zBk (by rw[hAi.1];omega),r2 i (by omega) gi]
   ·have tu:=hA.2 (i-x.zA.length) (by omega)
    rw[zRk h hE hT hk gi (by omega),zWh h hE hT hk gi (by omega) h4,zF2 h hE hT hk (tG (by omega)),zOL (by omega) hA,zIr h hE hT _ (k+1) (by omega) _ _ _ hz hq tu,zIr h hE hT _ (k+1) (by omega) _ _ _ hz tu hq,zBY]
 ·rw[hl]at h2 ⊢
  rcases Jd j x.zA.length with g|g
  ·have:=hc.c4 j h1 g
   grind
  ·have ht:=zMv h hE hT hk
   have hu:Row m.Prime D (wK D (j-x.zA.length)):=tG (by omega);rw[show x.zA.length+D-(k+1)=x.zA.length-(k+1)+D from by omega,show j-(k+1)=x.zA.length-(k+1)+(j-x.zA.length)from by omega,zKJ (by omega),zGP h hE hT hk,zGT h hE hT hk _ hu,zUW h hE hT hk,zEB hA (by omega) hu,r1,zRj h hE hT _ (k+1) (by omega) _ _ _ hu hw ht,zIr h hE hT _ (k+1) (by omega) _ _ _ hw ht (jT (by omega)),zBY]
theorem zWj{k:Nat}(hk:x.zA.length≤k)(h2:k<x.zA.length+D):LC (exx D x m T) k:=by
 have hp:=hE.m.p.pos;have hl:=uO h hE hT;have hs:=zBt h hE hT (x.zA.length+D-(k+1)) (k+1) (by omega) (by omega);have hL:=zBt h hE hT (x.zA.length+D-(k+1)+1) k (by omega) (by omega);rw[yL (by omega),hs,tlv]at hL;have bS:lvl (exx D x m T) k=⟨m.Prime,zeros (x.zA.length+D-(k+1)),xU (x.zA.length+D-(k+1))⟩:=(Ja1.inj hL).1
 generalize hd:x.zA.length+D-(k+1)=d at*
 have ey:∀w,Row m.Prime d w→sig (tlv m.Prime d) ⟨m.Prime,zeros d,xU d⟩ w=w:=by grind[zT7]
 have mK:Row m.Prime d (zeros d):=sO (by omega);have aA:∀j,(xU d).getD j []=if j<d then wK d j else[]:=fun j=>by
  by_cases g:j<d
  ·rw[if_pos g,zGz g]
  ·rw[if_neg g,J3,Jq (by grind[xU])];rfl
 refine⟨fun j h1 h3=>?_,fun i h1 h3 j h4 h5=>?_,?_,fun j h1 h3=>?_⟩
 ·rw[hl]at h3
  have hP:(exx D x m T).zU.getD j []=exP x.zA.length D x T j:=xS (by omega);rw[hs,bS,zBs h hE hT (by omega) h3,hP,exP,if_neg (by omega),L4,hd];show pw (mul (tlv m.Prime d)) (zeros (tlv m.Prime d).length) ((xU d).getD (j-(k+1)) []) m.Prime.toNat=sig (tlv m.Prime d) ⟨m.Prime,zeros d,xU d⟩ (zeros d);rw[ey _ mK,aA,if_pos (by omega),zF0];have e:=zCv (S:=Row m.Prime d) (m':=adv m.Prime d) (fun a b ha hb=>jK (by omega) d a b ha hb) (fun _ _ _ _=>zAv (by omega)) [wK d (j-(k+1))] [m.Prime] (zeros d) (by grind[tG]) mK;exact e.trans (zRg (by omega))
 ·rw[hl]at h3 h5
  rw[hs,bS,zGU h hE hT h3,exC,if_neg (by omega),unC,xS (by omega),wT,zGO,hd];have e:(mkv d fun q=>if k+1+q=i+1+(j-(i+1))then(1:Int)else 0)=wK d (j-(k+1)):=by
   rw[jV]
   grind
  rw[e,ey _ (tG (by omega))];show mul (tlv m.Prime d) ((xU d).getD (j-(k+1)) []) ((xU d).getD (i-(k+1)) [])=mul (tlv m.Prime d) ((xU d).getD (i-(k+1)) []) (wK d (j-(k+1)));rw[aA,aA,if_pos (by omega),if_pos (by omega),jK (by omega) d _ _ (tG (by omega)) (tG (by omega)),jK (by omega) d _ _ (tG (by omega)) (tG (by omega)),zBY]
 ·grind
 ·rw[hl]at h3 ⊢
  have hu:Row m.Prime d (wK d (j-(k+1))):=tG (by omega);rw[hs,bS,hd,zGJ (ey _ hu),jK (by omega) d _ _ mK hu,jK (by omega) d _ _ hu mK,zBY]
theorem zKM:∀(d k:Nat),x.zA.length≤k→k+d=x.zA.length+D→vH (suf (exx D x m T) k)
 |0,k,hk,hd=>by rw[uH (by grind[uO])];simp only[vH]
 |d+1,k,hk,hd=>(zAN (zFz h hE hT) (by rw[uO h hE hT];omega)).2 ⟨zKM d (k+1) (by omega) (by omega),by grind[zWj]⟩
theorem zT9(hr:zHp x m D):vH (suf (exx D x m T) 0)↔ ∀k,k<x.zA.length→LCn x (exx D x m T) k:=by
 have hl:=uO h hE hT;have key:∀(d k:Nat),k+d=x.zA.length→(vH (suf (exx D x m T) k)↔ ∀i,k≤i→i<x.zA.length→LCn x (exx D x m T) i):=by
  intro d
  induction d with
  |zero=>grind[zKM]
  |succ d ih=>
   intro k hk;rw[zAN (zFz h hE hT) (by omega),ih (k+1) (by omega)];constructor
   ·rintro⟨g1,g2⟩ i h1 h2
    rcases Jd k i with g|g
    ·grind
    ·obtain rfl:i=k:=by omega
     exact⟨fun j a b=>g2.c1 j a (by omega),fun i a b j c d=>g2.c2 i a (by omega) j c (by omega),g2.c3,fun j a b=>g2.c4 j a (by omega)⟩
   grind[zWi]
 simp_all
end
end Go.Pl

namespace Go.Pl
open Go Go.Ab Go.Wk Go.Pc
def prE(x:SPr)(k:Nat)(w:Vec):zG:=⟨fv k (w.take (x.zA.length-k)),w.drop (x.zA.length-k)⟩
theorem sT{x:SPr}{k:Nat}{y u:Vec}(hy:y.length=x.zA.length-k):prE x k (y++u)=⟨fv k y,u⟩:=by grind[prE]
theorem zBu{α α' β:Type}{body:α×α'×Int→Option ((α×α'×Int)⊕(α×α'))}{S:β→Prop}(e1:β→α)(e2:β→α')(g:β→β)(n:Int)(hn:0≤n)(hS:∀a,S a→S (g a))
  (h:∀a(i:Nat),S a→(i:Int)<n→body (e1 a,e2 a,(i:Int))=dJ (.inl (e1 (g a),e2 (g a),((i+1:Nat):Int))))(he:∀a,S a→body (e1 a,e2 a,n)=dJ (.inr (e1 a,e2 a))){a:β}(ha:S a):
  zH body (e1 a,e2 a,0)=dJ (e1 (iter n.toNat g a),e2 (iter n.toNat g a)):=by
 have eg:∀k,S (iter k g a):=fun k=>vD (S:=S) hS k ha
 exact zO (body:=body) (r:=(e1 (iter n.toNat g a),e2 (iter n.toNat g a))) (fun i=>(e1 (iter i g a),e2 (iter i g a),(i:Int))) n.toNat (by grind[vV]) (by grind)
structure Mv (D n:Nat) (m0 m:zC):Prop where
 pr:m0.Prime=m.Prime
 mv:∀k,k<n→ ∀u,Row m.Prime D u→zUh m0 u (k:Int)=dJ (tW m.Prime D u (m.zI.getD k []))
theorem Mv.self{n D:Nat}{m:zC}(hE:MOk n m D):Mv D n m m:=by
 refine⟨rfl,fun k hk u hu=>?_⟩;have h3:=hE.d3;have h1:=hE.d1;have hA:=hE.mat k hk;have ew:=hu.1;have hl:=hE.len;unfold zUh;have e1:zIv m u (k:Int) ([],0)=dJ (.inl (tW m.Prime D u (m.zI.getD k []),(D:Int))):=by
  unfold zIv;simp only
  rw[dP (by omega),zJ,hE.d,zE (by omega) (by omega),bs,Kg];have cN:zW u 0 (D:Int)=dJ u:=by
   unfold zW;rw[if_pos (by omega)]
   congr 1
   rw[show((D:Int)).toNat=D from by omega,show(0:Int).toNat=0 from rfl,Ga,Ji (by omega)]
  rw[cN,bs,yE [] (by omega),bs,zDg hE.p (by omega) hu hA,bs,zZ (by grind[tW,zX]),bs,bs,K1]
 have e2:zIv m u (k:Int) (tW m.Prime D u (m.zI.getD k []),(D:Int))=dJ (.inr (tW m.Prime D u (m.zI.getD k []))):=by
  unfold zIv
  simp_all
 grind[xE]
section
variable {D:Nat}{x:SPr}{m0 m:zC}{T:Mx} (h:Pres x) (hE:ExB x.zA.length D x m T) (hT:∀i,i<T.length→Row m.Prime D (T.getD i []))
def zRl(D:Nat)(x:SPr)(m0 m:zC)(T:Mx)(k:Nat)(g:zP→Int→zG→zG→Option zG):Prop:=
 ∀a b,V (suf (exx D x m T) k) a→V (suf (exx D x m T) k) b→g ⟨x,m0,T⟩ k (prE x k a) (prE x k b)=dJ (prE x k (mul (suf (exx D x m T) k) a b))
def zRm(D:Nat)(x:SPr)(m0 m:zC)(T:Mx)(k:Nat)(g:zP→Int→zG→Option zG):Prop:=
 ∀v,V (suf (exx D x m T) (k+1)) v→g ⟨x,m0,T⟩ k (prE x (k+1) v)=dJ (prE x (k+1) (sig (suf (exx D x m T) (k+1)) (lvl (exx D x m T) k) v))
 include h hE hT
theorem zNS{k i j:Nat}(hk:k≤i)(hi:i<j)(hj:j<x.zA.length):f_Y ⟨x,m0,T⟩ (i:Int) (j:Int)=dJ (prE x (k+1) ((((exx D x m T).zD.getD i []).getD (j-(i+1)) []).drop (k+1)))∧V (suf (exx D x m T) (k+1)) ((((exx D x m T).zD.getD i []).getD (j-(i+1)) []).drop (k+1)):=by
 have hn:=hE.hn;have hb:=zDT x.zA.length (by omega) i (by omega);have ht:=hE.t;obtain⟨_,t2,t3⟩:=h.tl i (by omega);have tt:=t3 (j-(i+1)) (by omega);obtain⟨e1,e2⟩:=zBV (k:=k+1) tt (by omega) (by omega);have hl:=sZ h (by omega) e2;have gI:=h.cl;have hr:=zUY h hE hT hi hj;refine⟨?_,?_⟩
 ·rw[zMx h hE hT hk hi hj,sT hl,←e1]
  unfold f_Y;dsimp only
  rw[yE [] (by omega),bs,zE (by omega) (by omega),bs,zE (by omega) (by omega),bs,show(j:Int)-(i:Int)-1=((j-(i+1):Nat):Int)from by omega,yE [] (by omega),bs,zGF x.zA.length (by omega) j hj i hi,bs,yE [] (by omega),bs,show j-i-1=j-(i+1)from by omega]
 ·rw[zMx h hE hT hk hi hj]
  exact(zCG h hE hT (x.zA.length-(k+1)) (k+1) (by omega) _).2 ⟨_,_,rfl,e2,hr⟩
theorem zDX{k j:Nat}(hk:k<j)(hj:j<x.zA.length):f_Y ⟨x,m0,T⟩ (k:Int) (j:Int)=dJ (prE x (k+1) ((lvl (exx D x m T) k).cs.getD (j-(k+1)) []))∧V (suf (exx D x m T) (k+1)) ((lvl (exx D x m T) k).cs.getD (j-(k+1)) []):=by
 have e:(lvl (exx D x m T) k).cs.getD (j-(k+1)) []=(((exx D x m T).zD.getD k []).getD (j-(k+1)) []).drop (k+1):=by
  have hC:((exx D x m T).zD.getD k []).length=x.zA.length+D-1-k:=by rw[zGU h hE hT (by omega),exC,if_pos (by omega),xR]
  simp only[lvl];rw[J3,Jp,J4 (by omega),J3 (l:=(exx D x m T).zD.getD k []),J4 (by omega)];rfl
 rw[e];exact zNS h hE hT (Jf k) hk hj
theorem zJj{k j:Nat}(hk:k≤j)(hj:j<x.zA.length):zMJ ⟨x,m0,T⟩ (j:Int)=dJ (prE x (k+1) (((exx D x m T).zU.getD j []).drop (k+1)))∧V (suf (exx D x m T) (k+1)) (((exx D x m T).zU.getD j []).drop (k+1)):=by
 have hn:=hE.hn;have hb:=sN x.zA.length (by omega);have ht:=hE.t;have pF:=h.pl;have t1:=(h.tl j hj).1;obtain⟨e1,e2⟩:=zBV (k:=k+1) t1 (by omega) (by omega);have hl:=sZ h (by omega) e2;have hr:=zMv h hE hT hj;refine⟨?_,?_⟩
 ·rw[zMw h hE hT hk hj,sT hl,←e1]
  grind[zMJ,yE]
 ·rw[zMw h hE hT hk hj]
  exact(zCG h hE hT (x.zA.length-(k+1)) (k+1) (by omega) _).2 ⟨_,_,rfl,e2,hr⟩
theorem zJk{k:Nat}(hk:k≤x.zA.length)(h0:0<x.zA.length):zLk ⟨x,m0,T⟩=dJ (prE x k (zeros (suf (exx D x m T) k).length)):=by
 have hn:=hE.hn;have h3:=hE.m.d3;have hb:=sN x.zA.length (by omega);have ht:=hE.t;have hr:=zMv h hE hT h0;have fS:=hr.1;unfold zLk;dsimp only
 have e0:ixO T 0=dJ (T.getD 0 []):=by grind[yE]
 rw[dP (by omega),zJ,e0,bs,yR (by omega),bs,yR (by omega),bs,zBZ h hE hT hk,sT (zS _),fS,fv]
 grind[zeros,Je]
theorem zRn{u v:Vec}(hu:Row m.Prime D u)(hv:Row m.Prime D v):f_s m.Prime u 1 v=dJ (adv m.Prime D u v):=by
 have _:=h;have _:=hT;have h3:=hE.m.d3;rw[uB hE.m.p hu hv (by omega) (by omega)]
 congr 1
 exact yA (by simp)
theorem prV{k:Nat}(hk:k≤x.zA.length){w:Vec}(hw:V (suf (exx D x m T) k) w):∃y u,w=y++u∧V (suf x k) y∧Row m.Prime D u∧prE x k w=⟨fv k y,u⟩∧y.length=x.zA.length-k:=by obtain⟨y,u,rfl,hy,hu⟩:=(zCG h hE hT (x.zA.length-k) k (by omega) _).1 hw;have eW:=sZ h hk hy;exact⟨y,u,rfl,hy,hu,sT eW,eW⟩
variable (hM:Mv D x.zA.length m0 m)
 include hM
theorem zKN{k:Nat}(hk:k<x.zA.length){g:zP→Int→zG→zG→Option zG}(hg:zRl D x m0 m T (k+1) g):zRm D x m0 m T k (b_f g):=by
 intro v hv;have hn:=hE.hn;have hp:=hE.m.p.pos;have ok:=zAU h hE hT (k:=k+1) (by omega);have hA:=hE.m.mat k hk;obtain⟨y,u,rfl,hy,hu,fU,eW⟩:=prV h hE hT (k:=k+1) (by omega) hv;obtain⟨_,hyr⟩:=zDe h.os (x.zA.length-(k+1)) (k+1) y (by omega) hy;have gI:=zDW h hE hT (k:=k);have gM:=zRe h hE hT hk;have hcg:∀i,i<x.zA.length-(k+1)→(eC1 x T k).getD i []=(lvl (exx D x m T) k).cs.getD i []:=fun i hi=>by rw[zGQ h hE hT hk,J3,J3,Jx (by omega)]
 obtain⟨A,aj⟩:∃A:Nat→Vec,∀i,A i=img (mul (suf (exx D x m T) (k+1))) ((eC1 x T k).take i) (y.take i) (zeros (suf (exx D x m T) (k+1)).length):=⟨_,fun _=>rfl⟩;have hI:∀i,V (suf (exx D x m T) (k+1)) (A i):=fun i=>by rw[aj];exact sS (xN ok) _ _ (by grind) (wJ ok)
 have hA0:A 0=zeros (suf (exx D x m T) (k+1)).length:=by grind[img]
 have hAn:A (x.zA.length-(k+1))=sgG D x m T k y:=by rw[aj,Ji (by omega),Ji (by omega)];rfl
 rw[fU];unfold b_f;dsimp only
 rw[zJk h hE hT (k:=k+1) (by omega) (by omega),bs,zE (by omega) (by omega),bs,cs];have:=zO (body:=zSB g ⟨x,m0,T⟩ k ⟨fv (k+1) y,u⟩) (r:=((prE x (k+1) (sgG D x m T k y)).x,(prE x (k+1) (sgG D x m T k y)).v))
  (fun i=>((prE x (k+1) (A i)).x,(prE x (k+1) (A i)).v,((k+1+i:Nat):Int))) (x.zA.length-(k+1)) (fun i hi=>by
  have hr:=hyr i hi;obtain⟨c1,c2⟩:=zDX h hE hT (k:=k) (j:=k+1+i) (by omega) (by omega);rw[show k+1+i-(k+1)=i from by omega]at c1 c2;unfold zSB;dsimp only
  rw[dP (by grind[zBT]),zJ];rw[zBu (S:=V (suf (exx D x m T) (k+1))) (fun w=>(prE x (k+1) w).x) (fun w=>(prE x (k+1) w).v) (fun w=>mul (suf (exx D x m T) (k+1)) w ((lvl (exx D x m T) k).cs.getD i [])) (at0 y i) hr.1 (by grind[xN]) (fun w q hw hq=>by
   unfold zUi;dsimp only
   rw[fv,zKj (by omega),bs,dP hq,zJ,zE (by omega) (by omega),bs,c1,bs,cs,show(zG.mk (prE x (k+1) w).x (prE x (k+1) w).v)=prE x (k+1) w from rfl,hg w _ hw c2,bs,zE (by omega) (by omega),bs,cs]) (fun w hw=>by
   unfold zUi;dsimp only
   rw[fv,zKj (by omega),bs,dO (by omega),zK]) (hI i),bs,zE (by omega) (by omega),bs,cs]
  rw[aj (i+1),zAL _ _ _ _ (by omega) (by omega),hcg i hi,←aj];rfl) (by
  unfold zSB;dsimp only
  rw[dO (by grind[zBT]),zK,hAn])
 rw[hA0,Gt]at this;rw[this,bs,hM.mv k hk _ hu,bs];obtain⟨y1,u1,e,cL,bq,d6,pO⟩:=prV h hE hT (k:=k+1) (by omega) (zRf h hE hT hk (y:=y));rw[zMt h hE hT hk hy hu,d6,e,K0 pO,Lj pO,sT pO];dsimp only
 rw[hM.pr,zRn h hE hT bq (jT (by omega)),bs]
theorem zRo{k:Nat}(hk:k<x.zA.length){g:zP→Int→zG→zG→Option zG}{gi:zP→Int→zG→Option zG}(hg:zRl D x m0 m T (k+1) g)(hi:zRm D x m0 m T k gi):zRl D x m0 m T k (b_d gi g):=by
 have _:=hM;intro a b ha hb;have hn:=hE.hn;have hl:=uO h hE hT;have hp:=(h.os.2 k hk).pos;have ok:=zAU h hE hT (k:=k+1) (by omega);have ok0:=zAU h hE hT (k:=k) (by omega);obtain⟨al,au,rfl,pq,hau,fc,fe⟩:=prV h hE hT (k:=k) (by omega) ha;obtain⟨bl,bu,rfl,pm,hbu,mR,hbll⟩:=prV h hE hT (k:=k) (by omega) hb;rw[fc,mR];rw[yL (x:=x) hk]at pq pm;rw[yL (x:=exx D x m T) (by omega)]at ok0 ⊢
 obtain⟨a0,a,rfl⟩:∃a0 a',al=a0::a':=by cases al with|nil=>grind|cons p q=>simp
 obtain⟨b0,b,rfl⟩:∃a0 a',bl=a0::a':=by cases bl with|nil=>grind|cons p q=>simp
 obtain⟨⟨a1,a2⟩,pq⟩:=pq;obtain⟨⟨b1,b2⟩,pm⟩:=pm;change a0<at0 x.zA k at a2;change b0<at0 x.zA k at b2;have dE:=sZ h (by omega) pq;have dA:=sZ h (by omega) pm;have hA:=(zCG h hE hT (x.zA.length-(k+1)) (k+1) (by omega) (a++au)).2 ⟨_,_,rfl,pq,hau⟩;have hB:=(zCG h hE hT (x.zA.length-(k+1)) (k+1) (by omega) (b++bu)).2 ⟨_,_,rfl,pm,hbu⟩;have own:∀u,V (suf x (k+1)) u→f_n (fv (k+1) u)=dJ (fv (k+1) u):=by grind[uA,zBT]
 have own':∀(c:Int) u,V (suf x (k+1)) u→f_n (fv k (c::u))=dJ (fv k (c::u)):=fun c u hu=>uA (by have:=sZ h (by omega) hu;rw[fv,Ja,zS,K4];omega)
 have ey:∀u,V (suf (exx D x m T) (k+1)) u→V (suf (exx D x m T) (k+1)) (sig (suf (exx D x m T) (k+1)) (lvl (exx D x m T) k) u):=by grind[zDb]
 have eg:V (suf (exx D x m T) (k+1)) (iter b0.toNat (sig (suf (exx D x m T) (k+1)) (lvl (exx D x m T) k)) (a++au)):=vD ey _ hA;have ea:(⟨fv (k+1) a,au⟩:zG)=prE x (k+1) (a++au):=(sT dE).symm;have eb:(⟨fv (k+1) b,bu⟩:zG)=prE x (k+1) (b++bu):=(sT dA).symm;unfold b_d;dsimp only
 rw[dO (by omega),zK,own' _ _ pq,bs,own' _ _ pm,bs,zBR,bs,zBR,bs,J6,zCC,zCC,zBi,zBi];have e1:zH (zPl gi ⟨x,m0,T⟩ k ⟨fv k (b0::b),bu⟩) (zeros (k+1)++a,au,0)=dJ ((prE x (k+1) (iter b0.toNat (sig (suf (exx D x m T) (k+1)) (lvl (exx D x m T) k)) (a++au))).x,(prE x (k+1) (iter b0.toNat (sig (suf (exx D x m T) (k+1)) (lvl (exx D x m T) k)) (a++au))).v):=by
  have:=zBu (body:=zPl gi ⟨x,m0,T⟩ k ⟨fv k (b0::b),bu⟩) (S:=V (suf (exx D x m T) (k+1))) (fun w=>(prE x (k+1) w).x) (fun w=>(prE x (k+1) w).v) (sig (suf (exx D x m T) (k+1)) (lvl (exx D x m T) k)) b0 b1 ey (fun w q hw hq=>by
   unfold zPl;dsimp only
   rw[zBR,bs,dP hq,zJ,show(zG.mk (prE x (k+1) w).x (prE x (k+1) w).v)=prE x (k+1) w from rfl,hi w hw,bs,zE (by omega) (by omega),bs,cs]) (fun w hw=>by
   unfold zPl;dsimp only
   rw[zBR,bs,dO (by omega),zK]) hA
  grind
 rw[e1,bs,zE (by omega) (by omega),bs,cs];dsimp only
 rw[show zeros (k+1)++b=fv (k+1) b from rfl,eb,show(zG.mk (prE x (k+1) (iter b0.toNat (sig (suf (exx D x m T) (k+1)) (lvl (exx D x m T) k)) (a++au))).x (prE x (k+1) (iter b0.toNat (sig (suf (exx D x m T) (k+1)) (lvl (exx D x m T) k)) (a++au))).v)=prE x (k+1) (iter b0.toNat (sig (suf (exx D x m T) (k+1)) (lvl (exx D x m T) k)) (a++au))from rfl,hg _ _ eg hB,bs,bs,bs,zE (by omega) (by omega),bs,yG hk,bs];have hm:=xN ok eg hB;show _=dJ (prE x k (mul _ (a0::(a++au)) (b0::(b++bu))));rw[yY,zGP h hE hT hk]
 generalize mul (suf (exx D x m T) (k+1)) (iter b0.toNat (sig (suf (exx D x m T) (k+1)) (lvl (exx D x m T) k)) (a++au)) (b++bu)=r at hm ⊢
 have fin:∀(c:Int) w,V (suf (exx D x m T) (k+1)) w→((f_n (prE x (k+1) w).x).bind fun r22=>(ixO r22 (k:Int)).bind fun _=>dJ (zG.mk (r22.set k c) (prE x (k+1) w).v))=dJ (prE x k (c::w)):=fun c w hw=>by
  obtain⟨w1,w2,rfl,h1,h2,h3,h4⟩:=prV h hE hT (k:=k+1) (by omega) hw;have e3:prE x k (c::(w1++w2))=⟨fv k (c::w1),w2⟩:=by grind[sT]
  rw[h3,e3];dsimp only
  rw[own _ h1,bs,fv,←zBi,zBR,bs,zCC]
 by_cases hge:a0+b0≥at0 x.zA k
 ·obtain⟨p1,p2⟩:=zJj h hE hT (k:=k) (j:=k) (Jf k) hk
  change V (suf (exx D x m T) (k+1)) (lvl (exx D x m T) k).w at p2;rw[dP hge,zJ,if_pos hge,bs,zE (by omega) (by omega),bs,bs,p1,bs];have e4:=hg _ _ p2 hm;rw[show(((exx D x m T).zU.getD k []).drop (k+1))=(lvl (exx D x m T) k).w from rfl,e4,bs]
  grind[xN]
 ·rw[dO hge,zK,if_neg hge]
  grind
theorem zDl:∀(d k:Nat),k+d=x.zA.length→(∀q,2*d+1≤q→zRl D x m0 m T k (zML q))∧(1≤d→ ∀q,2*d≤q→zRm D x m0 m T k (zMK q))
 |0,k,hk=>by
  refine⟨fun q hq a b ha hb=>?_,fun h=>by omega⟩;have hn:=hE.hn;have hp:=hE.m.p.pos;obtain⟨q,rfl⟩:∃m',q=m'+1:=⟨q-1,by omega⟩;rw[zBt h hE hT D k (by omega) (by omega)]at ha hb ⊢
  have ha':=(zFb _ _).1 ha;have eV:=(zFb _ _).1 hb;show b_d _ _ ⟨x,m0,T⟩ k _ _=_;unfold b_d;have e:∀w:Vec,prE x k w=⟨zeros k,w⟩:=fun w=>by rw[prE,show x.zA.length-k=0 from by omega,Jz,Ga,fv,Jg]
  rw[e,e,e];dsimp only
  rw[dP (by omega),zJ,yR (by omega),bs,hM.pr,zRn h hE hT ha' eV,bs,jK (by omega) D _ _ ha' eV,show x.zA.length=k from by omega];rfl
 |d+1,k,hk=>by
  obtain⟨h1,h2⟩:=zDl d (k+1) (by omega);have hI:∀q,2*(d+1)≤q→zRm D x m0 m T k (zMK q):=fun q hq=>by obtain⟨q,rfl⟩:∃m',q=m'+1:=⟨q-1,by omega⟩;exact zKN h hE hT hM (by omega) (h1 q (by omega))
  refine⟨fun q hq=>?_,fun _=>hI⟩;obtain⟨q,rfl⟩:∃m',q=m'+1:=⟨q-1,by omega⟩;exact zRo h hE hT hM (by omega) (h1 q (by omega)) (hI q (by omega))
theorem zGV{k:Nat}(hk:k≤x.zA.length):zRl D x m0 m T k f_d:=fun a b ha hb=>
 zAG (2*(x.zA.length-k)+1) fun q hq=>(zDl h hE hT hM (x.zA.length-k) k (by omega)).1 q hq a b ha hb
theorem zAw{k:Nat}(hk:k<x.zA.length):zRm D x m0 m T k f_f:=fun v hv=>
 zAG (2*(x.zA.length-k)) fun q hq=>(zDl h hE hT hM (x.zA.length-k) k (by omega)).2 (by omega) q hq v hv
end
end Go.Pl

namespace Go.Pl
open Go Go.Ab Go.Wk Go.Pc
structure GR (p:Int) (D:Nat) (Z:Vec→Prop) (L:Mx) (N:Nat) (C:Prop):Prop where
 len:L.length≤N
 row:∀r∈L,Row p D r
 iff:(∀r∈L,Z r)↔C
theorem GR.nil{p:Int}{D N:Nat}{Z:Vec→Prop}:GR p D Z [] N True:=⟨by simp,by simp,by simp⟩
theorem GR.app{p:Int}{D N M:Nat}{Z:Vec→Prop}{L L':Mx}{C C':Prop}(h:GR p D Z L N C)(h':GR p D Z L' M C'):GR p D Z (L++L') (N+M) (C∧C'):=by
 refine⟨by have:=h.len;have:=h'.len;grind,fun r hr=>?_,?_⟩
 ·rcases L5.1 hr with g|g
  ·exact h.row r g
  ·exact h'.row r g
 ·rw[←h.iff,←h'.iff]
  grind
theorem GR.one{p:Int}{D:Nat}{Z:Vec→Prop}{r:List Int}{C:Prop}(hr:Row p D r)(h:Z r↔C):GR p D Z [r] 1 C:=
 ⟨by simp,by grind,by grind⟩
theorem GR.to{p:Int}{D N M:Nat}{Z:Vec→Prop}{L:Mx}{C C':Prop}(h:GR p D Z L N C)(hN:N≤M)(hc:C↔C'):GR p D Z L M C':=⟨by have:=h.len;omega,h.row,h.iff.trans hc⟩
def c1Q(Q:Nat→Vec→Vec→Prop)(e:SPr)(k j:Nat):Prop:=Q (k+1) (pw (mul (suf e (k+1))) (zeros (suf e (k+1)).length) ((lvl e k).cs.getD (j-(k+1)) []) (at0 e.zA j).toNat) (sig (suf e (k+1)) (lvl e k) ((e.zU.getD j []).drop (k+1)))
def c2Q(Q:Nat→Vec→Vec→Prop)(e:SPr)(k i j:Nat):Prop:=Q (k+1) (mul (suf e (k+1)) ((lvl e k).cs.getD (j-(k+1)) []) ((lvl e k).cs.getD (i-(k+1)) [])) (mul (suf e (k+1)) ((lvl e k).cs.getD (i-(k+1)) []) (sig (suf e (k+1)) (lvl e k) (((e.zD.getD i []).getD (j-(i+1)) []).drop (k+1))))
def c4Q(Q:Nat→Vec→Vec→Prop)(e:SPr)(k j:Nat):Prop:=Q (k+1) (mul (suf e (k+1)) (lvl e k).w (iter (lvl e k).o.toNat (sig (suf e (k+1)) (lvl e k)) (wK (e.zA.length-(k+1)) (j-(k+1))))) (mul (suf e (k+1)) (wK (e.zA.length-(k+1)) (j-(k+1))) (lvl e k).w)
structure LCQ (Q:Nat→Vec→Vec→Prop) (x e:SPr) (k:Nat):Prop where
 c1:∀j,k+1≤j→j<x.zA.length→c1Q Q e k j
 c2:∀i,k+1≤i→i<x.zA.length→ ∀j,i+1≤j→j<x.zA.length→c2Q Q e k i j
 c3:Q (k+1) (sig (suf e (k+1)) (lvl e k) (lvl e k).w) (lvl e k).w
 c4:∀j,k+1≤j→j<x.zA.length→c4Q Q e k j
section
variable {D:Nat}{x:SPr}{m0 m:zC}{T:Mx} (h:Pres x) (hE:ExB x.zA.length D x m T) (hT:∀i,i<T.length→Row m.Prime D (T.getD i []))
 include h hE hT
theorem zGW{k:Nat}(hk:k≤x.zA.length){a b:Vec}(ha:V (suf (exx D x m T) k) a)(hb:V (suf (exx D x m T) k) b):(mul (suf (exx D x m T) k) a b).take (x.zA.length-k)=mul (suf x k) (a.take (x.zA.length-k)) (b.take (x.zA.length-k)):=by grind[zJi]
theorem zJl{k:Nat}(hk:k<x.zA.length){v:Vec}(hv:V (suf (exx D x m T) (k+1)) v):(sig (suf (exx D x m T) (k+1)) (lvl (exx D x m T) k) v).take (x.zA.length-(k+1))=sig (suf x (k+1)) (lvl x k) (v.take (x.zA.length-(k+1))):=
 by grind[zKL,zJi]
theorem zEC{k:Nat}(hk:k<x.zA.length){v:Vec}(hv:V (suf (exx D x m T) (k+1)) v):V (suf (exx D x m T) (k+1)) (sig (suf (exx D x m T) (k+1)) (lvl (exx D x m T) k) v):=by
 have gJ:=zAU h hE hT (k:=k) (by omega);rw[yL (x:=exx D x m T) (by grind[uO])]at gJ
 grind[zDb]
theorem zNT{k:Nat}(hk:k<x.zA.length):∀(q:Nat){v:Vec},V (suf (exx D x m T) (k+1)) v→(iter q (sig (suf (exx D x m T) (k+1)) (lvl (exx D x m T) k)) v).take (x.zA.length-(k+1))=iter q (sig (suf x (k+1)) (lvl x k)) (v.take (x.zA.length-(k+1)))
 |0,_,_=>rfl
 |q+1,v,hv=>by have:=zNT hk q (zEC h hE hT hk hv);rw[zJl h hE hT hk hv]at this;exact this
theorem zTA{k:Nat}(hk:k≤x.zA.length):(zeros (suf (exx D x m T) k).length).take (x.zA.length-k)=zeros (suf x k).length:=by grind[zBZ,zS,xK]
theorem zYl{k:Nat}(hk:k≤x.zA.length){c:Vec}(hc:V (suf (exx D x m T) k) c)(q:Nat):(pw (mul (suf (exx D x m T) k)) (zeros (suf (exx D x m T) k).length) c q).take (x.zA.length-k)=pw (mul (suf x k)) (zeros (suf x k).length) (c.take (x.zA.length-k)) q:=by have ok:=zAU h hE hT (k:=k) (by omega);have:=zGS (S:=V (suf (exx D x m T) k)) (n:=mul (suf x k)) (·.take (x.zA.length-k)) (fun a b=>xN ok) (by grind[zGW]) [c] [(q:Int)] (zeros (suf (exx D x m T) k).length) (by grind) (wJ ok);simp only[Jm,Ub,img,J6]at this;rw[zTA h hE hT hk]at this;exact this
section
variable {k:Nat} (hk:k<x.zA.length)
 include hk
theorem zRp{j:Nat}(h1:k+1≤j)(h2:j<x.zA.length):((lvl (exx D x m T) k).cs.getD (j-(k+1)) []).take (x.zA.length-(k+1))=(lvl x k).cs.getD (j-(k+1)) []:=by rw[zUX h hE hT hk h1 h2,K0 (sZ h (by omega) (jR h hk h1 h2).2.2)]
theorem zMy{j:Nat}(h1:k≤j)(h2:j<x.zA.length):(((exx D x m T).zU.getD j []).drop (k+1)).take (x.zA.length-(k+1))=(x.zU.getD j []).drop (k+1):=by
 have t1:=(h.tl j h2).1.1.1
 grind[zMw]
theorem zWk{i j:Nat}(h1:k+1≤i)(h2:i<j)(h3:j<x.zA.length):((((exx D x m T).zD.getD i []).getD (j-(i+1)) []).drop (k+1)).take (x.zA.length-(k+1))=((x.zD.getD i []).getD (j-(i+1)) []).drop (k+1):=by rw[zMx h hE hT (by omega) h2 h3,K0 (sZ h (by omega) (zQG h hk h1 h2 h3).2.2)]
theorem zWl{j:Nat}(h1:k+1≤j)(h2:j<x.zA.length):wK ((exx D x m T).zA.length-(k+1)) (j-(k+1))=wK (x.zA.length-(k+1)) (j-(k+1))++zeros D:=by
 rw[uO h hE hT,kL (by omega),kL (by omega),Jb,Lg]
 grind[zeros,Je]
end
variable (hM:Mv D x.zA.length m0 m) {Z:Vec→Prop}{Q:Nat→Vec→Vec→Prop} (hZ:∀k,k≤x.zA.length→ ∀a b,V (suf (exx D x m T) k) a→V (suf (exx D x m T) k) b→a.take (x.zA.length-k)=b.take (x.zA.length-k)→(Z (vA m.Prime D (a.drop (x.zA.length-k)) (-1) (b.drop (x.zA.length-k)))↔Q k a b))
 include hM hZ
theorem zJm{k:Nat}(hk:k≤x.zA.length){a b:Vec}(ha:V (suf (exx D x m T) k) a)(hb:V (suf (exx D x m T) k) b)(e:a.take (x.zA.length-k)=b.take (x.zA.length-k)):∃r,zLl ⟨x,m0,T⟩ (prE x k a) (prE x k b)=dJ r∧Row m.Prime D r∧(Z r↔Q k a b):=by
 have h7:=hE.m.p.pos;have h3:=hE.m.d3;obtain⟨y,u,rfl,hy,hu,fU,eW⟩:=prV h hE hT hk ha;obtain⟨z,v,rfl,hz,hv,d5,bc⟩:=prV h hE hT hk hb;have be:=hZ k hk _ _ ha hb e;rw[Lj eW,Lj bc]at be;unfold zLl;rw[fU,d5];dsimp only
 rw[hM.pr,zE (by omega) (by omega),bs,uB hE.m.p hu hv (by omega) (by omega),bs,zBn];exact⟨_,rfl,jS hE.m.p,be⟩
section
variable {k:Nat} (hk:k<x.zA.length) (hc:LC x k)
 include hk
 include hc
theorem zYR{j:Nat}(h1:k+1≤j)(h2:j<x.zA.length){L0 L:Mx}{N:Nat}{C:Prop}(hL:GR m.Prime D Z L N C)(hN:N≤1000){f:Mx→Option (Mx×Int⊕Mx)}:∃L',((zLk ⟨x,m0,T⟩).bind fun r2=>
  (zH (zPm ⟨x,m0,T⟩ (k:Int) (L0,(j:Int))) (r2.x,r2.v,0)).bind fun r8=>
  (zMJ ⟨x,m0,T⟩ (j:Int)).bind fun r9=>
  (f_f ⟨x,m0,T⟩ (k:Int) r9).bind fun r10=>
  (zLl ⟨x,m0,T⟩ (zG.mk r8.1 r8.2) r10).bind fun r11=>
  (xC L [r11]).bind f)=f L'∧GR m.Prime D Z L' (N+1) (C∧c1Q Q (exx D x m T) k j):=by
 have ok:=zAU h hE hT (k:=k+1) (by omega);have hn:=hE.hn;have hp:=(h.os.2 j h2).pos;have hz:=wJ ok;obtain⟨c1,c2⟩:=zDX h hE hT (k:=k) (j:=j) (by omega) h2;obtain⟨p1,p2⟩:=zJj h hE hT (k:=k) (j:=j) (by omega) h2;have hA:=zGV h hE hT hM (k:=k+1) (by omega);have hI:=zAw h hE hT hM hk;have dl:zH (zPm ⟨x,m0,T⟩ (k:Int) (L0,(j:Int))) ((prE x (k+1) (zeros (suf (exx D x m T) (k+1)).length)).x,(prE x (k+1) (zeros (suf (exx D x m T) (k+1)).length)).v,0)=dJ ((prE x (k+1) (pw (mul (suf (exx D x m T) (k+1))) (zeros (suf (exx D x m T) (k+1)).length) ((lvl (exx D x m T) k).cs.getD (j-(k+1)) []) (at0 x.zA j).toNat)).x,(prE x (k+1) (pw (mul (suf (exx D x m T) (k+1))) (zeros (suf (exx D x m T) (k+1)).length) ((lvl (exx D x m T) k).cs.getD (j-(k+1)) []) (at0 x.zA j).toNat)).v):=
  zBu (S:=V (suf (exx D x m T) (k+1))) (fun w=>(prE x (k+1) w).x) (fun w=>(prE x (k+1) w).v) (fun w=>mul (suf (exx D x m T) (k+1)) w ((lvl (exx D x m T) k).cs.getD (j-(k+1)) [])) (at0 x.zA j) (by omega) (by grind[xN]) (fun w q hw hq=>by
   unfold zPm;dsimp only
   rw[yG h2,bs,dP hq,zJ,zE (by omega) (by omega),bs,c1,bs,cs,show(zG.mk (prE x (k+1) w).x (prE x (k+1) w).v)=prE x (k+1) w from rfl,hA w _ hw c2,bs,zE (by omega) (by omega),bs,cs]) (fun w hw=>by
   simp_all[zPm,yG]) hz
 have hpw:V (suf (exx D x m T) (k+1)) (pw (mul (suf (exx D x m T) (k+1))) (zeros (suf (exx D x m T) (k+1)).length) ((lvl (exx D x m T) k).cs.getD (j-(k+1)) []) (at0 x.zA j).toNat):=vD (by grind[xN]) _ hz;obtain⟨r,r1,r2,r3⟩:=zJm h hE hT hM hZ (k:=k+1) (by omega) hpw (zEC h hE hT hk p2) (by rw[zYl h hE hT (by omega) c2,zJl h hE hT hk p2,zRp h hE hT hk h1 h2,zMy h hE hT hk (by omega) h2];exact hc.c1 j h1 h2)
 have mT:=hL.len;refine⟨L++[r],?_,hL.app (GR.one r2 (r3.trans ?_))⟩
 ·rw[zJk h hE hT (k:=k+1) (by omega) (by omega),bs,dl,bs,p1,bs,hI _ p2,bs]
  dsimp only
  rw[r1,bs,zZ (by simp;omega),bs]
 ·unfold c1Q;rw[zCu h hE hT h2]
theorem zYS{j:Nat}(h1:k+1≤j)(h2:j<x.zA.length){L0 L:Mx}{N:Nat}{C:Prop}(hL:GR m.Prime D Z L N C)(hN:N≤1000):∃L',zH (zPn ⟨x,m0,T⟩ (k:Int) (L0,(j:Int))) (L,((j+1:Nat):Int))=dJ L'∧GR m.Prime D Z L' (N+(x.zA.length-(j+1))) (C∧ ∀j2,j+1≤j2→j2<x.zA.length→c2Q Q (exx D x m T) k j j2):=by
 have ok:=zAU h hE hT (k:=k+1) (by omega);have hn:=hE.hn;have hA:=zGV h hE hT hM (k:=k+1) (by omega);have hI:=zAw h hE hT hM hk;refine vW (fun i(s:Mx×Int)=>s.2=((j+1+i:Nat):Int)∧GR m.Prime D Z s.1 (N+i) (C∧ ∀j2,j+1≤j2→j2<j+1+i→c2Q Q (exx D x m T) k j j2)) (x.zA.length-(j+1)) (fun i s hi ⟨hs,hg⟩=>?_) (fun s ⟨hs,hg⟩=>?_) ⟨rfl,hL.to (by omega) (by grind)⟩
 ·left
  obtain⟨L1,s2⟩:=s;dsimp only at hs hg;subst hs;have g2:j+1+i<x.zA.length:=by omega
  obtain⟨a1,a2⟩:=zDX h hE hT (k:=k) (j:=j) (by omega) h2;obtain⟨b1,b2⟩:=zDX h hE hT (k:=k) (j:=j+1+i) (by omega) g2;obtain⟨d1,d2⟩:=zNS h hE hT (k:=k) (i:=j) (j:=j+1+i) (by omega) (by omega) g2;have hs:=zEC h hE hT hk d2;obtain⟨r,r1,r2,r3⟩:=zJm h hE hT hM hZ (k:=k+1) (by omega) (xN ok b2 a2) (xN ok a2 hs) (by rw[zGW h hE hT (by omega) b2 a2,zGW h hE hT (by omega) a2 hs,zJl h hE hT hk d2,zRp h hE hT hk h1 h2,zRp h hE hT hk (by omega) g2,zWk h hE hT hk h1 (by omega) g2];exact hc.c2 j h1 h2 (j+1+i) (by omega) g2)
  have mT:=hg.len;refine⟨(L1++[r],((j+1+i+1:Nat):Int)),?_,rfl,(hg.app (GR.one r2 r3)).to (by omega) ?_⟩
  ·unfold zPn
   dsimp only
   rw[dP (by omega),zJ,a1,bs,b1,bs,d1,bs,hI _ d2,bs,zE (by omega) (by omega),bs,cs,hA _ _ b2 a2,bs,bs,hA _ _ a2 hs,bs,r1,bs,zZ (by simp;omega),bs,zE (by omega) (by omega),bs,cs]
  ·constructor
   ·rintro⟨⟨g1,g3⟩,g4⟩
    refine⟨g1,fun j2 e1 e2=>?_⟩;rcases Jd j2 (j+1+i)with e|e
    ·grind
    ·obtain rfl:j2=j+1+i:=by omega
     exact g4
   ·rintro⟨g1,g3⟩
    exact⟨by grind,g3 (j+1+i) (by omega) (by omega)⟩
 ·obtain⟨L1,s2⟩:=s
  dsimp only at hs hg;subst hs;refine⟨L1,?_,hg.to (Jf _) ?_⟩
  ·unfold zPn
   grind
  grind
theorem zYT:∃L',zH (zSC ⟨x,m0,T⟩ (k:Int)) ([],((k+1:Nat):Int))=dJ L'∧GR m.Prime D Z L' 100 (∀j,k+1≤j→j<x.zA.length→c1Q Q (exx D x m T) k j∧ ∀j2,j+1≤j2→j2<x.zA.length→c2Q Q (exx D x m T) k j j2):=by
 have hn:=hE.hn;refine vW (fun i(s:Mx×Int)=>s.2=((k+1+i:Nat):Int)∧GR m.Prime D Z s.1 (7*i) (∀j,k+1≤j→j<k+1+i→c1Q Q (exx D x m T) k j∧ ∀j2,j+1≤j2→j2<x.zA.length→c2Q Q (exx D x m T) k j j2)) (x.zA.length-(k+1)) (fun i s hi ⟨hs,hg⟩=>?_) (fun s ⟨hs,hg⟩=>?_) ⟨rfl,(GR.nil (N:=0)).to (by omega) (by grind)⟩
 ·left
  obtain⟨L1,s2⟩:=s;dsimp only at hs hg;subst hs;have g2:k+1+i<x.zA.length:=by omega
  obtain⟨L2,e2,hg2⟩:=zYR h hE hT hM hZ hk hc (j:=k+1+i) (by omega) g2 (L0:=L1) hg (by omega) (f:=fun v12=>(rng (((k+1+i:Nat):Int)+1)).bind fun v13=>
   (zH (zPn ⟨x,m0,T⟩ (k:Int) (L1,((k+1+i:Nat):Int))) (v12,v13)).bind fun r25=>
   (rng (((k+1+i:Nat):Int)+1)).bind fun v26=>dJ (.inl (r25,v26)))
  obtain⟨L3,e3,hg3⟩:=zYS h hE hT hM hZ hk hc (j:=k+1+i) (by omega) g2 (L0:=L1) hg2 (by omega);refine⟨(L3,((k+1+i+1:Nat):Int)),?_,rfl,hg3.to (by omega) ?_⟩
  ·unfold zSC
   dsimp only
   rw[dP (by omega),zJ,e2,zE (by omega) (by omega),bs,cs,e3,bs,bs]
  grind
 ·obtain⟨L1,s2⟩:=s
  dsimp only at hs hg;subst hs;refine⟨L1,?_,hg.to (by omega) ?_⟩
  ·unfold zSC
   grind
  grind
theorem zRq{j:Nat}(h1:k+1≤j)(h2:j<x.zA.length):∃r,zLk ⟨x,m0,T⟩=dJ r∧ixO r.x (j:Int)=dJ 0∧r.x.set j 1=(prE x (k+1) (wK (x.zA.length-(k+1)) (j-(k+1))++zeros D)).x∧r.v=(prE x (k+1) (wK (x.zA.length-(k+1)) (j-(k+1))++zeros D)).v:=by
 have _:=hM;have _:=hZ;have _:=hc;have hn:=hE.hn;have ew:(wK (x.zA.length-(k+1)) (j-(k+1))).length=x.zA.length-(k+1):=by rw[jV,zX]
 refine⟨_,zJk h hE hT (k:=k+1) (by omega) (by omega),?_,?_,?_⟩
 ·rw[zBZ h hE hT (by omega),sT (zS _)]
  dsimp only
  simp only[fv,zeros,Je];rw[vE,K3,if_pos (by omega)]
 ·rw[zBZ h hE hT (by omega),sT (zS _),sT ew]
  dsimp only
  have e1:fv (k+1) (zeros (x.zA.length-(k+1)))=zeros j++0::zeros (x.zA.length-(k+1)-(j-(k+1)+1)):=by
   simp only[fv,zeros];rw[←Km,Je,Je]
   grind
  rw[e1,zCC,fv,kL (by omega),←Jb]
  grind[zeros,Je]
 grind[zBZ,sT,zS]
theorem zYU{L:Mx}{N:Nat}{C:Prop}(hL:GR m.Prime D Z L N C)(hN:N≤1000):∃L',zH (zPo ⟨x,m0,T⟩ (k:Int) (prE x (k+1) (((exx D x m T).zU.getD k []).drop (k+1)))) (L,((k+1:Nat):Int))=dJ L'∧GR m.Prime D Z L' (N+(x.zA.length-(k+1))) (C∧ ∀j,k+1≤j→j<x.zA.length→c4Q Q (exx D x m T) k j):=by
 have hn:=hE.hn;have hpk:=(h.os.2 k hk).pos;have h7:=hE.m.p.pos;have ok:=zAU h hE hT (k:=k+1) (by omega);have hA:=zGV h hE hT hM (k:=k+1) (by omega);have hI:=zAw h hE hT hM hk;obtain⟨p1,p2⟩:=zJj (m0:=m0) h hE hT (k:=k) (j:=k) (Jf k) hk;change V (suf (exx D x m T) (k+1)) (lvl (exx D x m T) k).w at p2;change∃L',zH (zPo ⟨x,m0,T⟩ (k:Int) (prE x (k+1) (lvl (exx D x m T) k).w)) (L,((k+1:Nat):Int))=dJ L'∧_;have htw:(lvl (exx D x m T) k).w.take (x.zA.length-(k+1))=(lvl x k).w:=zMy h hE hT hk (Jf k) hk;have ho:(lvl (exx D x m T) k).o=at0 x.zA k:=zGP h hE hT hk;refine vW (fun i(s:Mx×Int)=>s.2=((k+1+i:Nat):Int)∧GR m.Prime D Z s.1 (N+i) (C∧ ∀j,k+1≤j→j<k+1+i→c4Q Q (exx D x m T) k j)) (x.zA.length-(k+1)) (fun i s hi ⟨hs,hg⟩=>?_) (fun s ⟨hs,hg⟩=>?_) ⟨rfl,hL.to (by omega) (by grind)⟩
 ·left
  obtain⟨L1,s2⟩:=s;dsimp only at hs hg;subst hs;have g2:k+1+i<x.zA.length:=by omega
  obtain⟨r33,z1,z2,z3,z4⟩:=zRq h hE hT hM hZ hk hc (j:=k+1+i) (by omega) g2;have hue:=zWl h hE hT hk (j:=k+1+i) (by omega) g2;have hux:V (suf x (k+1)) (wK (x.zA.length-(k+1)) (k+1+i-(k+1))):=by
   have:=zDa (h.okAt (k:=k+1) (by omega)) (j:=k+1+i-(k+1)) (by grind[xK])
   grind[xK]
  have ew:=sZ h (by omega) hux;have mM:V (suf (exx D x m T) (k+1)) (wK (x.zA.length-(k+1)) (k+1+i-(k+1))++zeros D):=(zCG h hE hT (x.zA.length-(k+1)) (k+1) (by omega) _).2 ⟨_,_,rfl,hux,sO (by omega)⟩;have eg:V (suf (exx D x m T) (k+1)) (iter (at0 x.zA k).toNat (sig (suf (exx D x m T) (k+1)) (lvl (exx D x m T) k)) (wK (x.zA.length-(k+1)) (k+1+i-(k+1))++zeros D)):=vD (fun w hw=>zEC h hE hT hk hw) _ mM;have dl:zH (zSD ⟨x,m0,T⟩ (k:Int)) ((prE x (k+1) (wK (x.zA.length-(k+1)) (k+1+i-(k+1))++zeros D)).x,(prE x (k+1) (wK (x.zA.length-(k+1)) (k+1+i-(k+1))++zeros D)).v,0)=dJ ((prE x (k+1) (iter (at0 x.zA k).toNat (sig (suf (exx D x m T) (k+1)) (lvl (exx D x m T) k)) (wK (x.zA.length-(k+1)) (k+1+i-(k+1))++zeros D))).x,(prE x (k+1) (iter (at0 x.zA k).toNat (sig (suf (exx D x m T) (k+1)) (lvl (exx D x m T) k)) (wK (x.zA.length-(k+1)) (k+1+i-(k+1))++zeros D))).v):=
   zBu (S:=V (suf (exx D x m T) (k+1))) (fun w=>(prE x (k+1) w).x) (fun w=>(prE x (k+1) w).v) (sig (suf (exx D x m T) (k+1)) (lvl (exx D x m T) k)) (at0 x.zA k) (by omega) (fun w hw=>zEC h hE hT hk hw) (fun w q hw hq=>by
    unfold zSD;dsimp only
    rw[yG hk,bs,dP hq,zJ,show(zG.mk (prE x (k+1) w).x (prE x (k+1) w).v)=prE x (k+1) w from rfl,hI w hw,bs,zE (by omega) (by omega),bs,cs]) (fun w hw=>by
    simp_all[zSD,yG]) mM
  obtain⟨r,r1,r2,r3⟩:=zJm h hE hT hM hZ (k:=k+1) (by omega) (xN ok p2 eg) (xN ok mM p2) (by rw[zGW h hE hT (by omega) p2 eg,zGW h hE hT (by omega) mM p2,zNT h hE hT hk _ mM,htw,K0 ew];exact hc.c4 (k+1+i) (by omega) g2)
  have mT:=hg.len;refine⟨(L1++[r],((k+1+i+1:Nat):Int)),?_,rfl,(hg.app (GR.one r2 r3)).to (by omega) ?_⟩
  ·unfold zPo
   dsimp only
   rw[dP (by omega),zJ,z1,bs,z2,bs,J6,z3,z4,dl,bs,zE (by omega) (by omega),bs,cs];dsimp only
   have e1:=hA _ _ p2 eg;have e2:=hA _ _ mM p2;rw[show∀w,(zG.mk (prE x (k+1) w).x (prE x (k+1) w).v)=prE x (k+1) w from fun _=>rfl,show∀w,(zG.mk (prE x (k+1) w).x (prE x (k+1) w).v)=prE x (k+1) w from fun _=>rfl,e1,bs,bs,e2,bs,r1,bs,zZ (by simp;omega),bs,zE (by omega) (by omega),bs,cs]
  ·have e4:c4Q Q (exx D x m T) k (k+1+i)↔Q (k+1) (mul (suf (exx D x m T) (k+1)) (lvl (exx D x m T) k).w (iter (at0 x.zA k).toNat (sig (suf (exx D x m T) (k+1)) (lvl (exx D x m T) k)) (wK (x.zA.length-(k+1)) (k+1+i-(k+1))++zeros D))) (mul (suf (exx D x m T) (k+1)) (wK (x.zA.length-(k+1)) (k+1+i-(k+1))++zeros D) (lvl (exx D x m T) k).w):=by
    grind[c4Q]
   rw[←e4];constructor
   ·grind
   grind
 ·obtain⟨L1,s2⟩:=s
  dsimp only at hs hg;subst hs;refine⟨L1,?_,hg.to (Jf _) ?_⟩
  ·unfold zPo
   grind
  grind
theorem zWm:∃L,f_i ⟨x,m0,T⟩ (k:Int)=dJ L∧GR m.Prime D Z L 120 (LCQ Q x (exx D x m T) k):=by
 have hn:=hE.hn;have hI:=zAw h hE hT hM hk;obtain⟨p1,p2⟩:=zJj h hE hT (k:=k) (j:=k) (Jf k) hk;obtain⟨L1,e1,g1⟩:=zYT h hE hT hM hZ hk hc;have hs:=zEC h hE hT hk p2;obtain⟨r,r1,r2,r3⟩:=zJm h hE hT hM hZ (k:=k+1) (by omega) hs p2 (by rw[zJl h hE hT hk p2,zMy h hE hT hk (Jf k) hk];exact hc.c3)
 obtain⟨L2,e2,g2⟩:=zYU h hE hT hM hZ hk hc (g1.app (GR.one r2 r3)) (by omega);have mT:=g1.len;refine⟨L2,?_,g2.to (by omega) ?_⟩
 ·unfold f_i
  rw[zE (by omega) (by omega),bs,cs,e1,bs,p1,bs,hI _ p2,bs,r1,bs,zZ (by simp;omega),bs,bs,e2,bs]
 ·constructor
  ·rintro⟨⟨a1,a2⟩,a3⟩
   exact⟨by grind,by grind,a2,a3⟩
  ·intro a
   exact⟨⟨fun j b1 b2=>⟨a.c1 j b1 b2,fun j2 b3 b4=>a.c2 j b1 b2 j2 b3 b4⟩,a.c3⟩,a.c4⟩
end
theorem zWn(hx:vH (suf x 0)):∃L,zUj ⟨x,m0,T⟩=dJ L∧GR m.Prime D Z L 1000 (∀k,k<x.zA.length→LCQ Q x (exx D x m T) k):=by
 have hn:=hE.hn;have h3:=hE.m.d3;have hlc:∀k,k<x.zA.length→LC x k:=fun k hk=>((zAN h.w hk).1 (zCo hx k)).2
 obtain⟨L,e,g⟩:=vW (body:=zLm ⟨x,m0,T⟩) (Q:=fun L=>GR m.Prime D Z L 1000 (∀k,k<x.zA.length→LCQ Q x (exx D x m T) k)) (fun i(s:Mx×Int)=>s.2=(i:Int)∧GR m.Prime D Z s.1 (120*i) (∀k,k<i→LCQ Q x (exx D x m T) k)) x.zA.length (fun i s hi ⟨hs,hg⟩=>by
  left;obtain⟨L1,s2⟩:=s;dsimp only at hs hg;subst hs;obtain⟨L2,e2,g2⟩:=zWm h hE hT hM hZ hi (hlc i hi);have l1:=hg.len;have l2:=g2.len;refine⟨(L1++L2,((i+1:Nat):Int)),?_,rfl,(hg.app g2).to (by omega) ?_⟩
  ·unfold zLm
   dsimp only
   rw[yN hi,zJ,e2,bs,zZ (by omega),bs,zE (by omega) (by omega),bs,cs]
  grind) (fun s ⟨hs,hg⟩=>by
  obtain⟨L1,s2⟩:=s;dsimp only at hs hg;subst hs;refine⟨L1,?_,hg.to (by omega) Iff.rfl⟩
  simp_all[zLm]) (s:=([],0)) ⟨rfl,(GR.nil (N:=0)).to (by omega) (by simp)⟩
 grind[zUj]
end
section
variable {D:Nat}{x:SPr}{m0 m:zC}{T:Mx} (h:Pres x) (hE:ExB x.zA.length D x m T) (hT:∀i,i<T.length→Row m.Prime D (T.getD i [])) (hM:Mv D x.zA.length m0 m)
 include h hE hT hM
theorem zNU(hx:vH (suf x 0))(hr:zHp x m D):IsB (zSE x m0 T) (vH (suf (exx D x m T) 0)):=by
 have hn:=hE.hn;have h3:=hE.m.d3;have hp:=hE.m.p.pos;obtain⟨L,e,g⟩:=zWn h hE hT hM (Z:=fun r=>r=zeros D) (Q:=fun _ a b=>a=b) (fun k hk a b ha hb e=>by
  obtain⟨y,u,rfl,hy,hu,_,eW⟩:=prV h hE hT hk ha;obtain⟨z,v,rfl,hz,hv,_,bc⟩:=prV h hE hT hk hb;rw[K0 eW,K0 bc]at e;subst e;rw[Lj eW,Lj eW,List.append_cancel_left_eq,←zO8 (p:=m.Prime) hu hv];constructor
  ·grind[uN]
  ·intro g
   rw[vO (zDL (p:=m.Prime) (r:=u) (s:=v) (k:=-1)),show zeros D=mkv D fun _=>0 from tV D]
   grind[yA]) hx
 have mT:=g.len;unfold zSE;rw[e,bs];refine(sG (body:=zLn L) L.length (fun i=> ∀j,j<(L.getD i []).length→at0 (L.getD i []) j=0) rfl (fun i hi _=>?_) ?_).iff ?_
 ·have f9:=g.row (L.getD i []) (by grind)
  unfold zLn;rw[yN hi,zJ,yE [] hi,bs];rcases zCr (v:=L.getD i []) (by rw[f9.1];omega)with⟨z1,z2⟩|⟨z1,z2⟩
  ·left
   rw[z1,bs,J9,zK,zE (by omega) (by omega),bs,cs]
   grind
  grind
 ·simp_all[zLn]
 ·rw[zT9 h hE hT hr,show(∀k,k<x.zA.length→LCn x (exx D x m T) k)↔(∀k,k<x.zA.length→LCQ (fun _ a b=>a=b) x (exx D x m T) k)from⟨fun a k hk=>⟨(a k hk).c1,(a k hk).c2,(a k hk).c3,(a k hk).c4⟩,fun a k hk=>⟨(a k hk).c1,(a k hk).c2,(a k hk).c3,(a k hk).c4⟩⟩,←g.iff]
  constructor
  ·intro a r hr
   obtain⟨i,hi,rfl⟩:=K5.1 hr;have a:=a i hi;rw[J3,J4 hi]at a;have f9:=g.row _ hr;rw[vO f9.1,show zeros D=mkv D fun _=>0 from tV D]
   grind
  grind[K7,uN]
end
end Go.Pl

namespace Go.Pl
open Go Go.Ab Go.Wk Go.Pc
theorem zC2{x:SPr}(h:Pres x):∃s:Nat,f_P x=dJ (s:Int)∧(s=0↔vH (suf x 0)):=by
 have h6:=h.os.1;unfold f_P;obtain⟨r,r1,r2⟩:=vW (body:=zKU x) (Q:=fun r=> ∃s:Nat,r=(s:Int)∧vH (suf x s)∧(s=0∨ ¬vH (suf x (s-1)))) (fun i s=>i≤x.zA.length∧s=((x.zA.length-i:Nat):Int)∧vH (suf x (x.zA.length-i))) x.zA.length (fun i s hi ⟨_,hs,gM⟩=>by
   subst hs;have hk:x.zA.length-i-1<x.zA.length:=by omega
   have e9:x.zA.length-(i+1)=x.zA.length-i-1:=by omega
   rw[e9];have e8:i+1≤x.zA.length:=by omega
   rw[show x.zA.length-i=x.zA.length-i-1+1 from by omega]at gM ⊢
   have cG:=zG2 h hk gM;have cI:=zAN h.w hk
   generalize x.zA.length-i-1=k at*
   unfold zKU;rw[dP (by omega),zJ,zE (by omega) (by omega),bs,show(((k+1:Nat):Int)-1)=(k:Int)from by omega];rcases cG with⟨g1,g2⟩|⟨r,g1,g2,g3⟩
   ·left
    rw[g1,bs];simp only[beq_self_eq_true,Bool.and_true];rw[zJ,bs];exact⟨_,rfl,e8,rfl,cI.2 ⟨gM,g2⟩⟩
   ·right
    rw[g1,bs,show(r.Kind==0)=dM from by simpa using g2,Jby,zK];refine⟨_,rfl,k+1,rfl,gM,.inr fun q=>g3 (cI.1 q).2⟩) (fun s ⟨_,hs,gM⟩=>by
   rw[Kc]at hs gM;subst hs;unfold zKU;rw[show decide (((0:Nat):Int)> 0)=dM from rfl,zK];exact⟨_,rfl,0,rfl,gM,.inl rfl⟩) (s:=(x.zA.length:Int)) ⟨by omega,by rw[Gb],by rw[Gb,uH (by omega)];simp only[vH]⟩
 obtain⟨s,rfl,gM,hs⟩:=r2;rw[r1,bs];refine⟨s,rfl,fun g=>by subst g;exact gM,fun g=>?_⟩;rcases hs with hs|hs
 ·exact hs
 ·exact absurd (zCo g _) hs
section
variable {x:SPr}{m:zC}{T:Mx}{D:Nat} (hx:zEV x) (hm:MOk x.zA.length m D) (hT:T.length≤1048576)
 include hx hm hT
def kP(x:SPr)(m:zC)(D:Nat)(T:Mx):Prop:=T.length=base x.zA.length x.zA.length∧zYk m D T
theorem zAx:IsB (zSA x m T) (kP x m D T):=by
 have h6:=hx.n6;unfold zSA;rw[zMh rfl h6,bs]
 by_cases g:T.length=base x.zA.length x.zA.length
 ·rw[show((T.length:Int)==((base x.zA.length x.zA.length:Nat):Int))=dL from by simp[g],zJ]
  exact(IsB.b (zJg hm (by omega) hT)).iff ⟨fun q=>⟨g,q⟩,fun q=>q.2⟩
 ·rw[show((T.length:Int)==((base x.zA.length x.zA.length:Nat):Int))=dM from by simp;omega,zK]
  exact .inr ⟨rfl,fun q=>g q.1⟩
theorem zKO:IsB (zUk x m T) (kP x m D T):=by
 have h6:=hx.n6;have h3:=hm.d3;unfold zUk;rw[zMi rfl h6,bs]
 by_cases g:T.length=base x.zA.length x.zA.length
 ·rw[show((T.length:Int)==((base x.zA.length x.zA.length:Nat):Int))=dL from by simp[g],zJ]
  exact(IsB.b (zO9 hm.p hm.d (by omega) hT)).iff ⟨fun q=>⟨g,q⟩,fun q=>q.2⟩
 ·rw[show((T.length:Int)==((base x.zA.length x.zA.length:Nat):Int))=dM from by simp;omega,zK]
  exact .inr ⟨rfl,fun q=>g q.1⟩
 omit hT in
theorem zRr(ht:kP x m D T):zE8 x.zA.length D x m T:=by
  have h3:=hm.d3;exact zE8.of hx hm ht.1 (zJe fun i hi=>by have:=(ht.2 i hi).1;omega)
 omit hT in
theorem zTB(ht:kP x m D T):IsB (zUl x m T) (vH (suf (exx D x m T) 0)):=by have hE:=zRr hx hm ht;unfold zUl;rw[zGH hE,bs];obtain⟨s,s1,s2⟩:=zC2 ((zFz hx.toPres (hE.b hm) ht.2).p (by rw[uO hx.toPres (hE.b hm) ht.2];have:=hm.d3;have:=hE.hn;omega));rw[s1,bs];refine(IsB.of_bool ?_).iff s2;simp
end
end Go.Pl

namespace Go.Pl
open Go Go.Ab Go.Wk Go.Pc
def Coc(x:SPr)(m:zC)(D:Nat)(T:Mx):Prop:=kP x m D T∧vH (suf (exx D x m T) 0)
section
variable {x:SPr}{m:zC}{A B:Mx}{L:List Mx}
theorem zON(hx:sX x)(hm:zGt m)(hA:A.length≤1048576)(hB:B.length≤1048576)(hl:L.length≤1000)(hL:∀t,t∈L↔t=A∨t=B):∃c:Int,zUt x m A B=dJ c∧f_M x m L=dJ c∧(c=0→zBj x∧ ∃D,MOk x.zA.length m D∧zHp x m D∧Coc x m D A∧Coc x m D B):=by
 have cO:x.zA.length≤1048576:=hx.1;have a6:=S3.len hm;unfold zUt f_M;rcases(zHq (m:=m) cO).both (zHr (m:=m) cO a6)with⟨s1,i1,hM⟩|⟨s1,i1,hM⟩
 ·obtain⟨hc,D,hD,hr⟩:=hM
  have gw:∀i,i<L.length→L.getD i []=A∨L.getD i []=B:=fun i hi=>(hL _).1 (by rw[J3,J4 hi];exact K7 hi)
  have gm:∀i,i<L.length→(L.getD i []).length≤1048576:=fun i hi=>by rcases gw i hi with e|e<;>rw[e]<;>assumption
  have fe:∀(P:Mx→Prop),(∀i,0≤i→i<L.length→P (L.getD i []))↔P A∧P B:=fun P=>by
   constructor
   ·intro g
    have key:∀t,t∈L→P t:=fun t ht=>by
     obtain⟨i,hi,rfl⟩:=K5.1 ht;have:=g i (Jy _) hi
     rwa [J3,J4 hi]at this
    exact⟨key A ((hL A).2 (.inl rfl)),key B ((hL B).2 (.inr rfl))⟩
   ·rintro⟨g1,g2⟩ i _ hi
    rcases gw i hi with e|e<;>rw[e]<;>assumption
  have eQ:∀i:Nat,i<L.length→((i:Nat):Int)<(L.length:Int):=fun i hi=>by omega
  simp only[s1,i1,bs,J9,zK];have c1:=chk (body:=zSL x m L) L.length 0 (Jy _) (fun i=>kP x m D (L.getD i [])) (fun _=>(1:Int)) (fun i _ hi _=>by
   unfold zSL;rw[yN hi,zJ,yE [] hi,bs];rcases zKO hc.2.2 hD (gm i hi)with⟨z1,z2⟩|⟨z1,z2⟩
   ·left
    rw[z1,bs,J9,zK,zE (by omega) (by omega),bs,cs];exact⟨rfl,z2⟩
   ·right
    rw[z1,bs,Ju,zJ];exact⟨rfl,z2⟩) (by
   unfold zSL;rw[vC,zK])
  rw[show((0:Nat):Int)=0 from rfl]at c1;have hAB:(∀i,0≤i→i<L.length→kP x m D (L.getD i []))↔_:=fe (kP x m D);rcases c1 with⟨c1,c2⟩|⟨i,_,hi,c1,c2⟩
  ·obtain⟨tA,tB⟩:=hAB.1 c2
   rw[c1,bs];simp only
   rcases zAx hc.2.2 hD hA with⟨z1,_⟩|⟨_,z2⟩
   rcases zAx hc.2.2 hD hB with⟨y1,_⟩|⟨_,y2⟩
   ·simp only[z1,y1,bs,J9,zK]
    have c3:=chk (body:=zSM x m L) L.length 0 (Jy _) (fun i=>vH (suf (exx D x m (L.getD i [])) 0)) (fun _=>(5:Int)) (fun i _ hi _=>by
     unfold zSM;rw[yN hi,zJ,yE [] hi,bs];rcases zTB hc.2.2 hD (c2 i (Jy _) hi)with⟨z1,z2⟩|⟨z1,z2⟩
     ·left
      rw[z1,bs,J9,zK,zE (by omega) (by omega),bs,cs];exact⟨rfl,z2⟩
     ·right
      rw[z1,bs,Ju,zJ];exact⟨rfl,z2⟩) (by
     unfold zSM;rw[vC,zK])
    rw[show((0:Nat):Int)=0 from rfl]at c3;have hCC:(∀i,0≤i→i<L.length→vH (suf (exx D x m (L.getD i [])) 0))↔_:=fe (fun t=>vH (suf (exx D x m t) 0));have sA:=zNU hc.1 ((zRr hc.2.2 hD tA).b hD) tA.2 (Mv.self hD) hc.2.1 hr;have sB:=zNU hc.1 ((zRr hc.2.2 hD tB).b hD) tB.2 (Mv.self hD) hc.2.1 hr;rcases c3 with⟨c3,c4⟩|⟨i,_,hi,c3,c4⟩
    ·obtain⟨kA,kB⟩:=hCC.1 c4
     rcases sA with⟨z3,_⟩|⟨_,z3⟩
     rcases sB with⟨y3,_⟩|⟨_,y3⟩
     ·rw[z3,bs,J9,zK,y3,bs,J9,zK,c3,bs]
      exact⟨0,rfl,rfl,fun _=>⟨hc,D,hD,hr,⟨tA,kA⟩,tB,kB⟩⟩
     ·exact absurd kB y3
     ·exact absurd kA z3
    ·rw[c3,bs]
     refine⟨5,?_,rfl,fun e=>absurd e (by decide)⟩;rcases sA with⟨z3,z4⟩|⟨z3,z4⟩
     ·rcases sB with⟨y3,y4⟩|⟨y3,y4⟩
      ·exact absurd (hCC.2 ⟨z4,y4⟩ i (Jy _) hi) c4
      ·rw[z3,bs,J9,zK,y3,bs,Ju,zJ]
     ·rw[z3,bs,Ju,zJ]
   ·exact absurd tB y2
   ·exact absurd tA z2
  ·rw[c1,bs]
   refine⟨1,?_,rfl,fun e=>absurd e (by decide)⟩;rcases zAx hc.2.2 hD hA with⟨z1,z2⟩|⟨z1,z2⟩
   ·rcases zAx hc.2.2 hD hB with⟨y1,y2⟩|⟨y1,y2⟩
    ·exact absurd (hAB.2 ⟨z2,y2⟩ i (Jy _) hi) c2
    ·rw[z1,bs,J9,zK,y1,bs,Ju,zJ]
   ·rw[z1,bs,Ju,zJ]
 ·simp only[s1,i1,bs,Ju,zJ]
  exact⟨1,rfl,rfl,fun e=>absurd e (by decide)⟩
end
end Go.Pl

namespace Go.Pl
open Go Go.Ab Go.Wk Go.Pc
theorem zRs{x:SPr}(h:Pres x)(h6:x.zA.length≤6):(wF x).length=base x.zA.length x.zA.length:=by
 have h1:=zOH h;have key:∀n:Nat,n<7→2*base n n=n*(n+1):=by decide
 have h2:=key x.zA.length (by omega);omega
abbrev zDY(x:SPr)(m:zC)(D:Nat):Mx:=zKD (x.zA.length*D) (fun k=>dfc m D (uv x.zA.length D k)) (wF x)
section
variable {x:SPr}{m:zC}{D:Nat} (hx:zEV x) (hD:MOk x.zA.length m D)
 include hx hD
theorem zGX{T:Mx}(ht:kP x m D T):Row m.Prime (base x.zA.length x.zA.length*D) T.flatten∧f_W T=dJ T.flatten∧f_u T=dJ T.flatten:=by
 have h6:=hx.n6;have h3:=hD.d3;have hb:=sN x.zA.length (by omega);have aL:base x.zA.length x.zA.length*D≤21*3:=Ku hb.2.1 h3;have h:=zQS (p:=m.Prime) (D:=D) (xs:=T) fun r hr=>by
  obtain⟨i,hi,rfl⟩:=K5.1 hr;have:=ht.2 i hi
  rwa [J3,J4 hi]at this
 rw[ht.1]at h;have hl:=ht.1;exact⟨h,zIj (by omega) (by rw[h.1];omega),zAs (by omega) (by rw[h.1];omega)⟩
end
end Go.Pl

namespace Go.Pl
open Go Go.Ab Go.Wk Go.Pc
section
variable {p:Int} (hp:Prime p) {c N:Nat} (gD:c+N≤100000) {A:Mx}
 include hp gD
theorem zRt(hr:∀i,i<N→Row p c (A.getD i []))(hl:A.length=N){b:List Int}(hb:Row p c b){r:List Int}{ok:Bool}(q:f_R p A (c:Int) b=dJ (r,ok)):ok=dL↔Sp p c A b:=by
 have h7:=hp.pos;obtain⟨W,pv,t,h,h2,h3⟩:=Nul.get hp gD hr hl;have hy:=zGM hp gD h hb t;have hlr:=zT5 (by omega) h.row h.red h.sp h.le h.lo h.hi;have hls:=zVZ (by omega) h.row h.red h.sp h.le h.lo h.hi h.len;have mT:(lft c t W).length=t:=xR;have e:∀i,i≤t→(sy p c N W pv b i).take c=cl p c (lft c t W) pv b i:=by
  intro i
  induction i with
  |zero=>
   intro _;show(b++J1 N 0).take c=b;exact K0 hb.1
  |succ i ih=>
   intro hi;have ih:=ih (by omega);have ej:=h.lo i (by omega);show(vA p (c+N) (sy p c N W pv b i) (p-at0 (sy p c N W pv b i) (pv i)) (W.getD i [])).take c=vA p c (cl p c (lft c t W) pv b i) (p-at0 (cl p c (lft c t W) pv b i) (pv i)) ((lft c t W).getD i []);have h1:∀j,j<c→at0 (cl p c (lft c t W) pv b i) j=at0 (sy p c N W pv b i) j:=by grind
   have gm:((vA p (c+N) (sy p c N W pv b i) (p-at0 (sy p c N W pv b i) (pv i)) (W.getD i [])).take c).length=c:=by grind[zDL]
   rw[vO gm];refine yA fun j hj=>?_
   rw[zAS hj,vA,yH (by omega),h1 j hj,h1 _ ej];have h4:at0 ((lft c t W).getD i []) j=at0 (W.getD i []) j:=zDU (by omega) hj;rw[h4]
 have hz:=zT2 hp (by omega) hlr hb;rw[mT]at hz;have e1:(∀i,i<((sy p c N W pv b t).take c).length→at0 ((sy p c N W pv b t).take c) i=0)↔Sp p c A b:=by
  rw[←hls.iff,←hz,e t (Jf _)]
  grind
 rw[zDk hp gD h h2 hb]at q;have ft:((sy p c N W pv b t).take c).length=c:=by rw[Jr,hy.1];omega
 rcases zCr (v:=(sy p c N W pv b t).take c) (by omega)with⟨z1,z2⟩|⟨z1,z2⟩
 all_goals grind
theorem zOO(hr:∀i,i<N→Row p c (A.getD i []))(hl:A.length=N){b:List Int}(hb:Row p c b){r:List Int}(q:f_R p A (c:Int) b=dJ (r,dL)):r.length=N:=by
 have h7:=hp.pos;obtain⟨W,pv,t,h,h2,h3⟩:=Nul.get hp gD hr hl;have hy:=zGM hp gD h hb t;have hK:=h.nred hp gD;have hx:=zMn hp gD h (b:=b);have ft:((sy p c N W pv b t).take c).length=c:=by rw[Jr,hy.1];omega
 rw[zDk hp gD h h2 hb]at q;rcases zCr (v:=(sy p c N W pv b t).take c) (by omega)with⟨z1,z2⟩|⟨z1,z2⟩
 ·rw[z1,bs,J9,zK]at q
  have:=Hf.inj q;rw[←(Qv.inj this).1];exact(zDi hp (by omega) hK hx _).1
 grind
end
def ngv(p:Int)(c:Nat)(v:List Int):List Int:=vA p c (zeros c) (-1) v
theorem zWo{p:Int}{c:Nat}{A:Mx}{v:List Int}:Sp p c A (ngv p c v)↔Sp p c A v:=by
 have hz:Sp p c A (zeros c):=zAt fun j _=>by rw[uN];simp
 constructor
 ·intro g
  refine qH (k:=-1) hz g fun j hj=>?_
  rw[ngv,vA,yH hj,uN,Kg,Kg,Jo,Js,←Jo];simp
 ·intro g
  refine qH (k:=-1) hz g fun j hj=>?_
  rw[ngv,vA,yH hj,Js]
section
variable {x:SPr}{m:zC}{D:Nat} (hx:zEV x) (hD:MOk x.zA.length m D)
 include hx hD
theorem zCx{i:Nat}(hi:i<x.zA.length*D):Row m.Prime (base x.zA.length x.zA.length*D) ((zDY x m D).getD i []):=by have hl:=zRs hx.toPres hx.n6;rw[←hl];exact zOI (zWb hx.toPres hD) (wF x) i hi
theorem zUZ:base x.zA.length x.zA.length*D≤63∧x.zA.length*D≤18:=by have h6:=hx.n6;have hb:=sN x.zA.length (by omega);have aL:base x.zA.length x.zA.length*D≤21*3:=Ku hb.2.1 hD.d3;have fW:x.zA.length*D≤6*3:=Ku h6 hD.d3;omega
theorem zGY{v:List Int}(hv:Row m.Prime (base x.zA.length x.zA.length*D) v):∃u ok,f_R m.Prime (zDY x m D) ((base x.zA.length x.zA.length*D:Nat):Int) (ngv m.Prime (base x.zA.length x.zA.length*D) v)=dJ (u,ok)∧
  (ok=dL↔Sp m.Prime (base x.zA.length x.zA.length*D) (zDY x m D) v)∧zUw x m v=dJ (if ok then zAk x.zA.length D u else[],ok)∧(ok=dL→f_X u m.Dim=dJ (zAk x.zA.length D u)):=by
 have h7:=hD.p.pos;have h1:=hD.d1;have h3:=hD.d3;obtain⟨hc,hn⟩:=zUZ hx hD;have hw:Row m.Prime (base x.zA.length x.zA.length*D) (ngv m.Prime (base x.zA.length x.zA.length*D) v):=jS hD.p;have b5:(zDY x m D).length=x.zA.length*D:=xR;obtain⟨u,ok,s1,s2,s3⟩:=zMp hD.p (c:=base x.zA.length x.zA.length*D) (N:=x.zA.length*D) (by omega) (A:=zDY x m D) (by grind[zCx]) b5 hw;have gJ:=zRt hD.p (c:=base x.zA.length x.zA.length*D) (N:=x.zA.length*D) (by omega) (A:=zDY x m D) (by grind[zCx]) b5 hw s1;rw[zWo]at gJ;have ew:ok=dL→u.length=x.zA.length*D:=fun g=>by subst g;exact zOO hD.p (by omega) (by grind[zCx]) b5 hw s1
 refine⟨u,ok,s1,gJ,?_,fun g=>by rw[hD.d,zKE h1 (by omega) (ew g) (by omega)]⟩;unfold zUw zW4
 by_cases g:x.zA.length=0
 ·have ph:zDY x m D=[]:=Kn (by grind)
  have b6:base x.zA.length x.zA.length*D=0:=by rw[g];show 0*D=0;omega
  have hk:ok=dL:=by grind[zAt]
  have hu:u=[]:=by grind
  rw[show((x.zA.length:Int)==0)=dL from by simp[g],zJ,hk,if_pos rfl,g,hu];rfl
 ·have hz:Row m.Prime (base x.zA.length x.zA.length*D) (J1 v.length (0:Int)):=by rw[hv.1];exact sO (by omega)
  have cx:0<x.zA.length*D:=Nat.mul_pos (by omega) (by omega);have h0:ixO (zDY x m D) 0=dJ ((zDY x m D).getD 0 []):=by grind[yE]
  have cP:=hv.1;rw[show((x.zA.length:Int)==0)=dM from by simp[g],zK,yR (by omega),bs,jA hD.p hz hv (by omega) (by omega),bs,zFh hx.toPres hD,bs,h0,bs,bs,(zCx hx hD (i:=0) cx).1,cP,show vA m.Prime (base x.zA.length x.zA.length*D) (J1 (base x.zA.length x.zA.length*D) 0) (-1) v=ngv m.Prime (base x.zA.length x.zA.length*D) v from rfl,s2,bs];cases ok with
  |false=>rfl
  |true=>
   rw[J9,zK,hD.d,zGK h1 (ew rfl) (by omega),bs];rfl
end
end Go.Pl

namespace Go.Pl
open Go Go.Ab Go.Wk Go.Pc
end Go.Pl

namespace Go.Pl
open Go Go.Ab Go.Wk Go.Pc
end Go.Pl

namespace Go.Pl
open Go Go.Ab Go.Wk Go.Pc
end Go.Pl

namespace Go.Pl
open Go Go.Ab Go.Wk Go.Pc
end Go.Pl

namespace Go.Pl
open Go Go.Ab Go.Wk Go.Pc
end Go.Pl

namespace Go.Pl
open Go Go.Ab Go.Wk Go.Pc
end Go.Pl

namespace Go.Pl
open Go Go.Ab Go.Wk Go.Pc
end Go.Pl

namespace Go.Pl
open Go Go.Ab Go.Wk Go.Pc
end Go.Pl

namespace Go.Pl
open Go Go.Ab Go.Wk Go.Pc
end Go.Pl

namespace Go.Pl
open Go Go.Ab Go.Wk Go.Pc
end Go.Pl

namespace Go.Pl
open Go Go.Ab Go.Wk Go.Pc
end Go.Pl

namespace Go.Pl
open Go Go.Ab Go.Wk Go.Pc
end Go.Pl

namespace Go.Pl
open Go Go.Ab Go.Wk Go.Pc
end Go.Pl

namespace Go.Pl
open Go Go.Ab Go.Wk Go.Pc
end Go.Pl

namespace Go.Pl
open Go Go.Ab Go.Wk Go.Pc
end Go.Pl

namespace Go.Pl
open Go Go.Ab Go.Wk Go.Pc
end Go.Pl

namespace Go.Pl
open Go Go.Ab Go.Wk Go.Pc
end Go.Pl

namespace Go.Pl
open Go Go.Ab Go.Wk Go.Pc
end Go.Pl

namespace Go.Pl
open Go Go.Ab Go.Wk Go.Pc
end Go.Pl

namespace Go.Pl
open Go Go.Ab Go.Wk Go.Pc
end Go.Pl

namespace Go.Pl
open Go Go.Ab Go.Wk Go.Pc
end Go.Pl

namespace Go.Pl
open Go Go.Ab Go.Wk Go.Pc
end Go.Pl

namespace Go.Pl
open Go Go.Ab Go.Wk Go.Pc
end Go.Pl

namespace Go.Pl
open Go Go.Ab Go.Wk Go.Pc
end Go.Pl

namespace Go.Pl
open Go Go.Ab Go.Wk Go.Pc
end Go.Pl

namespace Go.Pl
open Go Go.Ab Go.Wk Go.Pc
end Go.Pl

namespace Go.Pl
open Go Go.Ab Go.Wk Go.Pc
end Go.Pl

namespace Go.Pl
open Go Go.Ab Go.Wk Go.Pc
end Go.Pl

namespace Go.Pl
open Go Go.Ab Go.Wk Go.Pc
end Go.Pl

namespace Go.Pl
open Go Go.Ab Go.Wk Go.Pc
end Go.Pl

namespace Go.Pl
open Go Go.Ab Go.Wk Go.Pc
end Go.Pl

namespace Go.Pl
open Go Go.Ab Go.Wk Go.Pc
end Go.Pl

namespace Go.Pl
open Go Go.Ab Go.Wk Go.Pc
end Go.Pl

namespace Go.Pl
open Go Go.Ab Go.Wk Go.Pc
end Go.Pl

namespace Go.Pl
open Go Go.Ab Go.Wk Go.Pc
end Go.Pl

namespace Go.Pl
open Go Go.Ab Go.Wk Go.Pc
end Go.Pl

namespace Go.Pl
open Go Go.Ab Go.Wk Go.Pc
end Go.Pl

namespace Go.Pl
open Go Go.Ab Go.Wk Go.Pc
end Go.Pl

namespace Go.Pl
open Go Go.Ab Go.Wk Go.Pc
end Go.Pl

namespace Go.Pl
open Go Go.Ab Go.Wk Go.Pc
end Go.Pl

namespace Go.Pl
open Go Go.Ab Go.Wk Go.Pc
end Go.Pl

namespace Go.Pl
open Go Go.Ab Go.Wk Go.Pc
end Go.Pl

namespace Go.Pl
open Go Go.Ab Go.Wk Go.Pc
end Go.Pl

namespace Go.Pl
open Go Go.Ab Go.Wk Go.Pc
end Go.Pl

namespace Go.Pl
open Go Go.Ab Go.Wk Go.Pc
end Go.Pl

namespace Go.Pl
open Go Go.Ab Go.Wk Go.Pc
theorem zOP{x:SPr}{m:zC}{n D:Nat}{T:Mx}(h:zE8 n D x m T):∃g k,zMD x m T=dJ (g,k)∧zMI x m T=dJ (g,k)∧sX g∧(k=0→g.zA.length=n+D):=by
 have hs:=zIm h;have eM:sX ⟨[],[],[]⟩:=⟨by simp,by simp[S2,c2,sm],by simp[S3,c3,sm]⟩;unfold zMD zMI;rw[zK8 h,zGH h,bs,bs];rcases(sJ hs.1).both (sH hs.1)with⟨s1,i1,_⟩|⟨s1,i1,_⟩
 ·simp only[s1,i1,bs,J9,zK]
  exact⟨_,_,rfl,rfl,hs,fun _=>by simp[ext,h.o]⟩
 ·simp only[s1,i1,bs,Ju,zJ]
  grind
theorem zVa{D k:Nat}(hk:k<D)(hD:D≤1000000):zJp (D:Int) (k:Int)=dJ (wT D k):=tC hk hD
def mvE(n D:Nat)(u:List Int):Mx:=gl n fun i=>wT n i++mkv D fun j=>at0 u (i*D+j)
theorem zMz{x:SPr}{m:zC}{n D:Nat}{u:List Int}(ho:x.zA.length=n)(hn:n≤6)(hD:D≤3):zUx x m (zAk n D u)=dJ (mvE n D u):=by
 unfold zUx;rw[qI (body:=zLs x (zAk n D u)) n (fun i=>wT n i++mkv D fun j=>at0 u (i*D+j)) (fun i acc hi ha=>by
  unfold zLs;simp only
  rw[show(zAk n D u).length=n from xR,yN hi,zJ,ho,zVa hi (by omega),bs,yE [] (by grind[zAk]),bs,zAk,xS hi,zZ (by rw[wT,zX,zX];omega),bs,zZ (by simp;omega),bs,zE (by omega) (by omega),bs,cs]) (fun acc=>by
  unfold zLs;simp only
  rw[show(zAk n D u).length=n from xR,vC,zK]),bs]
 rfl
theorem zJn{n D:Nat}{u:List Int}(hn:n≤6)(hD:D≤3):zUy (n:Int) (zAk n D u)=dJ (mvE n D u):=by
 unfold zUy;rw[qI (body:=zLt (n:Int) (zAk n D u)) n (fun i=>wT n i++mkv D fun j=>at0 u (i*D+j)) (fun i acc hi ha=>by
  unfold zLt;simp only
  rw[show(zAk n D u).length=n from xR,yN hi,zJ,yE [] (by grind[zAk]),bs,zAk,xS hi,tC hi (by omega),bs,zJd (by rw[wT,zX];omega) (by rw[zX];omega),bs,zZ (by simp;omega),bs,zE (by omega) (by omega),bs,cs]) (fun acc=>by
  unfold zLt;simp only
  rw[show(zAk n D u).length=n from xR,vC,zK]),bs]
 rfl
def zC3(n D:Nat)(u:List Int)(k:Nat):Mx:=mvE n D u++gl k fun i=>wT (n+D) (n+i)
theorem zIs{n D k:Nat}{u:List Int}:zC3 n D u k++[wT (n+D) (n+k)]=zC3 n D u (k+1):=by grind[zC3,uI]
theorem zDZ{n D k:Nat}{u:List Int}:(zC3 n D u k).length=n+k:=by grind[zC3,mvE]
theorem zOQ{r:SPr×Int}{n D:Nat}{u:List Int}(ho:r.1.zA.length=n+D)(hn:n≤6)(hD:D≤3):zH (zPs r) (mvE n D u,(n:Int))=dJ (zC3 n D u D):=by
 have:=zO (body:=zPs r) (r:=zC3 n D u D) (fun i=>(zC3 n D u i,((n+i:Nat):Int))) D (fun i hi=>by
  unfold zPs;simp only
  rw[ho,yN (by omega),zJ,zVa (by omega) (by omega),bs,zZ (by grind[zDZ]),bs,zE (by omega) (by omega),bs,zIs];rfl) (by
  unfold zPs
  grind)
 have e:zC3 n D u 0=mvE n D u:=by simp[zC3,gl]
 grind
theorem zOR{x:SPr}{m:zC}{r:SPr×Int}{n D:Nat}{u:List Int}(hx:x.zA.length=n)(hm:m.Dim=(D:Int))(ho:r.1.zA.length=n+D)(hn:n≤6)(hD:D≤3):zH (zPt x m r) (mvE n D u,0)=dJ (zC3 n D u D):=by
 have:=zO (body:=zPt x m r) (r:=zC3 n D u D) (fun i=>(zC3 n D u i,(i:Int))) D (fun i hi=>by
  unfold zPt;simp only
  rw[hm,yN hi,zJ,hx,zE (by omega) (by omega),bs,ho,show((n:Int)+(i:Int))=((n+i:Nat):Int)from by omega,tC (by omega) (by omega),bs,zZ (by rw[zDZ,H9];omega),bs,zE (by omega) (by omega),bs,zIs];rfl) (by
  unfold zPt
  grind)
 have e:zC3 n D u 0=mvE n D u:=by simp[zC3,gl]
 grind
def SHm(x:tH):Prop:=sX x.jC∧sX x.kD∧S2 x.qK
def zOS(x:tH):Nat:=zE9 x.jC+zE9 x.kD+sm c1 x.qK
def zNV(x:tH)(k:Int):tH:=⟨zIn x.jC k,zIn x.kD (k+zE9 x.jC),m2 (k+zE9 x.jC+zE9 x.kD) x.qK⟩
theorem zTC{x:tH}(h:SHm x):zOS x≤10000000:=by
 have a:=kO h.1;have b:=kO h.2.1;have c:=h.2.2;have d:=zDd (x:=x.qK)
 grind[zOS]
theorem zVb{x:tH}(h:SHm x):zPu x x=dJ dL:=by unfold zPu;rw[zAd h.1,bs,J9,zK,zAd h.2.1,bs,J9,zK,zAJ h.2.2,bs,beq_self_eq_true,J9,zK]
theorem zTD{x:tH}{k:Int}(h:SHm x)(k0:0≤k)(k1:k≤100000000):zSN x k=dJ (k+zOS x,zNV x k):=by
 have a:=kO h.1;have b:=kO h.2.1;have c:=h.2.2;have d:=zDd (x:=x.qK);simp only[S2]at c;unfold zSN;rw[sK h.1 k0 (by omega),bs];simp only
 rw[sK h.2.1 (by omega) (by omega),bs]
 grind[jP,zOS,zNV]
theorem zTE{x:tH}{k:Int}(h:SHm x)(k0:0≤k)(k1:k≤100000000):zSO (zNV x k) k=dJ (k+zOS x):=by
 have a:=kO h.1;have b:=kO h.2.1;have c:=h.2.2;have d:=zDd (x:=x.qK);simp only[S2]at c;unfold zSO zNV;simp only
 rw[zAR h.1 k0 (by omega),bs,dO (by omega),zK,zAR h.2.1 (by omega) (by omega),bs,dO (by omega),zK,zBO h.2.2 (by omega) (by omega),bs,dO (by omega),zK]
 grind[zOS]
theorem zCa{x:SPr}{m:zC}{A B:Mx}(hx:sX x)(hm:zGt m)(hA:S2 A)(hB:S2 B):∃g k,f_O x m A B=dJ (g,k)∧f_G x m A B=dJ (g,k)∧SHm g:=by
 have fH:A.length≤1048576:=hA.len;have ai:B.length≤1048576:=hB.len;have eM:sX ⟨[],[],[]⟩:=⟨by simp,by simp[S2,c2,sm],by simp[S3,c3,sm]⟩;have cC:S2 ([]:Mx):=by simp[S2,c2,sm]
 obtain⟨c,e1,e2,e3⟩:=zON (L:=[A,B]) hx hm fH ai (by simp) (fun t=>by simp);unfold f_O f_G;rw[e1,e2,bs,bs]
 by_cases g:c=0
 ·obtain⟨hc,D,hD,hr,kA,kB⟩:=e3 g
  have h7:=hD.p.pos;have h6:=hc.2.2.n6;have h3:=hD.d3;obtain⟨g1,k1,m1,m2,m3,m4⟩:=zOP (zRr hc.2.2 hD kA.1);obtain⟨g2,k2,n1,n2,n3⟩:=zMj (zRr hc.2.2 hD kB.1);rw[qS g,zK,zK,m1,m2,bs,bs]
  by_cases gk:k1=0
  ·obtain⟨a1,a2,a3⟩:=zGX hc.2.2 hD kA.1
   obtain⟨b1,b2,b3⟩:=zGX hc.2.2 hD kB.1;have eQ:=zUZ hc.2.2 hD;have hv:Row m.Prime (base x.zA.length x.zA.length*D) (vA m.Prime (base x.zA.length x.zA.length*D) B.flatten (-1) A.flatten):=jS hD.p;obtain⟨u,ok,s1,_,s3,s4⟩:=zGY hc.2.2 hD hv;have hng:vA m.Prime (base x.zA.length x.zA.length*D) A.flatten (-1) B.flatten=ngv m.Prime (base x.zA.length x.zA.length*D) (vA m.Prime (base x.zA.length x.zA.length*D) B.flatten (-1) A.flatten):=by
    refine yA fun j hj=>?_
    rw[uN,vA,yH hj,Kg,Jo,Js,←Jo]
    grind
   have pq:(vA m.Prime (base x.zA.length x.zA.length*D) A.flatten (-1) B.flatten).length=base x.zA.length x.zA.length*D:=zDL;unfold zW7 zW6;simp only
   rw[qS gk,zK,zK,n1,n2,bs,bs,a2,bs,zE (by omega) (by omega),bs,b2,bs,uB hD.p a1 b1 (by omega) (by omega),bs,zBn,zKF hc.1 hD,bs,pq,hng,s1,bs,b3,bs,a3,bs,jA hD.p b1 a1 (by omega) (by omega),bs,bs,s3,bs];cases ok with
   |false=>exact⟨_,_,rfl,rfl,eM,eM,cC⟩
   |true=>
    rw[J9,zK,s4 rfl,bs,bs];simp only
    rw[J9,zK,zK,if_pos trivial,zMz rfl (by omega) h3,zJn (by omega) h3,bs,bs,show(zAk x.zA.length D u).length=x.zA.length from xR,zOQ (m4 gk) (by omega) h3,zOR rfl hD.d (m4 gk) (by omega) h3,bs];refine⟨_,_,rfl,rfl,m3,n3,?_⟩;have q:=zIl (c:=Pl.c1) (b:=9) (xs:=zC3 x.zA.length D u D) (fun r hr=>by
     show r.length≤9;rcases L5.1 hr with hr|hr
     ·obtain⟨i,_,rfl⟩:=Jh.1 hr
      grind[wT,zX]
     ·obtain⟨i,_,rfl⟩:=Jh.1 hr
      grind[wT,zX])
    rw[zDZ]at q;simp only[S2,Pl.c2,zDZ];omega
  ·simp only
   rw[sY gk,zJ,zJ];exact⟨_,_,rfl,rfl,eM,eM,cC⟩
 ·rw[sY g,zJ,zJ]
  exact⟨_,_,rfl,rfl,eM,eM,cC⟩
theorem zDm(x0:SPr)(x1:zC)(x2:Mx)(x3:Mx)(v0:zNA x0)(v1:zTt x1)(v2:VL (VL VI) x2)(v3:VL (VL VI) x3)
  (h:sX x0→zGt x1→S2 x2→S2 x3→ ∃g k,f_O x0 x1 x2 x3=dJ (g,k)∧f_G x0 x1 x2 x3=dJ (g,k)∧SHm g):zSP x0 x1 x2 x3=dJ dL:=by
 unfold zSP;rw[zGu v0 (by decide) (by decide),bs];rcases zFs (c:=zKf x0) (b:=1048576) (by decide) (by decide)with e|⟨e,a0,b0,w0⟩<;>rw[e]
 ·rfl
 rw[zK,zQA v1 a0 b0,bs];rcases zFs (c:=zQ9 x1) a0 b0 with e|⟨e,a1,b1,w1⟩<;>rw[e]
 ·rfl
 rw[zK,zCm v2 a1 b1,bs];rcases zFs (c:=c2 x2) a1 b1 with e|⟨e,a2,b2,w2⟩<;>rw[e]
 ·rfl
 rw[zK,zCm v3 a2 b2,bs];rcases zFs (c:=c2 x3) a2 b2 with e|⟨e,a3,b3,w3⟩<;>rw[e]
 ·rfl
 have s0:sX x0:=sX.of w0;have s1:zGt x1:=zGt.of w1;have s2:S2 x2:=w2;have s3:S2 x3:=w3;obtain⟨g,k,hs,hi,sg⟩:=h s0 s1 s2 s3;have t0:=kO s0;have q1:=zLK (x:=x1.zI);have w1':=w1;simp only[zQ9]at w1';have q2:=zDd (x:=x2);have q3:=zDd (x:=x3);have tg:=zTC sg;rw[zK,zGv s0,bs,zQB s1,bs,zCn s2,bs,zCn s3,bs];simp only[bs];rw[hs,bs,hi,bs];simp only
 rw[zVb sg,bs];simp only[J9,zK,bne_self_eq_false];rw[zAd s0,bs,J9,zK,zQC s1,bs,J9,zK,zAJ s2,bs,beq_self_eq_true,J9,zK,zAJ s3,bs,beq_self_eq_true,J9,zK,sK s0 (by decide) (by decide),bs];simp only
 rw[zLL s1 (by omega) (by omega),bs];simp only
 rw[jP s2 (by omega) (by omega),bs];simp only
 rw[jP s3 (by omega) (by omega),bs];simp only
 rw[dO (by omega),zK,bs,J9,zK];rw[zTD sg (by decide) (by decide),bs];simp only
 rw[zTE sg (by decide) (by decide),bs,dO (by omega),zK,bne_self_eq_false,zK,bs];simp only
 rw[zVb sg,bs,J9,zK,bne_self_eq_false,zK,bs,dO (by omega),zK,bne_self_eq_false,zK]
theorem zCb(x0:SPr)(x1:zC)(x2:Mx)(x3:Mx)(v0:zNA x0)(v1:zTt x1)(v2:VL (VL VI) x2)(v3:VL (VL VI) x3):zSP x0 x1 x2 x3=dJ dL:=
 by grind[zDm,zCa]
end Go.Pl
