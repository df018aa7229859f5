/- The program's CocycleBasis returns what the reference's returns,for all arguments;no conditions. -/
import Derived.Test.YtnggaddopliclaaGreatPlA
open List renaming replicate→J1,getD_eq_getElem?_getD→J2,getElem?_eq_getElem→J3,length_append→J5,length_cons→J7,getElem?_append_right→J8,append_nil→J9,append_assoc→Ja,mem_cons→Jc,length_map→Jf,mem_append→Jh,length_replicate→Ji,nil_append→Jj,getElem?_append_left→Jl,take_left'→Jm,cons_append→Jn,mem_map→Jo,replicate_succ→Jq,take_of_length_le→Jr,eq_of_mem_replicate→Js,map_cons→Jt,replicate_append_replicate→Ju,range→Jw,length_drop→Jx,length_take→Jy,getElem?_eq_none→Jz,length_nil→K0,getElem?_map→K1,drop_left'→K3,take_succ_cons→K7,take_zero→K8,take_succ_eq_append_getElem→Ka,eq_nil_of_length_eq_zero→Kb,mem_range→Kk,getElem?_drop→Kq,reverse_reverse→Ks,drop_append_of_le_length→Kt,getElem?_replicate→Kz,ext_getElem?→L7,map_append→Lh,mem_iff_getElem→Ls,getD_cons_zero→Lu,mem_append_right→Lw,take_length→Lx,reverse_cons→Lz,getElem?_take→H1,replicate_succ'→H2,drop_replicate→H3,drop_eq_getElem_cons→H7,take_append_of_le_length→Hb,replicate_zero→Hc,set_append_right→Hg,map_nil→Hk,range_succ→Hy,drop_zero→G7,mem_append_left→Gm,head?_cons→Gx,mem_of_mem_take→Gz,getD_cons_succ→U9,getElem?_take_of_lt→Uh,length_singleton→Ul,foldl_cons→Ut,getElem?_range→Uv,map_congr_left→Qq,foldl_append→Qs,flatten_append→Qt,cons→Qu,mem_reverse→Qx,ext_getElem→Ja0,getElem?_replicate_of_lt→Ja1,getElem?_set_ne→Jak,range_succ_eq_map→Jb6,not_mem_nil→Jb7,drop_of_length_le→Jbb,mem_of_mem_head?→Jbl,take→Jbs,mem_of_mem_drop→Jbt,getElem_map→Jcp,length→Jdh
open Nat renaming zero_add→Je,lt_or_ge→Jk,le_refl→Jp,succ_mul→K5,zero_le→Ke,mul_le_mul→Kj,sub_self→Kr,add_assoc→Lr,add_sub_cancel_left→H9,min_eq_left→Gd,add_zero→Gf,sub_zero→U7,eq_zero_or_pos→Ua,lt_trichotomy→Ui,add_mul→Uu,lt_of_not_le→Jbz,lt_irrefl→Jc6,add_comm→Jcw
open Int renaming toNat_natCast→Jg,mul_emod→Jv,emod_emod→Kc,emod_eq_of_lt→Kh,add_emod→Ko,emod_lt_of_pos→Kw,mul_zero→L9,emod_nonneg→La,tmod_eq_emod_of_nonneg→Li,zero_add→Lp,add_zero→H8,mul_assoc→He,mul_one→Hl,toNat_zero→Hq,add_mul_emod_self_left→Hr,mul_comm→U8,add_emod_right→Um,zero_mul→Ux,mul_nonneg→Qi,add_mul→Qj,toNat_of_nonneg→Qm,add_assoc→Qo,one_mul→Jab,natCast_add→Jam,add_emod_emod→Jby,sub_zero→Jcx
open Bool renaming not_true→K9,not_false→Kn
open Option renaming some→L4,map_some→Hx
namespace Go.Pl
open Go Go.Ab Go.Wk Go.Pc
theorem zJb{v:List Int}{n:Nat}(hl:v.length=n)(hn:n≤1000000):∃k:Nat,k≤n∧f_B v=some (k:Int)∧(∀j,j<k→at0 v j=0)∧(k<n→at0 v k≠0):=by
 unfold f_B;rcases chk (body:=zIv v) n 0 (Ke _) (fun i=>at0 v i=0) (fun i=>(i:Int)) (fun i _ hi _=>by
   unfold zIv;rw[hl,xV hi,zQ,xD (by omega),bs]
   by_cases h:at0 v i=0
   ·rw[zAb h,zL,zE (by omega) (by omega),bs,cs];exact .inl ⟨rfl,h⟩
   ·rw[zAc h,zQ];exact .inr ⟨rfl,h⟩) (by
   unfold zIv;rw[hl,wC,zL])with⟨h1,h2⟩|⟨i,_,hi,h1,h2⟩
 ·rw[show((0:Nat):Int)=0 from rfl]at h1
  rw[h1,bs];exact⟨n,Jp _,by simp only[hl],fun j hj=>h2 j (Ke _) hj,fun h=>by omega⟩
 ·rw[show((0:Nat):Int)=0 from rfl]at h1
  rw[h1,bs];obtain⟨k,⟨hk1,hk2⟩,hmin⟩:=zBj (p:=fun k=>k<n∧at0 v k≠0) ⟨i,hi,h2⟩;have hz:∀j,j<k→at0 v j=0:=fun j hj=>Classical.byContradiction fun h=>hmin j hj ⟨by omega,h⟩
  have hki:k=i:=by
   have hloop:∀q,q≤k→zJ (zIv v) ((k-q:Nat):Int)=some (.inr (k:Int)):=by
    intro q
    induction q with
    |zero=>
     intro _;rw[xT];have e:zIv v ((k-0:Nat):Int)=some (.inr (.inr (k:Int))):=by
      unfold zIv;rw[show k-0=k from rfl,hl,xV hk1,zQ,xD (by omega),bs,zAc hk2,zQ]
     rw[e]
    |succ q ih=>
     intro hq;rw[xT];have e:zIv v ((k-(q+1):Nat):Int)=some (.inl ((k-q:Nat):Int)):=by
      unfold zIv;rw[hl,xV (by omega),zQ,xD (by omega),bs,zAb (hz _ (by omega)),zL,zE (by omega) (by omega),bs,cs,show k-(q+1)+1=k-q from by omega]
     rw[e];exact ih (by omega)
   have:=hloop k (Jp _);rw[Kr,show((0:Nat):Int)=0 from rfl,h1]at this;have:=Sum.inr.inj (L4.inj this);omega
  exact⟨i,by omega,rfl,by rw[←hki];exact hz,fun _=>h2⟩
theorem zJI{v:List Int}{n k:Nat}(hl:v.length=n)(hn:n≤1000000)(hk:k<n)(h0:∀j,j<k→at0 v j=0)(h1:at0 v k≠0):f_B v=some (k:Int):=by
 obtain⟨q,q1,q2,q3,q4⟩:=zJb hl hn;have:q=k:=by
  rcases Ui q k with g|g|g
  ·exact absurd (h0 q g) (q4 (by omega))
  ·exact g
  ·exact absurd (q3 k g) h1
 rw[q2,this]
theorem zR1{p x:Int}(hp:Prime p)(h0:1≤x)(h1:x≤p-1):∃r,zUG x p=some r∧0≤r∧r≤p-1∧(x*r)%p=1:=by
 have h7:=hp.pos;have hx:∃k:Nat,1≤k∧(k:Int)<p∧(x*(k:Int))%p=1:=by
  obtain⟨r,_,r1,r2,r3⟩:=zEK hp h0 h1;refine⟨r.toNat,?_,by omega,by rw[Qm r1];exact r3⟩;rcases Int.lt_or_eq_of_le r1 with g|g
  ·omega
  ·rw[←g]at r3;simp at r3
 obtain⟨k,⟨k1,k2,k3⟩,hmin⟩:=zBj hx;have body:∀i:Nat,1≤i→(i:Int)<p→zMd x p (i:Int)=cond ((x*(i:Int))%p==1) (some (.inr (.inr (i:Int)))) (some (.inl ((i+1:Nat):Int))):=fun i hi hip=>by
  have a3:=Qi (show 0≤x by omega) (show 0≤(i:Int)by omega);have a4:=zBJ hp (k:=(i:Int)) ⟨by omega,by omega⟩ (b:=x) ⟨by omega,h1⟩;rw[U8]at a4;unfold zMd;rw[decide_eq_true hip,zQ,zLz hp (by omega) (by omega),bs,Kh (by omega) (by omega),zE (by omega) (by omega),bs];unfold uL;rw[if_neg (by omega),bs,Li a3]
  by_cases hh:(x*(i:Int))%p=1
  ·rw[zL0 hh,zQ,zQ]
  ·rw[zL1 hh,zL,zL,zE (by omega) (by omega),bs,cs]
 have hloop:∀q,q+1≤k→zJ (zMd x p) ((k-q:Nat):Int)=some (.inr (k:Int)):=by
  intro q
  induction q with
  |zero=>
   intro _;rw[xT,show k-0=k from rfl,body k k1 k2,zL0 k3,zQ]
  |succ q ih=>
   intro hq;have hne:(x*((k-(q+1):Nat):Int))%p≠1:=fun h=>hmin (k-(q+1)) (by omega) ⟨by omega,by omega,h⟩
   rw[xT,body _ (by omega) (by omega),zL1 hne,zL,show k-(q+1)+1=k-q from by omega];exact ih (by omega)
 have:=hloop (k-1) (by omega);rw[show k-(k-1)=1 from by omega,show((1:Nat):Int)=1 from rfl]at this;refine⟨(k:Int),?_,by omega,by omega,k3⟩;unfold zUG;rw[this,bs]
section
variable {p:Int} (hp:Prime p) {n:Nat} (hn:n≤100000)
 include hp hn
theorem zWz{r s:List Int}(hr:Row p n r):sK p n r p s=r:=by
 have _:=hp;have _:=hn
 conv=>rhs;rw[uE hr.1]
 refine zY fun j hj=>?_
 have:=hr.2 j hj;rw[Hr];exact Kh this.1 (by omega)
def cl(p:Int)(n:Nat)(out:Mx)(pv:Nat→Nat)(v:List Int):Nat→List Int
 |0=>v
 |i+1=>sK p n (cl p n out pv v i) (p-at0 (cl p n out pv v i) (pv i)) (out.getD i [])
variable {out:Mx}{pv:Nat→Nat} (h:Red p n out pv) {v:List Int} (hv:Row p n v)
 include h hv
theorem zR2:∀i,Row p n (cl p n out pv v i):=by
 have _:=hn;have _:=h;intro i;cases i with
 |zero=>exact hv
 |succ i=>exact zCG hp
theorem zW0:∀i,i≤out.length→ ∀k,k<i→at0 (cl p n out pv v i) (pv k)=0:=by
 have _:=hn;have _:=hv;have h7:=hp.pos;intro i
 induction i with
 |zero=>intro _ k hk;omega
 |succ i ih=>
  intro hi k hk;have hlt:=h.lt k (by omega);rw[cl,sK,yH hlt];rcases Jk k i with g|g
  ·have h1:=ih (by omega) k g
   have h2:=h.off k i (by omega) (by omega) (by omega);simp only[ent]at h2;rw[h1,h2];simp
  ·have hki:k=i:=by omega
   subst hki;have h2:=h.one k (by omega);simp only[ent]at h2;rw[h2,Hl,show at0 (cl p n out pv v k) (pv k)+(p-at0 (cl p n out pv v k) (pv k))=p from by omega,Int.emod_self]
theorem zTR:∀i,i≤out.length→ ∃cf:Nat→Int,∀j,j<n→at0 (cl p n out pv v i) j%p=(at0 v j+S out.length fun k=>cf k*ent out k j)%p:=by
 have _:=hp;have _:=h;have _:=hv;have _:=hn;intro i
 induction i with
 |zero=>intro _;exact⟨fun _=>0,fun j _=>by rw[xE (g:=fun _=>0) (fun i _=>by simp),qG,H8];rfl⟩
 |succ i ih=>
  intro hi;obtain⟨cf,hcf⟩:=ih (by omega);refine⟨fun k=>cf k+(if k=i then p-at0 (cl p n out pv v i) (pv i)else 0),fun j hj=>?_⟩;have e1:(S out.length fun k=>(cf k+(if k=i then p-at0 (cl p n out pv v i) (pv i)else 0))*ent out k j)=(S out.length fun k=>cf k*ent out k j)+(p-at0 (cl p n out pv v i) (pv i))*ent out i j:=by
   rw[xE (g:=fun k=>cf k*ent out k j+(if k=i then p-at0 (cl p n out pv v i) (pv i)else 0)*ent out k j) (fun k _=>by rw[Qj]),zCB,zAd (f:=fun k=>(if k=i then p-at0 (cl p n out pv v i) (pv i)else 0)*ent out k j) (k:=i) (by omega) (fun k _ hk=>by simp[hk])];simp
  rw[e1,cl,sK,yH hj,Kc,←Qo,Ko,hcf j hj,←Ko]
theorem zMR(hm:out.length≤100000):zUF p out v=some (cl p n out pv v out.length):=by
 have h7:=hp.pos;unfold zUF;rw[jB (by rw[hv.1];omega),bs];have:=yB (body:=zMc p out) (r:=cl p n out pv v out.length) (fun i=>(cl p n out pv v i,(i:Int))) out.length (fun i hi=>by
  have hr:=zR2 hp hn h hv i;have ho:=h.row i hi;have hlt:=h.lt i hi;have hone:=h.one i hi;have hlow:=h.low i hi;simp only[ent]at hone hlow;have he:=hr.2 (pv i) hlt;unfold zMc;simp only
  rw[xV hi,zQ,yY [] hi,bs,zJI ho.1 (by omega) hlt hlow (by rw[hone];decide),bs,hr.1,xV hlt,zQ,xD (by rw[hr.1];exact hlt),bs]
  by_cases hz:at0 (cl p n out pv v i) (pv i)=0
  ·rw[zAb hz,zL,zE (by omega) (by omega),bs,cs,cl,hz,Jcx,zWz hp hn hr]
  ·rw[zAc hz,zQ,bs,zE (by omega) (by omega),bs,bs,kP hp hr ho ⟨by omega,by omega⟩ (by omega),bs,zE (by omega) (by omega),bs,cs]
   rfl) (by
  unfold zMc;simp only
  rw[wC,zL])
 rw[show((0:Nat):Int)=0 from rfl]at this;simp only[cl]at this;rw[this,bs]
end
end Go.Pl

namespace Go.Pl
open Go Go.Ab Go.Wk Go.Pc
section
variable {p:Int} (hp:Prime p) {n:Nat}{out:Mx}{pv:Nat→Nat} (h:Red p n out pv) {u:List Int}{k q:Nat} (hu:Row p n u) (hk:k<n) (u1:at0 u k=1) (ul:∀j,j<k→at0 u j=0) (up:∀i,i<out.length→at0 u (pv i)=0) (hq:q≤out.length) (q1:∀i,i<q→pv i<k) (q2:∀i,q≤i→i<out.length→k<pv i)
def oth(p:Int)(n:Nat)(out:Mx)(u:List Int)(k i:Nat):List Int:=sK p n (out.getD i []) (p-at0 (out.getD i []) k) u
def sL(p:Int)(n:Nat)(out:Mx)(u:List Int)(k q i:Nat):List Int:=if i<q then oth p n out u k i else if i=q then u else oth p n out u k (i-1)
def zTS(pv:Nat→Nat)(k q i:Nat):Nat:=if i<q then pv i else if i=q then k else pv (i-1)
 include hp h hu hk u1 ul up hq q1 q2
theorem zMS{i j:Nat}(hj:j<n):at0 (oth p n out u k i) j=(at0 (out.getD i []) j-at0 (out.getD i []) k*at0 u j)%p:=by
 have _:=hp;have _:=h;have _:=hu;have _:=hk;have _:=u1;have _:=ul;have _:=up;have _:=hq;have _:=q1;have _:=q2;rw[oth,sK,yH hj,show at0 (out.getD i []) j+(p-at0 (out.getD i []) k)*at0 u j=at0 (out.getD i []) j-at0 (out.getD i []) k*at0 u j+p*at0 u j from by rw[Int.sub_mul];omega,Hr]
theorem zEL{i j:Nat}(hi:i<out.length)(hj:j<n)(hz:at0 (out.getD i []) k=0∨at0 u j=0):at0 (oth p n out u k i) j=ent out i j:=by
 rw[zMS hp h hu hk u1 ul up hq q1 q2 hj];have:=(h.row i hi).2 j hj;have e:at0 (out.getD i []) k*at0 u j=0:=by rcases hz with g|g<;>rw[g]<;>simp
 rw[e,Jcx];exact Kh this.1 (by omega)
theorem zY8{i:Nat}:at0 (oth p n out u k i) k=0:=by
 rw[zMS hp h hu hk u1 ul up hq q1 q2 hk,u1,Hl,Int.sub_self];rfl
theorem zTT{i j:Nat}(hi:i<out.length)(hj:j<pv i)(hne:pv i≠k):at0 (oth p n out u k i) j=0:=by
 have hlt:=h.lt i hi;rcases Jk (pv i) k with g|g
 ·rw[zEL hp h hu hk u1 ul up hq q1 q2 hi (by omega) (.inr (ul j (by omega)))];exact h.low i hi j hj
 ·have:=h.low i hi k (by omega)
  rw[zEL hp h hu hk u1 ul up hq q1 q2 hi (by omega) (.inl this)];exact h.low i hi j hj
theorem zY9{i:Nat}(hi:i<out.length):pv i≠k:=by
 have _:=h;have _:=q1;have _:=q2;have _:=hp;have _:=hu;have _:=hk;have _:=ul;have _:=hq;intro e;have:=up i hi;rw[e,u1]at this;cases this
theorem zJc{i:Nat}(hi:i<out.length+1):(i=q∧sL p n out u k q i=u∧zTS pv k q i=k)∨ ∃a,a<out.length∧(i<q∧a=i∨q<i∧i=a+1)∧sL p n out u k q i=oth p n out u k a∧zTS pv k q i=pv a:=by
 have _:=hp;have _:=h;have _:=hu;have _:=hk;have _:=u1;have _:=ul;have _:=up;have _:=q1;have _:=q2;unfold sL zTS;rcases Ui i q with g|g|g
 ·exact .inr ⟨i,by omega,.inl ⟨g,rfl⟩,by rw[if_pos g],by rw[if_pos g]⟩
 ·exact .inl ⟨g,by rw[if_neg (by omega),if_pos g],by rw[if_neg (by omega),if_pos g]⟩
 ·exact .inr ⟨i-1,by omega,.inr ⟨g,by omega⟩,by rw[if_neg (by omega),if_neg (by omega)],by rw[if_neg (by omega),if_neg (by omega)]⟩
theorem zMT:Red p n (mkR (out.length+1) (sL p n out u k q)) (zTS pv k q):=by
 have nc:=fun i hi=>zJc hp h hu hk u1 ul up hq q1 q2 (i:=i) hi
 have pn:=fun i hi=>zY9 hp h hu hk u1 ul up hq q1 q2 (i:=i) hi
 refine⟨fun i hi=>?_,fun i hi=>?_,fun i hi=>?_,fun i hi j hj=>?_,fun i j hi hj hne=>?_,fun i j hij hj=>?_⟩<;>rw[sF]at*
 ·rw[kF hi]
  rcases nc i hi with⟨_,e,_⟩|⟨a,_,_,e,_⟩<;>rw[e]
  ·exact hu
  ·exact zCG hp
 ·rcases nc i hi with⟨_,_,e⟩|⟨a,ha,_,_,e⟩<;>rw[e]
  ·exact hk
  ·exact h.lt a ha
 ·rw[zEJ hi]
  rcases nc i hi with⟨_,e1,e2⟩|⟨a,ha,_,e1,e2⟩<;>rw[e1,e2]
  ·exact u1
  ·rw[zEL hp h hu hk u1 ul up hq q1 q2 ha (h.lt a ha) (.inr (up a ha))];exact h.one a ha
 ·rw[zEJ hi]
  rcases nc i hi with⟨_,e1,e2⟩|⟨a,ha,_,e1,e2⟩<;>rw[e2]at hj<;>rw[e1]
  ·exact ul j hj
  ·exact zTT hp h hu hk u1 ul up hq q1 q2 ha hj (pn a ha)
 ·rw[zEJ hj]
  rcases nc i hi with⟨g1,_,e2⟩|⟨a,ha,ga,_,e2⟩<;>rw[e2]<;>rcases nc j hj with⟨g3,e3,_⟩|⟨b,hb,gb,e3,_⟩<;>rw[e3]
  ·omega
  ·exact zY8 hp h hu hk u1 ul up hq q1 q2
  ·exact up a ha
  ·rw[zEL hp h hu hk u1 ul up hq q1 q2 hb (h.lt a ha) (.inr (up a ha))]
   exact h.off a b ha hb (by omega)
 ·rcases nc i (by omega)with⟨g1,_,e2⟩|⟨a,ha,ga,_,e2⟩<;>rw[e2]<;>rcases nc j hj with⟨g3,_,e4⟩|⟨b,hb,gb,_,e4⟩<;>rw[e4]
  ·omega
  ·exact q2 b (by omega) hb
  ·exact q1 a (by omega)
  ·exact h.mono a b (by omega) hb
theorem zPz:(∀i,i<out.length+1→Sp p n (out++[u]) (sL p n out u k q i))∧(∀i,i<out.length→Sp p n (mkR (out.length+1) (sL p n out u k q)) (out.getD i []))∧Sp p n (mkR (out.length+1) (sL p n out u k q)) u:=by
 have hul:Sp p n (out++[u]) u:=by
  have:=qH (p:=p) (n:=n) (R:=out++[u]) (i:=out.length) (by simp);simpa[J2]using this
 have hol:∀i,i<out.length→Sp p n (out++[u]) (out.getD i []):=fun i hi=>by
  have:=qH (p:=p) (n:=n) (R:=out++[u]) (i:=i) (by simp;omega);simpa[J2,Jl hi]using this
 have hoth:∀i,i<out.length→Sp p n (out++[u]) (oth p n out u k i):=fun i hi=>
  zAV (k:=p-at0 (out.getD i []) k) (hol i hi) hul fun j hj=>by rw[oth,sK,yH hj,Kc]
 have hsu:Sp p n (mkR (out.length+1) (sL p n out u k q)) u:=by
  have:=zBK (p:=p) (n:=n) (m:=out.length+1) (F:=sL p n out u k q) (i:=q) (by omega);rw[show sL p n out u k q q=u from by unfold sL;rw[if_neg (by omega),if_pos rfl]]at this;exact this
 refine⟨fun i hi=>?_,fun i hi=>?_,hsu⟩
 ·rcases zJc hp h hu hk u1 ul up hq q1 q2 hi with⟨_,e,_⟩|⟨a,ha,_,e,_⟩<;>rw[e]
  ·exact hul
  ·exact hoth a ha
 ·have hi2:∃b,b<out.length+1∧sL p n out u k q b=oth p n out u k i:=by
   rcases Jk i q with g|g
   ·exact⟨i,by omega,by unfold sL;rw[if_pos g]⟩
   ·exact⟨i+1,by omega,by unfold sL;rw[if_neg (by omega),if_neg (by omega)];rfl⟩
  obtain⟨b,hb,e⟩:=hi2;have h1:=zBK (p:=p) (n:=n) (m:=out.length+1) (F:=sL p n out u k q) hb;rw[e]at h1;refine zAV (k:=at0 (out.getD i []) k) h1 hsu fun j hj=>?_
  rw[zMS hp h hu hk u1 ul up hq q1 q2 hj,Ko,Kc,←Ko,show at0 (out.getD i []) j-at0 (out.getD i []) k*at0 u j+at0 (out.getD i []) k*at0 u j=at0 (out.getD i []) j from by omega]
theorem zL3(hn:n≤100000)(hm:out.length≤100000){x:Int}:
  ((zJ (zIw p (out,x) (k:Int) u) ([],false,0)).bind fun r32=>cond (!r32.2) ((wK r32.1 [u]).bind fun v33=>some v33) (some r32.1))=some (mkR (out.length+1) (sL p n out u k q)):=by
 have _:=u1;have _:=ul;have _:=up;have h7:=hp.pos;have ho:∀i,i<out.length→f_A p (out.getD i []) (p-at0 (out.getD i []) k) u=some (oth p n out u k i)∧ixO (out.getD i []) (k:Int)=some (at0 (out.getD i []) k)∧0≤at0 (out.getD i []) k∧at0 (out.getD i []) k≤p-1∧f_B (out.getD i [])=some (pv i:Int):=fun i hi=>by
  have hr:=h.row i hi;have hk2:=hr.2 k hk;have hone:=h.one i hi;have hlow:=h.low i hi;simp only[ent]at hone hlow;exact⟨by rw[kP hp hr hu ⟨by omega,by omega⟩ (by omega)];rfl,xD (by rw[hr.1];exact hk),hk2.1,hk2.2,zJI hr.1 (by omega) (h.lt i hi) hlow (by rw[hone];decide)⟩
 have hsn:∀{m:Nat}{F:Nat→List Int},mkR m F++[F m]=mkR (m+1) F:=fun{m F}=>by simp[mkR,Hy]
 have:=yB (body:=zIw p (out,x) (k:Int) u) (r:=(if out.length≤q then(mkR out.length (sL p n out u k q),false)else(mkR (out.length+1) (sL p n out u k q),true)))
  (fun j=>if j≤q then(mkR j (sL p n out u k q),false,(j:Int))else(mkR (j+1) (sL p n out u k q),true,(j:Int))) out.length (fun j hj=>by
   obtain⟨a1,a2,a3,a4,a5⟩:=ho j hj;have hrg:rng (p-at0 (out.getD j []) k)=some (p-at0 (out.getD j []) k):=zE (by omega) (by omega);rcases Ui j q with g|g|g
   ·have hpj:=q1 j g
    rw[if_pos (by omega),if_pos (by omega)];unfold zIw;simp only
    rw[xV hj,zQ,Kn,zQ,yY [] hj];simp only[bs,a5];rw[decide_eq_false (by omega),zL,a2];simp only[bs,hrg,a1];rw[xK (by rw[sF];simp;omega),bs,zE (by omega) (by omega),bs,cs];have:sL p n out u k q j=oth p n out u k j:=by unfold sL;rw[if_pos g]
    rw[←this,hsn]
   ·subst g
    have hpj:=q2 j (Jp _) hj;rw[if_pos (by omega),if_neg (by omega)];unfold zIw;simp only
    rw[xV hj,zQ,Kn,zQ,yY [] hj];simp only[bs,a5];rw[decide_eq_true (by omega),zQ,xK (by rw[sF];simp;omega),a2];simp only[bs,hrg,a1];have e1:sL p n out u k j j=u:=by unfold sL;rw[if_neg (by omega),if_pos rfl]
    have e2:sL p n out u k j (j+1)=oth p n out u k j:=by unfold sL;rw[if_neg (by omega),if_neg (by omega)];rfl
    have e3:mkR j (sL p n out u k j)++[u]=mkR (j+1) (sL p n out u k j):=by rw[←hsn,e1]
    rw[e3,xK (by rw[sF];simp;omega),bs,zE (by omega) (by omega),bs,cs,←e2,hsn]
   ·rw[if_neg (by omega),if_neg (by omega)]
    unfold zIw;simp only
    rw[xV hj,zQ,K9,zL,yY [] hj];simp only[bs,a2,hrg,a1];have e2:sL p n out u k q (j+1)=oth p n out u k j:=by unfold sL;rw[if_neg (by omega),if_neg (by omega)];rfl
    rw[xK (by rw[sF];simp;omega),bs,zE (by omega) (by omega),bs,cs,←e2,hsn]) (by
   by_cases g:out.length≤q
   ·rw[if_pos g,if_pos g]
    unfold zIw;simp only
    rw[wC,zL]
   ·rw[if_neg g,if_neg g]
    unfold zIw;simp only
    rw[wC,zL])
 rw[if_pos (Ke _),show((0:Nat):Int)=0 from rfl,show mkR 0 (sL p n out u k q)=[]from rfl]at this;rw[this,bs]
 by_cases g:out.length≤q
 ·have e1:sL p n out u k q out.length=u:=by unfold sL;rw[if_neg (by omega),if_pos (by omega)]
  rw[if_pos g];simp only
  rw[Kn,zQ,xK (by rw[sF];simp;omega),bs]
  congr 1
  rw[←hsn,e1]
 ·rw[if_neg g]
  simp only
  rw[K9,zL]
end
end Go.Pl

namespace Go.Pl
open Go Go.Ab Go.Wk Go.Pc
theorem zMU{p:Int}{n:Nat}{R out:Mx}{cf:Nat→Int}(ho:∀i,i<out.length→Sp p n R (out.getD i [])){u:List Int}(hu:∀j,j<n→at0 u j%p=(S out.length fun k=>cf k*ent out k j)%p):Sp p n R u:=
 kQ ho ⟨cf,fun j hj=>(hu j hj).symm⟩
theorem Red.len_le{p:Int}{n:Nat}{R:Mx}{pv:Nat→Nat}(h:Red p n R pv):R.length≤n:=by
 have key:∀i,i<R.length→i≤pv i:=by
  intro i
  induction i with
  |zero=>intro _;omega
  |succ i ih=>
   intro hi;have h1:=ih (by omega);have h2:=h.mono i (i+1) (by omega) hi;omega
 rcases Ua R.length with g|g
 ·omega
 ·have h1:=key (R.length-1) (by omega)
  have h2:=h.lt (R.length-1) (by omega);omega
theorem zDh{xs:Mx}{v:List Int}{i:Nat}(h:i<xs.length):(xs++[v]).getD i []=xs.getD i []:=by
 simp only[J2,Jl h]
theorem zDi{xs:Mx}{v:List Int}:(xs++[v]).getD xs.length []=v:=by simp[J2]
section
variable {p:Int} (hp:Prime p) {n:Nat} (hn:n≤100000)
 include hp hn
theorem zMV{w:List Int}(hw:Row p n w){r:Int}(h0:0≤r)(h1:r≤p-1):zUH p r w=some (mkv n fun j=>(at0 w j*r)%p):=by
 have h7:=hp.pos;unfold zUH;rw[hw.1,wJ (by omega),bs,kP hp (zRx (by omega)) hw ⟨by omega,by omega⟩ (by omega),bs]
 congr 1
 refine zY fun j hj=>?_
 rw[show at0 (z0 n) j=0 from by simp[z0,at0,J2,hj],Lp,U8]
variable {rows:Mx} (hm:rows.length≤600000) (hr:∀i,i<rows.length→Row p n (rows.getD i []))
 include hm hr
theorem zEM:∃R pv,f_p p rows=some R∧(Red p n R pv∧R.length≤rows.length)∧jD p n R rows:=by
 have h7:=hp.pos;unfold f_p;have main:=tD (body:=zPN p rows) (s:=([],0)) (Q:=fun R=> ∃pv,(Red p n R pv∧R.length≤rows.length)∧jD p n R rows)
  (fun i s=> ∃(out:Mx)(pv:Nat→Nat),s=(out,(i:Int))∧Red p n out pv∧jD p n out (rows.take i)∧out.length≤i∧i≤rows.length) rows.length (fun i s hi hI=>?_) (fun s hI=>?_) ⟨[],fun _=>0,rfl,Red.empty,by rw[K8];exact jD.refl,Ke _,Ke _⟩
 ·obtain⟨R,h1,pv,h2,h3⟩:=main
  rw[h1,bs];exact⟨R,pv,rfl,h2,h3⟩
 ·obtain⟨out,pv,rfl,h,hs,hl,_⟩:=hI
  have hon:out.length≤n:=h.len_le;left;have hv:=hr i hi;have hw:=zR2 hp hn h hv out.length;have hcl:=zMR hp hn h hv (by omega);have hpz:=zW0 hp hn h hv out.length (Jp _);obtain⟨cf,hcf⟩:=zTR hp hn h hv out.length (Jp _);obtain⟨k,k1,k2,k3,k4⟩:=zJb hw.1 (by omega);have htk:rows.take (i+1)=rows.take i++[rows.getD i []]:=by
   rw[Ka hi,J2,J3 hi];rfl
  have hti:(rows.take i).length=i:=by rw[Jy];omega
  have hup:∀u,Sp p n (rows.take i) u→Sp p n (rows.take (i+1)) u:=fun u hu=>kQ (fun a ha=>by
   have:=qH (p:=p) (n:=n) (R:=rows.take (i+1)) (i:=a) (by rw[htk,J5];omega);rw[htk,zDh ha,←htk]at this;exact this) hu
  have hvs:Sp p n (rows.take (i+1)) (rows.getD i []):=by
   have:=qH (p:=p) (n:=n) (R:=rows.take (i+1)) (i:=i) (by rw[htk,J5,hti];simp);rw[htk]at this;have e:(rows.take i++[rows.getD i []]).getD i []=rows.getD i []:=by
    have:=zDi (xs:=rows.take i) (v:=rows.getD i []);rw[hti]at this;exact this
   rw[e,←htk]at this;exact this
  by_cases hkn:k=n
  ·
   refine⟨(out,((i+1:Nat):Int)),?_,out,pv,rfl,h,⟨fun a ha=>hup _ (hs.1 a ha),fun a ha=>?_⟩,by omega,by omega⟩
   ·unfold zPN
    simp only
    rw[xV hi,zQ,yY [] hi];simp only[bs,hcl,k2];rw[hw.1,zL0 (by omega),zQ,zE (by omega) (by omega),bs,cs]
   ·rw[htk,J5,hti,Ul]at ha
    rw[htk];rcases Jk a i with g|g
    ·rw[zDh (by omega)];exact hs.2 a (by omega)
    ·have:a=i:=by omega
     subst this;have e:(rows.take a++[rows.getD a []]).getD a []=rows.getD a []:=by
      have:=zDi (xs:=rows.take a) (v:=rows.getD a []);rw[hti]at this;exact this
     rw[e];refine zMU (out:=out) (cf:=fun q=> -1*cf q) (fun a ha=>qH ha) fun j hj=>?_
     have h1:=hcf j hj;rw[k3 j (by omega)]at h1;rw[xE (g:=fun q=> -1*(cf q*ent out q j)) (fun q _=>by rw[He]),zCC];have h2:(at0 (rows.getD a []) j+S out.length fun q=>cf q*ent out q j)%p=0:=by rw[←h1];rfl
     rw[show at0 (rows.getD a []) j=(at0 (rows.getD a []) j+S out.length fun q=>cf q*ent out q j)+ -1*(S out.length fun q=>cf q*ent out q j)from by omega,Ko,h2,Lp,Kc]
  ·have hk:k<n:=by omega
   have hwk:=hw.2 k hk;have hne:=k4 hk;obtain⟨r,r1,r2,r3,r4⟩:=zR1 hp (x:=at0 (cl p n out pv (rows.getD i []) out.length) k) (by omega) (by omega);have hsc:=zMV hp hn hw r2 r3;have hu:Row p n (mkv n fun j=>(at0 (cl p n out pv (rows.getD i []) out.length) j*r)%p):=⟨yD _ _,fun j hj=>by
    have e1:=La (at0 (cl p n out pv (rows.getD i []) out.length) j*r) (show p≠0 by omega);have e2:=Kw (at0 (cl p n out pv (rows.getD i []) out.length) j*r) (show 0<p by omega);rw[yH hj];omega⟩
   have ua:∀j,j<n→at0 (mkv n fun j=>(at0 (cl p n out pv (rows.getD i []) out.length) j*r)%p) j=(at0 (cl p n out pv (rows.getD i []) out.length) j*r)%p:=fun j hj=>yH hj
   generalize mkv n (fun j=>(at0 (cl p n out pv (rows.getD i []) out.length) j*r)%p)=u at hsc hu ua
   have u1:at0 u k=1:=by rw[ua k hk];exact r4
   have ul:∀j,j<k→at0 u j=0:=fun j hj=>by rw[ua j (by omega),k3 j hj];simp
   have up:∀a,a<out.length→at0 u (pv a)=0:=fun a ha=>by rw[ua _ (h.lt a ha),hpz a ha];simp
   obtain⟨q,⟨hq,hq2⟩,hmin⟩:=zBj (p:=fun q=>q≤out.length∧(q<out.length→k<pv q)) ⟨out.length,Jp _,fun g=>by omega⟩;have q1:∀a,a<q→pv a<k:=fun a ha=>by
    have h1:¬(k<pv a):=fun g=>hmin a ha ⟨by omega,fun _=>g⟩
    have h2:pv a≠k:=fun e=>by
     have:=up a (by omega);rw[e,u1]at this;cases this
    omega
   have q2:∀a,q≤a→a<out.length→k<pv a:=fun a ha ha2=>by
    have h1:=hq2 (by omega);rcases Jk q a with g|g
    ·have:=h.mono q a g ha2;omega
    ·rw[show a=q from by omega];exact h1
   have hins:=zL3 hp h hu hk u1 ul up hq q1 q2 hn (by omega) (x:=(i:Int));have hred:=zMT hp h hu hk u1 ul up hq q1 q2;obtain⟨s1,s2,s3⟩:=zPz hp h hu hk u1 ul up hq q1 q2;refine⟨(mkR (out.length+1) (sL p n out u k q),((i+1:Nat):Int)),?_,_,_,rfl,hred,⟨fun a ha=>?_,fun a ha=>?_⟩,by rw[sF];omega,by omega⟩
   ·unfold zPN
    simp only
    rw[xV hi,zQ,yY [] hi];simp only[bs,hcl,k2];rw[hw.1,zL1 (by omega),zL,xD (by rw[hw.1];exact hk)];simp only[bs,r1,hsc];cases hlo:zJ (zIw p (out,(i:Int)) (k:Int) u) ([],false,0)with
    |none=>rw[hlo]at hins;cases hins
    |some r32=>
     rw[hlo,bs]at hins;simp only[bs];obtain⟨a1,a2⟩:=r32;cases a2 with
     |true=>
      simp only[K9,zL]at hins ⊢
      rw[zE (by omega) (by omega),bs,cs,L4.inj hins]
     |false=>
      simp only[Kn,zQ]at hins ⊢
      cases hap:wK a1 [u]with
      |none=>rw[hap]at hins;cases hins
      |some v33=>
       rw[hap,bs]at hins;simp only[bs];rw[zE (by omega) (by omega),bs,cs,L4.inj hins]
   ·rw[sF]at ha
    rw[kF ha];refine kQ (fun b hb=>?_) (s1 a ha);rw[J5,Ul]at hb;rcases Jk b out.length with g|g
    ·rw[zDh g];exact hup _ (hs.1 b g)
    ·rw[show b=out.length from by omega,zDi]
     have hwS:Sp p n (rows.take (i+1)) (cl p n out pv (rows.getD i []) out.length):=by
      have hcS:Sp p n (rows.take (i+1)) (mkv n fun j=>S out.length fun k=>cf k*ent out k j):=zMU (out:=out) (cf:=cf) (fun b hb=>hup _ (hs.1 b hb)) fun j hj=>by rw[yH hj]
      refine zAV (k:=1) hvs hcS fun j hj=>?_
      rw[hcf j hj,yH hj,Jab]
     refine zAV (k:=r) (zEI (u:=[]) fun j _=>by simp[at0]) hwS fun j hj=>?_
     rw[ua j hj,Kc,show at0 ([]:List Int) j=0 from by simp[at0],Lp,U8]
   ·rw[htk,J5,hti,Ul]at ha
    rw[htk];rcases Jk a i with g|g
    ·rw[zDh (by omega)]
     exact kQ s2 (hs.2 a (by omega))
    ·have hai:a=i:=by omega
     subst hai;have e:(rows.take a++[rows.getD a []]).getD a []=rows.getD a []:=by
      have:=zDi (xs:=rows.take a) (v:=rows.getD a []);rw[hti]at this;exact this
     rw[e];have hwS:Sp p n (mkR (out.length+1) (sL p n out u k q)) (cl p n out pv (rows.getD a []) out.length):=by
      refine zAV (k:=at0 (cl p n out pv (rows.getD a []) out.length) k) (zEI (u:=[]) fun j _=>by simp[at0]) s3 fun j hj=>?_
      rw[ua j hj,show at0 ([]:List Int) j=0 from by simp[at0],Lp];rw[Jv,Kc,←Jv,←He,U8 (at0 (cl p n out pv (rows.getD a []) out.length) k),He,Jv,r4,Hl,Kc]
     have hcS:Sp p n (mkR (out.length+1) (sL p n out u k q)) (mkv n fun j=>S out.length fun k=>cf k*ent out k j):=zMU (out:=out) (cf:=cf) s2 fun j hj=>by rw[yH hj]
     refine zAV (k:=-1) hwS hcS fun j hj=>?_
     rw[yH hj,Ko,hcf j hj,←Ko]
     congr 1;omega
 ·obtain⟨out,pv,rfl,h,hs,hl,_⟩:=hI
  refine⟨out,?_,pv,⟨h,hl⟩,by rw[Lx]at hs;exact hs⟩;unfold zPN;simp only
  rw[wC,zL]
theorem zL4:∃R pv,f_p p rows=some R∧Red p n R pv∧jD p n R rows:=by
 obtain⟨R,pv,h1,h2,h3⟩:=zEM hp hn hm hr;exact⟨R,pv,h1,h2.1,h3⟩
theorem zHC{R:Mx}{pv:Nat→Nat}(h:Red p n R pv)(hs:jD p n R rows):R.length≤rows.length:=by
 have h7:=hp.pos;obtain⟨R',pv',_,h2,h3⟩:=zEM hp hn hm hr;rw[h.unique (by omega) h2.1 (hs.trans h3.symm)];exact h2.2
theorem zCH:∃R pv,f_p p rows=some R∧f_j p rows=some R∧Red p n R pv∧jD p n R rows:=by
 have h7:=hp.pos;obtain⟨R,pv,h1,h2,h3⟩:=zL4 hp hn hm hr;obtain⟨R',pv',g1,g2,g3⟩:=zL2 hp hn hm hr;have e:=h2.unique (by omega) g2 (h3.trans g3.symm);exact⟨R,pv,h1,by rw[e];exact g1,h2,h3⟩
end
end Go.Pl

namespace Go.Pl
open Go Go.Ab Go.Wk Go.Pc
theorem zBu{β:Type}{body:List β×Int→Option ((List β×Int)⊕List β)}(n:Nat)(F:Nat→β)(h:∀i acc,i<n→acc.length=i→body (acc,(i:Int))=some (.inl (acc++[F i],((i+1:Nat):Int))))(he:∀acc,body (acc,(n:Int))=some (.inr acc)):
  zJ body ([],0)=some ((Jw n).map F):=by
 have:=yB (body:=body) (r:=(Jw n).map F) (fun i=>((Jw i).map F,(i:Int))) n (fun i hi=>by
  rw[h i _ hi (by simp),Hy,Lh];rfl) (he _)
 exact this
theorem Red.small{p:Int}{n:Nat}{R:Mx}{pv:Nat→Nat}(h:Red p n R pv)(hn:n≤900):S2 R:=by
 have hl:=h.len_le;have key:∀xs:Mx,(∀r∈xs,r.length=n)→sm c1 xs=xs.length*n:=fun xs=>by
  induction xs with
  |nil=>intro _;simp[sm]
  |cons x xs ih=>
   intro hx;have:=ih fun r hr=>hx r (by simp[hr])
   have:=hx x (by simp);simp only[sm,c1,J7,Uu];omega
 have:=key R fun r hr=>by
  obtain⟨i,hi,rfl⟩:=Ls.1 hr;have:=(h.row i hi).1;simpa[J2,J3 hi]using this
 have h2:R.length*n≤900*900:=Kj (by omega) hn;simp only[S2,c2];omega
def zGb(D k:Nat):List Int:=mkv D fun j=>if j=k then 1 else 0
end Go.Pl

namespace Go.Pl
open Go Go.Ab Go.Wk Go.Pc
abbrev gl{β:Type}(m:Nat)(F:Nat→β):List β:=(Jw m).map F
theorem vA{β:Type}{m:Nat}{F:Nat→β}:(gl m F).length=m:=by simp[gl]
theorem zGc{β:Type}{m:Nat}{F:Nat→β}{i:Nat}(h:i<m):ixO (gl m F) (i:Int)=some (F i):=by
 rw[kD (by rw[vA];exact h)];simp[gl]
theorem zBv{β:Type}{m:Nat}{F G:Nat→β}(h:∀i,i<m→F i=G i):gl m F=gl m G:=Qq fun i hi=>h i (Kk.1 hi)
theorem zJJ{β:Type}{m:Nat}{F:Nat→β}{i:Nat}{a:β}:(gl m F).set i a=gl m (fun k=>if k=i then a else F k):=by
 apply L7;intro k
 by_cases hk:k<m
 ·by_cases h:i=k
  ·subst h;simp[gl,hk]
  ·rw[Jak h];simp[gl,hk,Ne.symm h]
 ·rw[Jz (by simp[gl];omega),Jz (by simp[gl];omega)]
theorem zJK{β:Type}{m:Nat}{F:Nat→β}:gl m F++[F m]=gl (m+1) F:=by simp[gl,Hy]
def base(n i:Nat):Nat:=n+i*n-i*(i+1)/2
theorem zBL:∀n,n<7→ ∀i,i<n→base n i+(n-1-i)≤base n n:=by decide
theorem uG:∀n,n<7→n≤base n n∧base n n≤21∧base n 0=n:=by decide
theorem zMW:∀n:Nat,n<7→ ∀j:Nat,j<n→ ∀i:Nat,i<j→zXd (n:Int) (i:Int) (j:Int)=some ((base n i+(j-i-1):Nat):Int):=by decide+kernel
def exP(n D:Nat)(x:SPr)(T:Mx)(i:Nat):List Int:=if i<n then x.zS.getD i []++T.getD i []else J1 (n+D) 0
def exF(n:Nat)(x:SPr)(m:zH)(T:Mx)(i j:Nat):List Int:=if j<n-1-i then(x.zC.getD i []).getD j []++T.getD (base n i+j) []else J1 n 0++(m.zF.getD i []).getD (j-(n-1-i)) []
def unC(N i:Nat):Mx:=gl (N-1-i) fun j=>zGb N (i+1+j)
def exC(n D:Nat)(x:SPr)(m:zH)(T:Mx)(i:Nat):Mx:=if i<n then gl (n+D-1-i) (exF n x m T i)else unC (n+D) i
def ext(n D:Nat)(x:SPr)(m:zH)(T:Mx):SPr:=⟨x.zA++J1 D m.Prime,gl (n+D) (exP n D x T),gl (n+D) (exC n D x m T)⟩
end Go.Pl

namespace Go.Pl
open Go Go.Ab Go.Wk Go.Pc
end Go.Pl

namespace Go.Pl
open Go Go.Ab Go.Wk Go.Pc
theorem zHD{x:SPr}{n:Nat}(ho:x.zA.length=n)(hn:n≤6):zUJ x=some ((base n n:Nat):Int):=by
 unfold zUJ;rw[ho];have key:∀n:Nat,n<7→((rng ((n:Int)-1)).bind fun v1=>(rng ((n:Int)*v1)).bind fun v2=>(tB v2 2).bind fun v3=>(rng ((n:Int)+v3)).bind fun v4=>some v4)=some ((base n n:Nat):Int):=by decide+kernel
 exact key n (by omega)
theorem zMX{x:SPr}{n:Nat}(ho:x.zA.length=n)(hn:n≤6):zUK x=some ((base n n:Nat):Int):=by
 unfold zUK;rw[ho];have key:∀n:Nat,n<7→((rng ((n:Int)+1)).bind fun v1=>(rng ((n:Int)*v1)).bind fun v2=>(tB v2 2).bind fun v3=>some v3)=some ((base n n:Nat):Int):=by decide+kernel
 exact key n (by omega)
end Go.Pl

namespace Go.Pl
open Go Go.Ab Go.Wk Go.Pc
def zR3(x:SPr):Nat:=c1 x.zA+sm c1 x.zS+sm (sm c1) x.zC
def zVq(x:SPr)(k:Int):SPr:=⟨m1 k x.zA,m2 (k+c1 x.zA) x.zS,m3 (k+c1 x.zA+sm c1 x.zS) x.zC⟩
theorem zOw{x:SPr}(h:zD5 x):zR3 x≤3145728:=by
 obtain⟨h1,h2,h3⟩:=h;have g2:=zM6 (x:=x.zS);have g3:=zM7 (x:=x.zC);simp only[S1]at h1;simp only[S2]at h2;simp only[S3]at h3;simp only[zR3];omega
theorem zDv{x:SPr}{k:Int}(h:zD5 x)(k0:0≤k)(k1:k≤1000000000):zUA x k=some (k+zR3 x,zVq x k):=by
 have ht:=zOw h;simp only[zR3]at ht;unfold zUA;rw[zHt h.1 k0 (by omega),bs,zC2 h.2.1 (by simp only;omega) (by simp only;omega),bs,zEC h.2.2 (by simp only;omega) (by simp only;omega),bs];simp only[zR3,zVq,Jam,Qo]
end Go.Pl

namespace Go.Pl
open Go Go.Ab Go.Wk Go.Pc
end Go.Pl

namespace Go.Pl
open Go Go.Ab Go.Wk Go.Pc
end Go.Pl

namespace Go.Pl
open Go Go.Ab Go.Wk Go.Pc
end Go.Pl

namespace Go.Pl
open Go Go.Ab Go.Wk Go.Pc
section
variable {p:Int} (hp:1<p) {n:Nat}{R R':Mx}{pv pv':Nat→Nat} (h:Red p n R pv) (h':Red p n R' pv') (hs:∀i,i<R.length→Sp p n R' (R.getD i []))
 include hp h h' hs
theorem Red.lt_of{i i2 k k2:Nat}(hii:i<i2)(hi2:i2<R.length)(hk:k<R'.length)(e:pv' k=pv i)(e2:pv' k2=pv i2):k<k2:=by
 have _:=hp;have _:=hs;have h1:=h.mono i i2 hii hi2;refine Classical.byContradiction fun hn=>?_
 rcases Jk k2 k with g|g
 ·have:=h'.mono k2 k g hk;omega
 ·have:k=k2:=by omega
  subst this;omega
theorem Red.low_in:∀i,i<R.length→ ∃k,k<R'.length∧pv' k=pv i∧i≤k:=by
 intro i
 induction i with
 |zero=>intro hi;obtain⟨k,hk,e⟩:=h.piv_in hp h' hs hi;exact⟨k,hk,e,by omega⟩
 |succ i ih=>
  intro hi;obtain⟨k,hk,e,hik⟩:=ih (by omega);obtain⟨k2,hk2,e2⟩:=h.piv_in hp h' hs hi;have:=h.lt_of hp h' hs (show i<i+1 by omega) hi hk e e2;exact⟨k2,hk2,e2,by omega⟩
theorem Red.le_of:R.length≤R'.length:=by
 rcases Ua R.length with g|g
 ·omega
 ·obtain⟨k,hk,_,hik⟩:=h.low_in hp h' hs (R.length-1) (by omega)
  omega
end
end Go.Pl

namespace Go.Pl
open Go Go.Ab Go.Wk Go.Pc
end Go.Pl

namespace Go.Pl
open Go Go.Ab Go.Wk Go.Pc
theorem zDj{u v:List Int}{j:Nat}:at0 (u++v) j=if j<u.length then at0 u j else at0 v (j-u.length):=by
 simp only[at0,J2];split
 ·next h=>rw[Jl h]
 ·next h=>rw[J8 (by omega)]
theorem zBw{v:List Int}{c j:Nat}:at0 (v.drop c) j=at0 v (c+j):=by
 simp only[at0,J2,Kq]
theorem zHE{v:List Int}{c j:Nat}(h:j<c):at0 (v.take c) j=at0 v j:=by
 simp only[at0,J2,H1,if_pos h]
theorem zGv{f:Nat→Int}(t:Nat):∀d:Nat,S (t+d) f=S t f+S d (fun i=>f (t+i))
 |0=>by simp[S]
 |d+1=>by rw[←Lr];simp only[S];rw[zGv t d];omega
theorem zW1{f:Nat→Int}{t n:Nat}(ht:t≤n)(h:∀i,i<t→f i=0):S n f=S (n-t) (fun i=>f (t+i)):=by
 have e:n=t+(n-t):=by omega
 conv=>lhs;rw[e,zGv,xE (g:=fun _=>0) h,qG]
 omega
theorem xY{F:Nat→List Int}{m i:Nat}(h:i<m):(gl m F).getD i []=F i:=by simp[gl,J2,h]
def ur(N i:Nat):List Int:=mkv N fun j=>if j=i then 1 else 0
def wd(N:Nat)(A:Mx):Mx:=gl N fun i=>A.getD i []++ur N i
def Gr(p:Int)(c N:Nat)(A:Mx)(u:List Int):Prop:=∀j,j<c→at0 u j%p=(S N fun k=>at0 u (c+k)*ent A k j)%p
section
variable {p:Int} (hp:1<p) {c N:Nat}{A:Mx} (hA:∀i,i<N→Row p c (A.getD i []))
 include hA
theorem zCI:(wd N A).length=N:=by
 have _:=hA;exact vA
theorem zJL{i j:Nat}(hi:i<N)(hj:j<c):ent (wd N A) i j=ent A i j:=by
 rw[ent,wd,xY hi,zDj,(hA i hi).1,if_pos hj]
theorem zBx{i l:Nat}(hi:i<N)(hl:l<N):ent (wd N A) i (c+l)=if l=i then 1 else 0:=by
 rw[ent,wd,xY hi,zDj,(hA i hi).1,if_neg (by omega),H9,ur,yH hl]
 include hp
theorem zR4{i:Nat}(hi:i<N):Row p (c+N) ((wd N A).getD i []):=by
 refine⟨by rw[wd,xY hi,J5,(hA i hi).1,ur,yD],fun j hj=>?_⟩;rcases Jk j c with g|g
 ·have:=(hA i hi).2 j g
  have e:=zJL hA hi g;simp only[ent]at e;rw[e];exact this
 ·have e:=zBx hA (l:=j-c) hi (by omega)
  rw[show c+(j-c)=j from by omega]at e;simp only[ent]at e;rw[e];split<;>omega
theorem zYA{u:List Int}:Sp p (c+N) (wd N A) u↔Gr p c N A u:=by
 have _:=hp;constructor
 ·rintro⟨cf,hcf⟩ j hj
  rw[zCI hA]at hcf;rw[←hcf j (by omega)];refine kO fun k hk=>?_
  have h1:=hcf (c+k) (by omega);rw[zAd (k:=k) hk (fun i hi hne=>by rw[zBx hA hi hk,if_neg (Ne.symm hne),L9]),zBx hA hk hk,if_pos rfl,Hl]at h1;rw[zJL hA hk hj,Jv,h1,←Jv]
 ·intro h
  refine⟨fun k=>at0 u (c+k),fun j hj=>?_⟩;rw[zCI hA];rcases Jk j c with g|g
  ·rw[h j g]
   refine congrArg (·%p) (xE fun k hk=>?_);rw[zJL hA hk g]
  ·obtain⟨l,rfl⟩:∃l,j=c+l:=⟨j-c,by omega⟩
   rw[zAd (k:=l) (by omega) (fun i hi hne=>by rw[zBx hA hi (by omega),if_neg (Ne.symm hne),L9]),zBx hA (by omega) (by omega),if_pos rfl,Hl]
variable {W:Mx}{pv:Nat→Nat} (hW:Red p (c+N) W pv) (hs:jD p (c+N) W (wd N A))
 include hW
theorem zW2:∃t,t≤W.length∧(∀i,i<t→pv i<c)∧ ∀i,t≤i→i<W.length→c≤pv i:=by
 have _:=hA;have _:=hp;obtain⟨t,ht,hmin⟩:=zBj (p:=fun t=>W.length≤t∨c≤pv t) ⟨W.length,.inl (Jp _)⟩;have hlt:∀i,i<t→i<W.length∧pv i<c:=fun i hi=>by
  have:=hmin i hi;exact⟨Jbz fun h=>this (.inl h),Jbz fun h=>this (.inr h)⟩
 refine⟨t,Nat.le_of_not_lt fun h=>?_,fun i hi=>(hlt i hi).2,fun i hi hi2=>?_⟩
 ·have:=(hlt W.length h).1;omega
 ·rcases ht with h|h
  ·omega
  ·rcases Jk t i with g|g
   ·have:=hW.mono t i g hi2;omega
   ·rw[show i=t from by omega];exact h
def nul(c t:Nat)(W:Mx):Mx:=gl (W.length-t) fun i=>(W.getD (t+i) []).drop c
 omit hp hA hW in
theorem zEN{t i j:Nat}(hi:t+i<W.length):ent (nul c t W) i j=ent W (t+i) (c+j):=by
  rw[ent,nul,xY (by omega),zBw]
variable {t:Nat} (ht:t≤W.length) (h1:∀i,i<t→pv i<c) (h2:∀i,t≤i→i<W.length→c≤pv i)
 include ht h1 h2
theorem zTU:Red p N (nul c t W) (fun i=>pv (t+i)-c):=by
 have _:=hp;have _:=hA;have _:=h1;have _:=ht;have hl:(nul c t W).length=W.length-t:=vA;have hpc:∀i,i<W.length-t→c≤pv (t+i):=fun i hi=>h2 (t+i) (by omega) (by omega)
 refine⟨fun i hi=>?_,fun i hi=>?_,fun i hi=>?_,fun i hi j hj=>?_,fun i k hi hk hne=>?_,fun i j hij hj=>?_⟩
 ·rw[hl]at hi
  have hr:=hW.row (t+i) (by omega);refine⟨by rw[nul,xY hi,Jx,hr.1];omega,fun j hj=>?_⟩;have:=hr.2 (c+j) (by omega);rw[nul,xY hi,zBw];exact this
 ·rw[hl]at hi
  have:=hW.lt (t+i) (by omega);have:=hpc i hi;omega
 ·rw[hl]at hi
  rw[zEN (by omega),show c+(pv (t+i)-c)=pv (t+i)from by have:=hpc i hi;omega];exact hW.one _ (by omega)
 ·rw[hl]at hi
  rw[zEN (by omega)];exact hW.low _ (by omega) _ (by omega)
 ·rw[hl]at hi hk
  rw[zEN (by omega),show c+(pv (t+i)-c)=pv (t+i)from by have:=hpc i hi;omega];exact hW.off _ _ (by omega) (by omega) (by omega)
 ·rw[hl]at hj
  have:=hW.mono (t+i) (t+j) (by omega) (by omega);have:=hpc i (by omega);omega
 include hs
theorem zYB{u:List Int}:Sp p (c+N) W u↔Gr p c N A u:=by
 have _:=hW;have _:=ht;have _:=h1;have _:=h2;exact hs.iff.trans (zYA hp hA)
theorem zW3{x:List Int}:Sp p N (nul c t W) x↔ ∀j,j<c→(S N fun k=>at0 x k*ent A k j)%p=0:=by
 have hl:(nul c t W).length=W.length-t:=vA;constructor
 ·rintro⟨cf,hcf⟩ j hj
  rw[hl]at hcf;have e1:(S N fun k=>at0 x k*ent A k j)%p=(S N fun k=>(S (W.length-t) fun i=>cf i*ent (nul c t W) i k)*ent A k j)%p:=kO fun k hk=>by
   rw[Jv,←hcf k hk,←Jv]
  have e2:(S N fun k=>(S (W.length-t) fun i=>cf i*ent (nul c t W) i k)*ent A k j)=S (W.length-t) fun i=>cf i*S N fun k=>ent W (t+i) (c+k)*ent A k j:=by
   rw[xE (g:=fun k=>S (W.length-t) fun i=>cf i*(ent W (t+i) (c+k)*ent A k j)) (fun k hk=>by
    rw[←zLm];exact xE fun i hi=>by rw[zEN (by omega),He]),zH4]
   exact xE fun i hi=>by rw[zCC]
  have e3:(S (W.length-t) fun i=>cf i*S N fun k=>ent W (t+i) (c+k)*ent A k j)%p=(S (W.length-t) fun _=>0)%p:=kO fun i hi=>by
   have h:=(zYB hp hA hW hs ht h1 h2).1 (qH (p:=p) (n:=c+N) (R:=W) (i:=t+i) (by omega)) j hj;have hz:=hW.low (t+i) (by omega) j (by have:=h2 (t+i) (by omega) (by omega);omega);simp only[ent]at hz;rw[hz]at h;rw[Jv,show(S N fun k=>ent W (t+i) (c+k)*ent A k j)%p=0 from h.symm,L9]
  rw[e1,e2,e3,qG];rfl
 ·intro h0
  let u:List Int:=mkv (c+N) fun j=>if j<c then 0 else at0 x (j-c)
  have hu1:∀j,j<c→at0 u j=0:=fun j hj=>by rw[yH (by omega),if_pos hj]
  have hu2:∀k,k<N→at0 u (c+k)=at0 x k:=fun k hk=>by rw[yH (by omega),if_neg (by omega),H9]
  have hg:Gr p c N A u:=fun j hj=>by
   rw[hu1 j hj,xE (g:=fun k=>at0 x k*ent A k j) (fun k hk=>by rw[hu2 k hk]),h0 j hj];rfl
  have hx:=hW.expand ((zYB hp hA hW hs ht h1 h2).2 hg);refine⟨fun i=>at0 u (pv (t+i)),fun j hj=>?_⟩;have h3:=hx (c+j) (by omega);rw[hu2 j hj,zW1 ht (fun i hi=>by rw[hu1 _ (h1 i hi),Ux])]at h3;rw[hl,h3];exact congrArg (·%p) (xE fun i hi=>by rw[zEN (by omega)])
end
end Go.Pl

namespace Go.Pl
open Go Go.Ab Go.Wk Go.Pc
theorem zJM{v:List Int}(hl:v.length≤1000000):IsB (f_U v) (∀i,i<v.length→at0 v i=0):=by
 refine kV v.length (fun i=>at0 v i=0) rfl (fun i hi _=>?_) ?_
 ·refine tP (o:=some (at0 v i==0)) (IsB.of_bool (by simp)) (by omega) ?_
  unfold zPI;rw[xV hi,zQ,xD hi,bs,bs];rfl
 ·unfold zPI
  rw[wC,zL]
end Go.Pl

namespace Go.Pl
open Go Go.Ab Go.Wk Go.Pc
end Go.Pl

namespace Go.Pl
open Go Go.Ab Go.Wk Go.Pc
end Go.Pl

namespace Go.Pl
open Go Go.Ab Go.Wk Go.Pc
structure Nul (p:Int) (c N:Nat) (A W:Mx) (pv:Nat→Nat) (t:Nat):Prop where
 row:∀i,i<N→Row p c (A.getD i [])
 len:A.length=N
 red:Red p (c+N) W pv
 sp:jD p (c+N) W (wd N A)
 le:t≤W.length
 lo:∀i,i<t→pv i<c
 hi:∀i,t≤i→i<W.length→c≤pv i
section
variable {p:Int} (hp:Prime p) {c N:Nat} (hcN:c+N≤100000) {A W:Mx}{pv:Nat→Nat}{t:Nat}
 include hp hcN
theorem Nul.get(hr:∀i,i<N→Row p c (A.getD i []))(hl:A.length=N):∃W pv t,Nul p c N A W pv t∧f_p p (wd N A)=some W∧f_j p (wd N A)=some W:=by
 have h7:=hp.pos;obtain⟨W,pv,r1,r2,r3,r4⟩:=zCH hp (n:=c+N) hcN (rows:=wd N A) (by rw[zCI hr];omega) (fun i hi=>zR4 (by omega) hr (by rwa [zCI hr]at hi));obtain⟨t,t1,t2,t3⟩:=zW2 (by omega) hr r3;exact⟨W,pv,t,⟨hr,hl,r3,r4,t1,t2,t3⟩,r1,r2⟩
variable (h:Nul p c N A W pv t)
 include h
theorem Nul.nred:Red p N (nul c t W) (fun i=>pv (t+i)-c):=by
 have _:=hcN;have h7:=hp.pos;exact zTU (by omega) h.row h.red h.le h.lo h.hi
theorem Nul.nsp{x:List Int}:Sp p N (nul c t W) x↔ ∀j,j<c→(S N fun k=>at0 x k*ent A k j)%p=0:=by
 have _:=hcN;have h7:=hp.pos;exact zW3 (by omega) h.row h.red h.sp h.le h.lo h.hi
theorem Nul.full:W.length=N:=by
 have h7:=hp.pos;have g1:W.length≤(wd N A).length:=zHC hp (n:=c+N) hcN (by rw[zCI h.row];omega) (fun i hi=>zR4 (by omega) h.row (by rwa [zCI h.row]at hi)) h.red h.sp;rw[zCI h.row]at g1;have hl:(gl W.length fun i=>(W.getD i []).drop c).length=W.length:=vA;have hR:∀i,i<W.length→Row p N ((gl W.length fun i=>(W.getD i []).drop c).getD i []):=fun i hi=>by
  have hr:=h.red.row i hi;rw[xY hi];refine⟨by rw[Jx,hr.1];omega,fun j hj=>?_⟩;rw[zBw];exact hr.2 (c+j) (by omega)
 obtain⟨R3,pv3,_,_,g3,g4⟩:=zCH hp (n:=N) (by omega) (rows:=gl W.length fun i=>(W.getD i []).drop c) (by omega) (by rw[hl];exact hR);have g5:=zHC hp (n:=N) (by omega) (by omega) (by rw[hl];exact hR) g3 g4;have hul:(gl N (ur N)).length=N:=vA;have hent:∀i j,i<N→j<N→ent (gl N (ur N)) i j=if j=i then 1 else 0:=fun i j hi hj=>by rw[ent,xY hi,ur,yH hj]
 have hid:Red p N (gl N (ur N)) (fun i=>i):=by
  refine⟨fun i hi=>?_,fun i hi=>by omega,fun i hi=>?_,fun i hi j hj=>?_,fun i k hi hk hne=>?_,fun i j hij hj=>hij⟩
  ·rw[hul]at hi
   rw[xY hi];refine⟨yD _ _,fun j hj=>?_⟩;rw[ur,yH hj];split<;>omega
  ·rw[hul]at hi
   rw[hent i i hi hi,if_pos rfl]
  ·rw[hul]at hi
   rw[hent i j hi (by omega),if_neg (by omega)]
  ·rw[hul]at hi hk
   rw[hent k i hk hi,if_neg (Ne.symm hne)]
 have g6:=hid.le_of (by omega) g3 (fun i hi=>by
  rw[hul]at hi;refine g4.iff.2 ?_;obtain⟨cf,hcf⟩:=h.sp.2 i (by rw[zCI h.row];exact hi);refine⟨cf,fun j hj=>?_⟩;have h1:=hcf (c+j) (by omega);have h2:=zBx h.row hi hj;simp only[ent]at h2;rw[h2]at h1;have h3:=hent i j hi hj;simp only[ent]at h3;rw[h3,hl,←h1];exact congrArg (·%p) (xE fun k hk=>by rw[ent,xY hk,zBw]))
 omega
 omit h in
theorem zMY{N:Nat}(hN:N≤100000):f_I (N:Int)=some (gl N (ur N)):=by
  have _:=hp;have _:=hcN;unfold f_I;rw[zBu (body:=zLR (N:Int)) N (ur N) (fun i acc hi ha=>by
    unfold zLR;simp only
    rw[xV hi,zQ,wJ (by omega),bs,uR,Kz,if_pos hi,bs,Jg,qL,zAo,xK (by simp;omega),bs,zE (by omega) (by omega),bs,cs];rfl) (fun acc=>by
    unfold zLR;simp only
    rw[wC,zL]),bs]
 omit h in
theorem zP0(hr:∀i,i<N→Row p c (A.getD i []))(hl:A.length=N):zUI p A=f_p p (wd N A):=by
  unfold zUI;rw[hl,zMY hp hcN (by omega),bs,zBu (body:=zMe A (gl N (ur N))) N (fun i=>A.getD i []++ur N i) (fun i acc hi ha=>by
    unfold zMe;simp only
    rw[hl,xV hi,zQ,yY [] (by omega),bs,jB (by rw[(hr i hi).1];omega),bs,zGc hi,bs,xK (by rw[(hr i hi).1,ur,yD];omega),bs,xK (by simp;omega),bs,zE (by omega) (by omega),bs,cs]) (fun acc=>by
    unfold zMe;simp only
    rw[hl,wC,zL]),bs]
  show(f_p p (wd N A)).bind _=_;cases f_p p (wd N A)<;>rfl
theorem zP1:zJ (zPO (c:Int) W) ([],0)=some (nul c t W):=by
 have hf:=h.full hp hcN;have hle:=h.le;have:=yB (body:=zPO (c:Int) W) (r:=nul c t W) (fun i=>(gl (i-t) (fun k=>(W.getD (t+k) []).drop c),(i:Int))) W.length (fun i hi=>by
  have hr:=h.red.row i hi;have h1:=h.red.one i hi;have hlt:=h.red.lt i hi;have hlead:=zJI (n:=c+N) hr.1 (by omega) hlt (h.red.low i hi) (by simp only[ent]at h1;omega);unfold zPO;simp only
  rw[xV hi,zQ,yY [] hi,bs,hlead,bs];rcases Jk i t with g|g
  ·have:=h.lo i g
   rw[decide_eq_false (by omega),zL,zE (by omega) (by omega),bs,cs,show i-t=0 from by omega,show i+1-t=0 from by omega]
  ·have:=h.hi i g hi
   have e:yA (W.getD i []) (c:Int) ((W.getD i []).length:Int)=some ((W.getD i []).drop c):=by
    unfold yA;rw[if_pos ⟨by omega,by rw[hr.1];omega,by omega⟩,Jg,Jg,Jr (by rw[Jx];omega)]
   rw[decide_eq_true (by omega),zQ,bs,e,bs,jB (by rw[Jx,hr.1];omega),bs,xK (by rw[vA];simp;omega),bs,zE (by omega) (by omega),bs,cs,show i+1-t=(i-t)+1 from by omega,←zJK,show t+(i-t)=i from by omega]) (by
  unfold zPO;simp only
  rw[wC,zL];rfl)
 rw[show 0-t=0 from by omega]at this;exact this
end
end Go.Pl

namespace Go.Pl
open Go Go.Ab Go.Wk Go.Pc
theorem zOx{β:Type}{n:Nat}{F:Nat→β}:gl (n+1) F=gl n F++[F n]:=zJK.symm
theorem zOy{β:Type}{L:Nat}{F:Nat→List β}:∀{n:Nat},(∀i,i<n→(F i).length=L)→(gl n F).flatten.length=n*L
 |0,_=>by simp[gl]
 |n+1,h=>by
  rw[zOx,Qt,J5,zOy fun i hi=>h i (by omega),K5];simp[h n (by omega)]
theorem zR5{β:Type}{body:List β×Int→Option ((List β×Int)⊕List β)}(n L:Nat)(F:Nat→List β)(a0:List β)(hF:∀i,i<n→(F i).length=L)
  (h:∀i acc,i<n→acc.length=a0.length+i*L→body (acc,(i:Int))=some (.inl (acc++F i,((i+1:Nat):Int))))(he:∀acc,body (acc,(n:Int))=some (.inr acc)):
  zJ body (a0,0)=some (a0++(gl n F).flatten):=by
 have:=yB (body:=body) (r:=a0++(gl n F).flatten) (fun i=>(a0++(gl i F).flatten,(i:Int))) n (fun i hi=>by
  rw[h i _ hi (by rw[J5,zOy fun j hj=>hF j (by omega)]),zOx,Qt,Ja];simp) (he _)
 simpa[gl]using this
end Go.Pl

namespace Go.Pl
open Go Go.Ab Go.Wk Go.Pc
end Go.Pl

namespace Go.Pl
open Go Go.Ab Go.Wk Go.Pc
theorem zHF{α:Type}{f:α→α}{a:α}(h:f a=a):∀k,iter k f a=a
 |0=>rfl
 |k+1=>by show iter k f (f a)=a;rw[h];exact zHF h k
theorem zR6{p:Int}{D:Nat}{A:List Mx}:∀(v:Vec)(o:Nat)(B:Mx),o+v.length≤A.length→wM p D A (nw o v) B=img (PM p D) (A.drop o) v B
 | [],o,B,_=>by simp[nw,wM,img]
 |a::v,o,B,h=>by
  simp only[J7]at h;have e:A.drop o=A.getD o []::A.drop (o+1):=by
   rw[H7 (by omega),J2,J3 (by omega)];rfl
  rw[e];simp only[nw,img];rw[zDg,zH9,zR6 v (o+1) _ (by omega)]
theorem zCJ:∀(k o:Nat),nw o (zeros k)=[]
 |0,_=>rfl
 |k+1,o=>by
  rw[show zeros (k+1)=0::zeros k from rfl];simp only[nw];rw[zCJ k];rfl
section
variable {x:SPr}{m:zH}{D:Nat} (h:Pres x) (hm:zRw x.zA.length m D) (hr:zDZ x m D)
 include hm
 include h hr
theorem zOz:∀(d k:Nat),k+d=x.zA.length→Rel (PM m.Prime D) (idM D) (suf x k) (m.zF.drop k)
 |0,k,hk=>by
  rw[vR (by omega),Jbb (by rw[hm.len];omega)];exact rfl
 |d+1,k,hkd=>by
  have h6:=h.os.1;have hk:k<x.zA.length:=by omega
  have hlen:=hm.len;have e:m.zF.drop k=m.zF.getD k []::m.zF.drop (k+1):=by
   rw[H7 (by omega),J2,J3 (by omega)];rfl
  obtain⟨t1,t2,t3⟩:=h.tl k hk;obtain⟨r1,r2⟩:=hr k hk;have hword:∀v,Exp x.zA v k→wM m.Prime D m.zF (nw 0 v) (idM D)=img (PM m.Prime D) (m.zF.drop (k+1)) (v.drop (k+1)) (idM D):=fun v hv=>by
   have hl:=hv.1.1
   conv=>lhs;rw[zAs hv hk]
   rw[zDf,zCJ,Jj,zZ,zR6 _ _ _ (by rw[Jx];omega),Je]
  rw[yF hk,e];refine⟨?_,fun q c dd hc hd=>?_,zOz d (k+1) (by omega)⟩
  ·show pw (PM m.Prime D) (idM D) (m.zF.getD k []) (lvl x k).o.toNat=img (PM m.Prime D) (m.zF.drop (k+1)) ((x.zS.getD k []).drop (k+1)) (idM D)
   rw[←hword _ t1,←r1,zH9];rfl
  ·rw[Kq]at hc
   have hq:k+1+q<m.zF.length:=by
    rcases Jk (k+1+q) m.zF.length with g|g
    ·exact g
    ·rw[Jz g]at hc;simp at hc
   have hcm:c=m.zF.getD (k+1+q) []:=by rw[J2,hc];rfl
   have hdm:dd=((x.zC.getD k []).getD q []).drop (k+1):=by
    simp only[lvl,K1]at hd;rw[J2];cases hg:(x.zC.getD k [])[q]? with
    |none=>rw[hg]at hd;simp at hd
    |some u=>rw[hg]at hd;simp only[Hx,L4.injEq]at hd;exact hd.symm
   have:=r2 (k+1+q) (by omega) (by omega);rw[show k+1+q-(k+1)=q from by omega]at this;rw[hcm,hdm,this,hword _ (t3 q (by omega))]
end
end Go.Pl

namespace Go.Pl
open Go Go.Ab Go.Wk Go.Pc
theorem zEO{p:Int}{c N:Nat}(hcN:c+N≤100000){A:Mx}(hr:∀i,i<N→Row p c (A.getD i []))(hl:A.length=N):zUD A=some (wd N A):=by
 unfold zUD;rw[zBu (body:=zLZ A) N (fun i=>A.getD i []++ur N i) (fun i acc hi ha=>by
  have h1:=(hr i hi).1;have e:xQ (J1 (c+N) (0:Int)) 0 ((A.getD i []).take (((J1 (c+N) (0:Int)).length)-0))=A.getD i []++J1 N 0:=by
   unfold xQ;rw[Ji,Jr (l:=A.getD i []) (by omega),K8,Jj,h1,H3]
   congr 2;omega
  have e2:ixO (A.getD i []++J1 N (0:Int)) ((c+i:Nat):Int)=some 0:=by
   rw[uR,J8 (by omega),h1,Kz,if_pos (by omega)]
  unfold zLZ;simp only
  rw[hl,xV hi,zQ,yY [] (by omega),bs,h1,←Jam,zE (by omega) (by omega),bs,wJ (by omega),bs,←Jam,zE (by omega) (by omega),bs,e,e2,bs,Jg,Hg _ _ (by omega),h1,H9,qL,zAo,xK (by simp;omega),bs,zE (by omega) (by omega),bs,cs];rfl) (fun acc=>by
  unfold zLZ;simp only
  rw[hl,wC,zL]),bs]
 rfl
end Go.Pl

namespace Go.Pl
open Go Go.Ab Go.Wk Go.Pc
theorem zL5{p:Int}(hp:Prime p){n:Nat}(hn:n≤100000){R:Mx}{pv:Nat→Nat}(h:Red p n R pv):f_p p R=some R∧f_j p R=some R:=by
 have h7:=hp.pos;have hl:R.length≤n:=h.len_le;obtain⟨R2,pv2,r1,r2,r3,r4⟩:=zCH hp hn (rows:=R) (by omega) h.row;have e:=r3.unique (by omega) h r4;rw[e]at r1 r2;exact⟨r1,r2⟩
section
variable {p:Int} (hp:Prime p) {c N:Nat} (hcN:c+N≤100000) {A W:Mx}{pv:Nat→Nat}{t:Nat}
 include hp hcN
theorem zL6(h:Nul p c N A W pv t):zJ (zPU (c:Int) W) ([],0)=some (nul c t W):=by
 have h7:=hp.pos;have hf:=h.full hp hcN;have hle:=h.le;have:=yB (body:=zPU (c:Int) W) (r:=nul c t W) (fun i=>(gl (i-t) (fun k=>(W.getD (t+k) []).drop c),(i:Int))) W.length (fun i hi=>by
  have hr:=h.red.row i hi;have h1:=h.red.one i hi;have e0:yA (W.getD i []) 0 (c:Int)=some ((W.getD i []).take c):=by
   unfold yA;rw[if_pos ⟨by omega,by omega,by rw[hr.1];omega⟩,Jg,show(0:Int).toNat=0 from rfl,G7,U7]
  have htl:((W.getD i []).take c).length=c:=by rw[Jy,hr.1];omega
  have hz:=zJM (v:=(W.getD i []).take c) (by omega);unfold zPU;simp only
  rw[xV hi,zQ,yY [] hi,bs,e0,bs];rcases Jk i t with g|g
  ·have hlo:=h.lo i g
   rcases hz with⟨_,z⟩|⟨z,_⟩
   ·have:=z (pv i) (by omega)
    rw[zHE hlo]at this;simp only[ent]at h1;omega
   ·rw[z,bs,zL,zE (by omega) (by omega),bs,cs,show i-t=0 from by omega,show i+1-t=0 from by omega]
  ·have hhi:=h.hi i g hi
   have e:yA (W.getD i []) (c:Int) ((W.getD i []).length:Int)=some ((W.getD i []).drop c):=by
    unfold yA;rw[if_pos ⟨by omega,by rw[hr.1];omega,by omega⟩,Jg,Jg,Jr (by rw[Jx];omega)]
   rcases hz with⟨z,_⟩|⟨_,z⟩
   ·rw[z,bs,zQ,e,bs,xK (by rw[vA];simp;omega),bs,zE (by omega) (by omega),bs,cs,show i+1-t=(i-t)+1 from by omega,←zJK,show t+(i-t)=i from by omega]
   ·refine absurd (fun j hj=>?_) z
    rw[htl]at hj;rw[zHE hj];have:=h.red.low i hi j (by omega);simpa only[ent]using this) (by
  unfold zPU;simp only
  rw[wC,zL];rfl)
 rw[show 0-t=0 from by omega]at this;exact this
theorem zF7(hr:∀i,i<N→Row p c (A.getD i []))(hl:A.length=N):∃K pk,f_W p A (c:Int)=some K∧f_F p A (c:Int)=some K∧Red p N K pk∧ ∀x,Sp p N K x↔ ∀j,j<c→(S N fun k=>at0 x k*ent A k j)%p=0:=by
 obtain⟨W,pv,t,h1,h2,h3⟩:=Nul.get hp hcN hr hl;refine⟨nul c t W,_,?_,?_,h1.nred hp hcN,fun x=>h1.nsp hp hcN⟩
 ·unfold f_W
  rw[zP0 hp hcN hr hl,h2,bs,zP1 hp hcN h1,bs]
 ·unfold f_F
  rw[zEO hcN hr hl,bs,h3,bs,zL6 hp hcN h1,bs,(zL5 hp (by omega) (h1.nred hp hcN)).2,bs]
end
end Go.Pl

namespace Go.Pl
open Go Go.Ab Go.Wk Go.Pc
theorem zR7{v:List Int}{D a:Nat}(h:a+D≤v.length):(v.drop a).take D=mkv D fun j=>at0 v (a+j):=by
 have hl:((v.drop a).take D).length=D:=by rw[Jy,Jx];omega
 rw[uE hl];exact zY fun j hj=>by rw[zHE hj,zBw]
theorem zP2{v:List Int}{D a:Nat}(h:a+D≤v.length):yA v (a:Int) ((a+D:Nat):Int)=some (mkv D fun j=>at0 v (a+j)):=by
 unfold yA;rw[if_pos ⟨by omega,by omega,by omega⟩,Jg,Jg,H9,zR7 h]
end Go.Pl

namespace Go.Pl
open Go Go.Ab Go.Wk Go.Pc
end Go.Pl

namespace Go.Pl
open Go Go.Ab Go.Wk Go.Pc
end Go.Pl

namespace Go.Pl
open Go Go.Ab Go.Wk Go.Pc
end Go.Pl

namespace Go.Pl
open Go Go.Ab Go.Wk Go.Pc
end Go.Pl

namespace Go.Pl
open Go Go.Ab Go.Wk Go.Pc
theorem zHG{N c:Nat}{f:Nat→Int}:(mkv N f).drop c=mkv (N-c) fun i=>f (c+i):=by
 have hl:((mkv N f).drop c).length=N-c:=by rw[Jx,yD]
 rw[uE hl];exact zY fun j hj=>by rw[zBw,yH (by omega)]
theorem kR{n j:Nat}:xJ n j=mkv n fun i=>if i=j then 1 else 0:=by
 rw[xJ,show zeros n=J1 n (0:Int)from rfl,qL,zAo]
theorem tW{n i:Nat}:at0 (zeros n) i=0:=by
 rcases Jk i n with g|g
 ·simp[zeros,at0,J2,g]
 ·simp[zeros,at0,J2,g]
structure ExB (n D:Nat) (x:SPr) (m:zH) (T:Mx):Prop where
 hn:n≤6
 o:x.zA.length=n
 p:x.zS.length=n
 c:x.zC.length=n
 cl:∀i,i<n→(x.zC.getD i []).length=n-1-i
 t:T.length=base n n
 m:zRw n m D
section
variable {D:Nat}{x:SPr}{m:zH}{T:Mx} (h:Pres x) (hE:ExB x.zA.length D x m T) (hT:∀i,i<T.length→Row m.Prime D (T.getD i []))
 include h hE hT
abbrev exx(D:Nat)(x:SPr)(m:zH)(T:Mx):SPr:=ext x.zA.length D x m T
theorem wH:(exx D x m T).zA.length=x.zA.length+D:=by
 have _:=h;have _:=hE;have _:=hT;simp[exx,ext]
theorem tA{i:Nat}(hi:i<x.zA.length):at0 (exx D x m T).zA i=at0 x.zA i:=by
 have _:=h;have _:=hE;have _:=hT;show at0 (x.zA++J1 D m.Prime) i=_;rw[zDj,if_pos hi]
theorem zBM{i:Nat}(hi:x.zA.length≤i)(h2:i<x.zA.length+D):at0 (exx D x m T).zA i=m.Prime:=by
 have _:=h;have _:=hE;have _:=hT;show at0 (x.zA++J1 D m.Prime) i=_;rw[zDj,if_neg (by omega)];simp[at0,J2,show i-x.zA.length<D by omega]
theorem zMZ{v t:List Int}{i:Nat}(hv:v.length=x.zA.length)(hr:∀j,j<x.zA.length→0≤at0 v j∧at0 v j≤at0 x.zA j-1)(hz:∀j,j≤i→j<x.zA.length→at0 v j=0)(ht:Row m.Prime D t)(hi:i<x.zA.length):Exp (exx D x m T).zA (v++t) i:=by
 have hl:=wH h hE hT;refine⟨⟨by rw[J5,hv,ht.1,hl],fun j hj=>?_⟩,fun j hj=>?_⟩
 ·rw[J5,hv,ht.1]at hj
  rw[zDj,hv];split
  ·next g=>rw[tA h hE hT g];exact hr j g
  ·next g=>rw[zBM h hE hT (by omega) hj];exact ht.2 _ (by omega)
 ·rw[zDj,if_pos (by omega)];exact hz j hj (by omega)
theorem zL7(i:Nat)(hi:i<base x.zA.length x.zA.length):Row m.Prime D (T.getD i []):=by
 have _:=h;exact hT i (by rw[hE.t];exact hi)
theorem zGw:zFX (exx D x m T):=by
 have hn:=hE.hn;have h3:=hE.m.d3;have h7:=hE.m.p.pos;have hl:=wH h hE hT;have hb:=uG x.zA.length (by omega);refine⟨⟨trivial,fun i hi=>?_⟩,by rw[hl];exact vA,by rw[hl];exact vA,fun i hi=>?_⟩
 ·rw[hl]at hi
  rcases Jk i x.zA.length with g|g
  ·rw[tA h hE hT g];exact h.os.2 i g
  ·rw[zBM h hE hT g hi];exact hE.m.p
 ·rw[hl]at hi
  have hP:(exx D x m T).zS.getD i []=exP x.zA.length D x T i:=xY hi;have hC:(exx D x m T).zC.getD i []=exC x.zA.length D x m T i:=by
   show(gl (x.zA.length+D) (exC x.zA.length D x m T)).getD i []=_;simp[gl,J2,hi]
  refine⟨?_,?_,?_⟩
  ·rw[hP,exP]
   rcases Jk i x.zA.length with g|g
   ·rw[if_pos g]
    obtain⟨t1,_,_⟩:=h.tl i g;exact zMZ h hE hT t1.1.1 (fun j hj=>t1.1.2 j (by rw[t1.1.1];exact hj)) (fun j hj _=>t1.2 j hj) (zL7 h hE hT i (by omega)) g
   ·rw[if_neg (by omega)]
    have hz:∀j,at0 (J1 (x.zA.length+D) (0:Int)) j=0:=fun j=>tW
    refine⟨⟨by rw[hl,Ji],fun j hj=>?_⟩,fun j _=>hz j⟩;rw[Ji]at hj;rw[hz];rcases Jk j x.zA.length with g2|g2
    ·rw[tA h hE hT g2];have:=(h.os.2 j g2).pos;omega
    ·rw[zBM h hE hT g2 hj];omega
  ·rw[hC,exC,hl]
   split
   ·rw[vA];omega
   ·rw[unC,vA];omega
  ·rw[hC,exC]
   split
   ·next g=>
    intro j hj;rw[vA]at hj;rw[xY hj,exF];split
    ·next g2=>
     have hcl:=hE.cl i g;have hbl:=zBL x.zA.length (by omega) i g;obtain⟨_,_,t3⟩:=h.tl i g;have t:=t3 j (by omega);exact zMZ h hE hT t.1.1 (fun q hq=>t.1.2 q (by rw[t.1.1];exact hq)) (fun q hq _=>t.2 q hq) (zL7 h hE hT _ (by omega)) g
    ·next g2=>
     have hz:∀j,at0 (J1 x.zA.length (0:Int)) j=0:=fun j=>tW
     refine zMZ h hE hT (by simp) (fun q hq=>?_) (fun q _ _=>hz q) ((hE.m.mat i g).2 _ (by omega)) g;rw[hz];have:=(h.os.2 q hq).pos;omega
   ·next g=>
    intro j hj;rw[unC,vA]at hj;rw[unC,xY hj];refine⟨⟨by rw[hl];exact yD _ _,fun q hq=>?_⟩,fun q hq=>?_⟩
    ·rw[zGb,yD]at hq
     rw[zGb,yH hq];rcases Jk q x.zA.length with g2|g2
     ·rw[tA h hE hT g2];have:=(h.os.2 q g2).pos;split<;>omega
     ·rw[zBM h hE hT g2 hq];split<;>omega
    ·rw[zGb,yH (by omega),if_neg (by omega)]
theorem zBy{k:Nat}(hk:k<x.zA.length):(lvl (exx D x m T) k).o=at0 x.zA k:=tA h hE hT hk
theorem zHH{k:Nat}(hk:k<x.zA.length):(lvl (exx D x m T) k).w=(lvl x k).w++T.getD k []:=by
 have t1:=(h.tl k hk).1.1.1;have _:=hE;have _:=hT;show((exx D x m T).zS.getD k []).drop (k+1)=_;have hP:(exx D x m T).zS.getD k []=exP x.zA.length D x T k:=xY (by omega);rw[hP,exP,if_pos hk,Kt (by omega)];rfl
def eC1(x:SPr)(T:Mx)(k:Nat):List Vec:=gl (x.zA.length-1-k) fun j=>(lvl x k).cs.getD j []++T.getD (base x.zA.length k+j) []
def eC2(x:SPr)(m:zH)(D k:Nat):List Vec:=((gl D fun j=>(m.zF.getD k []).getD j []).map fun r=>zeros (x.zA.length-1-k)++r)
theorem zBN{k:Nat}(hk:k<x.zA.length):(lvl (exx D x m T) k).cs=eC1 x T k++eC2 x m D k:=by
 have hcl:=hE.cl k hk;have _:=hT;show((exx D x m T).zC.getD k []).map (·.drop (k+1))=_;have hC:(exx D x m T).zC.getD k []=exC x.zA.length D x m T k:=by
  show(gl (x.zA.length+D) (exC x.zA.length D x m T)).getD k []=_;simp[gl,J2,show k<x.zA.length+D by omega]
 rw[hC,exC,if_pos hk];apply L7;intro j
 by_cases hj:j<x.zA.length+D-1-k
 ·have e1:((gl (x.zA.length+D-1-k) (exF x.zA.length x m T k)).map (·.drop (k+1)))[j]? =some ((exF x.zA.length x m T k j).drop (k+1)):=by simp[gl,hj]
  rw[e1,exF]
  by_cases g:j<x.zA.length-1-k
  ·rw[if_pos g,Jl (by rw[eC1,vA];exact g)]
   have t:=(h.tl k hk).2.2 j (by omega);rw[Kt (by have:=t.1.1;omega)];have e2:(eC1 x T k)[j]? =some ((lvl x k).cs.getD j []++T.getD (base x.zA.length k+j) []):=by simp[eC1,gl,g]
   rw[e2]
   congr 2
   simp only[lvl,J2,K1];rw[J3 (l:=x.zC[k]?.getD []) (by rw[J2]at hcl;omega)];rfl
  ·rw[if_neg g,J8 (by rw[eC1,vA];omega),eC1,vA]
   have e2:(eC2 x m D k)[j-(x.zA.length-1-k)]? =some (zeros (x.zA.length-1-k)++(m.zF.getD k []).getD (j-(x.zA.length-1-k)) []):=by
    simp[eC2,gl,show j-(x.zA.length-1-k)<D by omega]
   rw[e2,Kt (by simp;omega),H3,show x.zA.length-(k+1)=x.zA.length-1-k from by omega];rfl
 ·rw[Jz (by simp[gl];omega),Jz (by simp[eC1,eC2,gl];omega)]
end
def tlv(p:Int):Nat→Pcp
 |0=>[]
 |d+1=>⟨p,zeros d,wL d⟩::tlv p d
theorem zGx{p:Int}:∀d,(tlv p d).length=d
 |0=>rfl
 |d+1=>by simp[tlv,zGx d]
theorem zD9{p:Int}:∀(d:Nat)(v:Vec),V (tlv p d) v↔Row p d v
 |0,v=>by
  constructor
  ·intro h
   obtain rfl:v=[]:=h;exact⟨rfl,fun i hi=>by omega⟩
  ·intro h
   have:=Kb h.1;subst this;exact rfl
 |d+1,v=>by
  cases v with
  |nil=>exact⟨fun h=>h.elim,fun h=>by have:=h.1;simp at this⟩
  |cons a v=>
   show((0≤a∧a<p)∧V (tlv p d) v)↔_;rw[zD9 d v];constructor
   ·rintro⟨⟨h0,h1⟩,h2⟩
    refine⟨by simp[h2.1],fun i hi=>?_⟩;cases i with
    |zero=>simp only[at0,Lu];omega
    |succ i=>have:=h2.2 i (by omega);simpa[at0]using this
   ·intro h
    have h0:=h.2 0 (by omega);simp only[at0,Lu]at h0;refine⟨⟨h0.1,by omega⟩,by have:=h.1;simpa using this,fun i hi=>?_⟩;have:=h.2 (i+1) (by omega);simpa[at0]using this
abbrev adv(p:Int)(D:Nat)(u v:List Int):List Int:=mkv D fun j=>(at0 u j+at0 v j)%p
theorem qA{p:Int}{D:Nat}{u v:List Int}(hp:0<p):Row p D (adv p D u v):=by
 refine⟨yD _ _,fun j hj=>?_⟩;rw[yH hj];have e1:=La (at0 u j+at0 v j) (show p≠0 by omega);have e2:=Kw (at0 u j+at0 v j) hp;omega
theorem zHI{p:Int}{D:Nat}{c:List Int}(hp:0<p):∀(k:Nat)(acc:List Int),Row p D acc→iter k (fun w=>adv p D w c) acc=mkv D fun j=>(at0 acc j+(k:Int)*at0 c j)%p
 |0,acc,ha=>by
  show acc=_
  conv=>lhs;rw[uE ha.1]
  refine zY fun j hj=>?_
  have:=ha.2 j hj;rw[Int.natCast_zero,Ux,H8,Kh this.1 (by omega)]
 |k+1,acc,ha=>by
  show iter k (fun w=>adv p D w c) (adv p D acc c)=_;rw[zHI hp k _ (qA hp)];refine zY fun j hj=>?_
  rw[yH hj,Ko,Kc,←Ko,←cs,Qj]
  congr 1;omega
theorem zW4{f:Nat→Int}{n:Nat}:S (n+1) f=f 0+S n fun i=>f (i+1):=by
 rw[Jcw,zGv 1 n];simp only[S];rw[Lp]
 congr 1
 exact xE fun i _=>by rw[Jcw]
theorem zGy{p:Int}{D:Nat}(hp:0<p):∀(cs:List Vec)(v acc:Vec),v.length=cs.length→(∀i,i<v.length→0≤at0 v i)→Row p D acc→img (adv p D) cs v acc=mkv D fun j=>(at0 acc j+S cs.length fun k=>at0 v k*ent cs k j)%p
 | [],v,acc,hl,_,ha=>by
  show acc=_
  conv=>lhs;rw[uE ha.1]
  refine zY fun j hj=>?_
  have:=ha.2 j hj;simp only[K0,S];rw[H8,Kh this.1 (by omega)]
 |c::cs,[],acc,hl,_,_=>by simp at hl
 |c::cs,a::v,acc,hl,hv,ha=>by
  have h0:=hv 0 (by simp);simp only[at0,Lu]at h0;have hrow:Row p D (iter a.toNat (fun w=>adv p D w c) acc):=vL (S:=Row p D) (fun _ _=>qA hp) _ ha;show img (adv p D) cs v (iter a.toNat (fun w=>adv p D w c) acc)=_;rw[zGy hp cs v _ (by simpa using hl) (fun i hi=>by have:=hv (i+1) (by simpa using hi);simpa[at0]using this) hrow,zHI hp _ _ ha];refine zY fun j hj=>?_
  rw[yH hj,J7,zW4,Ko,Kc,←Ko,Qm h0,Qo];rfl
theorem zDk{α:Type}{S:α→Prop}{m m':α→α→α}(hm:∀a b,S a→S b→m a b=m' a b)(hc:∀a b,S a→S b→S (m' a b)):∀(cs:List α)(v:Vec)(acc:α),(∀c∈cs,S c)→S acc→img m cs v acc=img m' cs v acc
 | [],_,_,_,_=>by simp[img]
 |c::cs,[],_,_,_=>by simp[img]
 |c::cs,a::v,acc,h1,h2=>by
  have hcS:=h1 c (by simp);have e:∀k acc,S acc→iter k (fun w=>m w c) acc=iter k (fun w=>m' w c) acc∧S (iter k (fun w=>m' w c) acc):=by
   intro k
   induction k with
   |zero=>intro acc ha;exact⟨rfl,ha⟩
   |succ k ih=>
    intro acc ha;show iter k (fun w=>m w c) (m acc c)=iter k (fun w=>m' w c) (m' acc c)∧_;rw[hm acc c ha hcS];exact ih _ (hc _ _ ha hcS)
  show img m cs v (iter a.toNat (fun w=>m w c) acc)=img m' cs v (iter a.toNat (fun w=>m' w c) acc);rw[(e _ _ h2).1];exact zDk hm hc cs v _ (fun c hc=>h1 c (by simp[hc])) (e _ _ h2).2
theorem zDl{d k j:Nat}(hk:k<d)(hj:j<d):ent (wL d) k j=if j=k then 1 else 0:=by
 have e:(wL d).getD k []=xJ d k:=by simp[wL,J2,hk]
 rw[ent,e,kR,yH hj]
theorem xL{p:Int}{D:Nat}(hp:0<p):Row p D (zeros D):=zRx hp
theorem qO{p:Int}(hp:2≤p):∀(d:Nat)(u v:Vec),Row p d u→Row p d v→mul (tlv p d) u v=adv p d u v
 |0,u,v,hu,_=>by
  have:=Kb hu.1;subst this;rfl
 |d+1,u,v,hu,hv=>by
  have ih:=qO hp d;have hu':=(zD9 (d+1) u).2 hu;have hv':=(zD9 (d+1) v).2 hv;cases u with
  |nil=>exact hu'.elim
  |cons a u=>
   cases v with
   |nil=>exact hv'.elim
   |cons b v=>
    obtain⟨⟨a0,a1⟩,hu2⟩:=hu';obtain⟨⟨b0,b1⟩,hv2⟩:=hv';have hu3:=(zD9 d u).1 hu2;have hv3:=(zD9 d v).1 hv2;change a<p at a1;change b<p at b1;have hsig:∀w,Row p d w→sig (tlv p d) ⟨p,zeros d,wL d⟩ w=w:=fun w hw=>by
     have hur:∀c∈wL d,Row p d c:=fun c hc=>by
      obtain⟨k,hk,rfl⟩:=Jo.1 hc;rw[kR];exact⟨yD _ _,fun j hj=>by rw[yH hj];split<;>omega⟩
     unfold sig;rw[zGx,zDk (S:=Row p d) (m':=adv p d) (fun a b ha hb=>ih a b ha hb) (fun _ _ _ _=>qA (by omega)) (wL d) w _ hur (xL (by omega)),zGy (by omega) (wL d) w _ (by rw[hw.1];simp[wL]) (fun i hi=>(hw.2 i (by rw[←hw.1];exact hi)).1) (xL (by omega))]
     conv=>rhs;rw[uE hw.1]
     refine zY fun j hj=>?_
     have hul:(wL d).length=d:=by simp[wL]
     have:=hw.2 j hj;rw[hul,tW,Lp,zAd (k:=j) hj (fun k hk hne=>by rw[zDl hk hj,if_neg (Ne.symm hne),L9]),zDl hj hj,if_pos rfl,Hl,Kh this.1 (by omega)]
    have hit:∀k,iter k (sig (tlv p d) ⟨p,zeros d,wL d⟩) u=u:=fun k=>zHF (hsig u hu3) k
    show mul (⟨p,zeros d,wL d⟩::tlv p d) (a::u) (b::v)=_;rw[yV,hit,ih u v hu3 hv3];have hz:adv p d (zeros d) (adv p d u v)=adv p d u v:=by
     refine zY fun j hj=>?_
     rw[yH hj,tW,Lp,Kc]
    rw[ih _ _ (xL (by omega)) (qA (by omega)),hz];have hcons:adv p (d+1) (a::u) (b::v)=(a+b)%p::adv p d u v:=by
     simp only[adv,mkv,Jb6,Jt,List.map_map]
     congr 1
    rw[hcons];split
    ·next g=>
     have g:a+b≥p:=g;have e:(a+b)%p=a+b-p:=by
      rw[show a+b=(a+b-p)+p from by omega,Um,Kh (by omega) (by omega)];omega
     exact congrArg (·::_) e.symm
    ·next g=>
     have g:¬a+b≥p:=g
     congr 1
     exact(Kh (by omega) (by omega)).symm
end Go.Pl

namespace Go.Pl
open Go Go.Ab Go.Wk Go.Pc
theorem zO0{α:Type}{m:α→α→α}:∀(c1:List α)(y:Vec)(c2:List α)(u:Vec)(acc:α),c1.length=y.length→img m (c1++c2) (y++u) acc=img m c2 u (img m c1 y acc)
 | [],[],_,_,_,_=>by cases ‹List α›<;>rfl
 | [],_::_,_,_,_,h=>by simp at h
 |_::_,[],_,_,_,h=>by simp at h
 |c::c1,a::y,c2,u,acc,h=>zO0 c1 y c2 u _ (by simpa using h)
theorem zEP{α β:Type}{S:α→Prop}{m:α→α→α}{n:β→β→β}(φ:α→β)(hS:∀a b,S a→S b→S (m a b))(hm:∀a b,S a→S b→φ (m a b)=n (φ a) (φ b)):∀(cs:List α)(v:Vec)(a:α),(∀c∈cs,S c)→S a→φ (img m cs v a)=img n (cs.map φ) v (φ a)
 | [],v,a,_,_=>by cases v<;>rfl
 |_::_,[],_,_,_=>rfl
 |c::cs,t::v,a,hc,ha=>by
  have hcS:=hc c (by simp);have e:∀k a,S a→φ (iter k (fun w=>m w c) a)=iter k (fun w=>n w (φ c)) (φ a)∧S (iter k (fun w=>m w c) a):=by
   intro k
   induction k with
   |zero=>intro a ha;exact⟨rfl,ha⟩
   |succ k ih=>
    intro a ha;have:=ih (m a c) (hS _ _ ha hcS);rw[hm a c ha hcS]at this;exact this
  show φ (img m cs v (iter t.toNat (fun w=>m w c) a))=img n (cs.map φ) v (iter t.toNat (fun w=>n w (φ c)) (φ a));rw[←(e _ a ha).1];exact zEP φ hS hm cs v _ (fun c h=>hc c (by simp[h])) (e _ a ha).2
theorem jE{p:Int}{D:Nat}{r:List Int}(hr:Row p D r):wD p D r (idM D)=r:=by
 conv=>rhs;rw[uE hr.1]
 refine zY fun j hj=>?_
 have:=hr.2 j hj;have e:∀l,l<D→ent (idM D) l j=if j=l then 1 else 0:=fun l hl=>by rw[ent,zDe hl,yH hj]
 rw[zAd (k:=j) hj (fun k hk hne=>by rw[e k hk,if_neg (Ne.symm hne),L9]),e j hj,if_pos rfl,Hl,sY this]
theorem zEQ{p:Int}{D:Nat}{r:List Int}{A B:Mx}(hA:A.length=D):wD p D (wD p D r A) B=wD p D r (PM p D A B):=by
 refine zY fun j hj=>?_
 have e1:S D (fun l=>at0 (wD p D r A) l*ent B l j)%p=S D (fun l=>S D (fun i=>at0 r i*ent A i l)*ent B l j)%p:=kO fun l hl=>by
  rw[wD,yH hl,Jv,Kc,←Jv]
 have e2:S D (fun l=>at0 r l*ent (PM p D A B) l j)%p=S D (fun i=>at0 r i*S D (fun l=>ent A i l*ent B l j))%p:=kO fun l hl=>by
  rw[zMJ hA hl hj,Jv,Kc,←Jv]
 rw[e1,e2]
 congr 1
 have e3:S D (fun l=>S D (fun i=>at0 r i*ent A i l)*ent B l j)=S D (fun l=>S D (fun i=>at0 r i*ent A i l*ent B l j)):=xE fun l _=>(zLm _ _).symm
 rw[e3,zH4];refine xE fun i _=>?_
 rw[←zCC];exact xE fun l _=>by rw[He]
theorem vT{p:Int}{D:Nat}{v:List Int}(hv:Row p D v):adv p D (zeros D) v=v:=by
 conv=>rhs;rw[uE hv.1]
 refine zY fun j hj=>?_
 rw[tW,Lp,sY (hv.2 j hj)]
theorem zA5{p:Int}{D:Nat}{v:List Int}(hv:Row p D v):adv p D v (zeros D)=v:=by
 conv=>rhs;rw[uE hv.1]
 refine zY fun j hj=>?_
 rw[tW,H8,sY (hv.2 j hj)]
theorem zR8{p:Int}{D:Nat}{acc v:List Int}{A:Mx}(hl:A.length=D):(mkv D fun j=>(at0 acc j+S A.length fun k=>at0 v k*ent A k j)%p)=adv p D acc (wD p D v A):=by
 refine zY fun j hj=>?_
 rw[wD,yH hj,hl,Jby]
theorem tF{p:Int}{D:Nat}{u v:List Int}:adv p D u v=adv p D v u:=zY fun j _=>by rw[Int.add_comm]
theorem zTV{p:Int}{D:Nat}{u v w:List Int}(hv:Row p D v)(hw:Row p D w):adv p D u v=adv p D u w↔v=w:=by
 constructor
 ·intro h
  rw[uE hv.1,uE hw.1];refine zY fun j hj=>?_
  have e:at0 (adv p D u v) j=at0 (adv p D u w) j:=by rw[h]
  rw[adv,adv,yH hj,yH hj]at e;have h1:=hv.2 j hj;have h2:=hw.2 j hj;have h3:=Int.emod_emod_of_dvd (at0 u j+at0 v j) (Int.dvd_refl p);have e4:(at0 u j+at0 v j-at0 u j)%p=(at0 u j+at0 w j-at0 u j)%p:=by
   rw[Int.sub_emod,e,←Int.sub_emod]
  rw[show at0 u j+at0 v j-at0 u j=at0 v j from by omega,show at0 u j+at0 w j-at0 u j=at0 w j from by omega,sY h1,sY h2]at e4;exact e4
 ·intro h;rw[h]
section
variable {D:Nat}{x:SPr}{m:zH}{T:Mx} (h:Pres x) (hE:ExB x.zA.length D x m T) (hT:∀i,i<T.length→Row m.Prime D (T.getD i []))
 include h hE hT
theorem zAp:∀(d k:Nat),x.zA.length≤k→k+d=x.zA.length+D→suf (exx D x m T) k=tlv m.Prime d
 |0,k,hk,hd=>by rw[vR (by rw[wH h hE hT];omega)];rfl
 |d+1,k,hk,hd=>by
  have hl:=wH h hE hT;rw[yF (by omega),zAp d (k+1) (by omega) (by omega),tlv]
  congr 1
  have hP:(exx D x m T).zS.getD k []=exP x.zA.length D x T k:=xY (by omega);have hC:(exx D x m T).zC.getD k []=exC x.zA.length D x m T k:=by
   show(gl (x.zA.length+D) (exC x.zA.length D x m T)).getD k []=_;simp[gl,J2,show k<x.zA.length+D by omega]
  unfold lvl;rw[hP,hC,exP,exC,if_neg (by omega),if_neg (by omega),zBM h hE hT hk (by omega),H3,show x.zA.length+D-(k+1)=d from by omega]
  congr 1
  rw[unC,wL,gl,List.map_map,show x.zA.length+D-1-k=d from by omega];refine Qq fun j hj=>?_
  have hj:=Kk.1 hj;show(zGb (x.zA.length+D) (k+1+j)).drop (k+1)=xJ d j;rw[zGb,zHG,kR,show x.zA.length+D-(k+1)=d from by omega];refine zY fun i _=>?_
  by_cases g:i=j
  ·rw[if_pos g,if_pos (by omega)]
  ·rw[if_neg g,if_neg (by omega)]
theorem sG:∀(d k:Nat),k+d=x.zA.length→ ∀v,V (suf (exx D x m T) k) v↔ ∃y u,v=y++u∧V (suf x k) y∧Row m.Prime D u
 |0,k,hk,v=>by
  rw[zAp h hE hT D k (by omega) (by omega),zD9,vR (x:=x) (k:=k) (by omega)];constructor
  ·intro g;exact⟨[],v,rfl,rfl,g⟩
  ·rintro⟨y,u,rfl,hy,hu⟩
   obtain rfl:y=[]:=hy;exact hu
 |d+1,k,hk,v=>by
  have hl:=wH h hE hT;have ih:=sG d (k+1) (by omega);rw[yF (x:=exx D x m T) (by omega),yF (x:=x) (by omega)];cases v with
  |nil=>
   refine⟨fun g=>g.elim,?_⟩
   rintro⟨y,u,e,hy,hu⟩
   cases y with
   |nil=>exact hy.elim
   |cons a y=>simp at e
  |cons a v=>
   show((0≤a∧a<(lvl (exx D x m T) k).o)∧V (suf (exx D x m T) (k+1)) v)↔_;rw[zBy h hE hT (by omega),ih v];constructor
   ·rintro⟨g,y,u,rfl,hy,hu⟩
    exact⟨a::y,u,rfl,⟨g,hy⟩,hu⟩
   ·rintro⟨y,u,e,hy,hu⟩
    cases y with
    |nil=>exact hy.elim
    |cons b y=>
     simp only[Jn,Qu.injEq]at e;obtain⟨rfl,rfl⟩:=e;exact⟨hy.1,y,u,rfl,hy.2,hu⟩
theorem zER:∀(d k:Nat),k+d=x.zA.length→ ∀y u r,V (suf x k) y→Row m.Prime D u→Row m.Prime D r→mul (suf (exx D x m T) k) (y++u) (zeros d++r)=y++adv m.Prime D u r
 |0,k,hk,y,u,r,hy,hu,hr=>by
  have hp:=hE.m.p.pos;rw[vR (x:=x) (k:=k) (by omega)]at hy;obtain rfl:y=[]:=hy;rw[zAp h hE hT D k (by omega) (by omega)];exact qO (by omega) D u r hu hr
 |d+1,k,hk,y,u,r,hy,hu,hr=>by
  have hl:=wH h hE hT;rw[yF (x:=x) (by omega)]at hy;cases y with
  |nil=>exact hy.elim
  |cons a y=>
   obtain⟨⟨a0,a1⟩,hy⟩:=hy;change a<at0 x.zA k at a1;rw[yF (x:=exx D x m T) (by omega)];show mul _ (a::(y++u)) (0::(zeros d++r))=_;rw[yV,zBy h hE hT (by omega),if_neg (by omega)];show(a+0)::mul _ (y++u) (zeros d++r)=_;rw[zER d (k+1) (by omega) y u r hy hu hr,H8];rfl
theorem vX{k:Nat}(hk:k≤x.zA.length+D):Pc.Ok (suf (exx D x m T) k):=(zGw h hE hT).okAt (by rw[wH h hE hT];exact hk)
theorem zNa{d k:Nat}(hk:k+d=x.zA.length):∀(rs:List Vec)(v:Vec)(y u:Vec),(∀r∈rs,Row m.Prime D r)→V (suf x k) y→Row m.Prime D u→img (mul (suf (exx D x m T) k)) (rs.map fun r=>zeros d++r) v (y++u)=y++img (adv m.Prime D) rs v u
 | [],v,y,u,_,_,_=>by cases v<;>rfl
 |_::_,[],_,_,_,_,_=>rfl
 |c::rs,t::v,y,u,hr,hy,hu=>by
  have hp:=hE.m.p.pos;have hc:=hr c (by simp);have e:∀q u,Row m.Prime D u→iter q (fun w=>mul (suf (exx D x m T) k) w (zeros d++c)) (y++u)=y++iter q (fun w=>adv m.Prime D w c) u:=by
   intro q
   induction q with
   |zero=>intro u _;rfl
   |succ q ih=>
    intro u hu;show iter q _ (mul _ (y++u) (zeros d++c))=_;rw[zER h hE hT d k hk y u c hy hu hc,ih _ (qA (by omega))];rfl
  show img _ (rs.map fun r=>zeros d++r) v (iter t.toNat (fun w=>mul (suf (exx D x m T) k) w (zeros d++c)) (y++u))=_;rw[e _ _ hu,zNa hk rs v y _ (fun r h=>hr r (by simp[h])) hy (vL (S:=Row m.Prime D) (fun _ _=>qA (by omega)) _ hu)];rfl
theorem zW5{k:Nat}(hk:k<x.zA.length):(gl D fun j=>(m.zF.getD k []).getD j [])=m.zF.getD k []:=by
 have _:=h;have _:=hT;have hl:=(hE.m.mat k hk).1;apply L7;intro j;simp only[gl,K1]
 by_cases g:j<D
 ·rw[Uv g,Hx,J2 (i:=j),J3 (by omega)];rfl
 ·rw[Jz (by simp;omega),Jz (by omega)];rfl
def sgG(D:Nat)(x:SPr)(m:zH)(T:Mx)(k:Nat)(y:Vec):Vec:=img (mul (suf (exx D x m T) (k+1))) (eC1 x T k) y (zeros (suf (exx D x m T) (k+1)).length)
theorem uS{k:Nat}:(eC1 x T k).length=x.zA.length-1-k:=by have _:=h;have _:=hE;have _:=hT;rw[eC1,vA]
theorem zO1{k:Nat}(hk:k<x.zA.length):∀c∈eC1 x T k,V (suf (exx D x m T) (k+1)) c:=by
 intro c hc;have ok:=vX h hE hT (k:=k) (by omega);rw[yF (by rw[wH h hE hT];omega)]at ok;exact ok.2.2.2.1 c (by rw[zBN h hE hT hk];exact Gm _ hc)
theorem zAW{k:Nat}(hk:k≤x.zA.length):zeros (suf (exx D x m T) k).length=zeros (x.zA.length-k)++zeros D:=by
 rw[yN,wH h hE hT];simp only[zeros,Ju];congr 1;omega
theorem zHJ{k:Nat}(hk:k<x.zA.length){y:Vec}:V (suf (exx D x m T) (k+1)) (sgG D x m T k y):=by
 have ok:=vX h hE hT (k:=k+1) (by omega);exact jA (xC ok) _ _ (zO1 h hE hT hk) (wP ok)
theorem zBO{k:Nat}(hk:k<x.zA.length){y u:Vec}(hy:V (suf x (k+1)) y)(hu:Row m.Prime D u):
  sig (suf (exx D x m T) (k+1)) (lvl (exx D x m T) k) (y++u)=(sgG D x m T k y).take (x.zA.length-(k+1))++adv m.Prime D ((sgG D x m T k y).drop (x.zA.length-(k+1))) (wD m.Prime D u (m.zF.getD k [])):=by
 have hp:=hE.m.p.pos;have hA:=hE.m.mat k hk;have hyl:=vC h (by omega) hy;unfold sig;rw[zBN h hE hT hk,zO0 _ _ _ _ _ (by rw[uS h hE hT];omega)];show img _ (eC2 x m D k) u (sgG D x m T k y)=_;obtain⟨y1,u1,e,hy1,hu1⟩:=(sG h hE hT (x.zA.length-(k+1)) (k+1) (by omega) _).1 (zHJ h hE hT hk (y:=y));have hy1l:=vC h (by omega) hy1;rw[e,eC2,zW5 h hE hT hk,show x.zA.length-1-k=x.zA.length-(k+1)from by omega,zNa h hE hT (by omega) _ _ _ _ (fun r hr=>?_) hy1 hu1,zGy (by omega) _ _ _ (by rw[hA.1,hu.1]) (fun i hi=>(hu.2 i (by rw[←hu.1];exact hi)).1) hu1,zR8 hA.1,Jm hy1l,K3 hy1l];obtain⟨j,hj,rfl⟩:=Ls.1 hr;have hAl:=hA.1;have:=hA.2 j (by omega)
 rwa [J2,J3 hj]at this
theorem zGz{k:Nat}(hk:k<x.zA.length){u:Vec}(hu:Row m.Prime D u):
  sig (suf (exx D x m T) (k+1)) (lvl (exx D x m T) k) (zeros (x.zA.length-(k+1))++u)=zeros (x.zA.length-(k+1))++wD m.Prime D u (m.zF.getD k []):=by
 have hp:=hE.m.p.pos;have ok:=h.okAt (k:=k+1) (by omega);have hz:=wP ok;rw[yN]at hz;have e:sgG D x m T k (zeros (x.zA.length-(k+1)))=zeros (x.zA.length-(k+1))++zeros D:=by
  unfold sgG;rw[sX,zAW h hE hT (by omega)]
 rw[zBO h hE hT hk hz hu,e,Jm (zZ _),K3 (zZ _),vT (vH (by omega))]
theorem zHK{k:Nat}(hk:k<x.zA.length):∀(q:Nat){u:Vec},Row m.Prime D u→
  iter q (sig (suf (exx D x m T) (k+1)) (lvl (exx D x m T) k)) (zeros (x.zA.length-(k+1))++u)=zeros (x.zA.length-(k+1))++iter q (fun u=>wD m.Prime D u (m.zF.getD k [])) u
 |0,u,_=>rfl
 |q+1,u,hu=>by
  have hp:=hE.m.p.pos;show iter q _ (sig _ _ _)=_;rw[zGz h hE hT hk hu,zHK hk q (vH (by omega))];rfl
end
end Go.Pl

namespace Go.Pl
open Go Go.Ab Go.Wk Go.Pc
theorem zF8{p:Int}{D:Nat}{A:Mx}(hA:Mat p D A)(hp:2≤p){r:List Int}(hr:Row p D r):∀q,iter q (fun u=>wD p D u A) r=wD p D r (pw (PM p D) (idM D) A q)
 |0=>(jE hr).symm
 |q+1=>by
  have hm:Mat p D (pw (PM p D) (idM D) A q):=vL (S:=Mat p D) (fun _ hB=>zCD (by omega) hB.1) q (sE hp);unfold pw at*
  rw[vB,vB,zF8 hA hp hr q];exact zEQ hm.1
theorem zR9{p:Int}{D:Nat}(hp:0<p){r:List Int}:iter p.toNat (fun w=>adv p D w r) (zeros D)=zeros D:=by
 rw[zHI hp _ _ (xL hp)];rw[show zeros D=mkv D fun _=>0 from qL D];refine zY fun j hj=>?_
 rw[yH hj,Qm (by omega),Lp,Int.mul_emod_right]
theorem zA6{p:Int}{D:Nat}{A:Mx}:wD p D (zeros D) A=zeros D:=by
 rw[show zeros D=mkv D fun _=>0 from qL D];refine zY fun j hj=>?_
 rw[xE (g:=fun _=>0) fun l hl=>by rw[yH hl,Ux],qG,Int.zero_emod]
theorem zP3{p:Int}{D q:Nat}{A:Mx}(hq:q<D)(hA:Mat p D A):wD p D (xJ D q) A=A.getD q []:=by
 have hr:=hA.2 q hq
 conv=>rhs;rw[uE hr.1]
 refine zY fun j hj=>?_
 rw[kR,zAd (k:=q) hq (fun i hi hne=>by rw[yH hi,if_neg hne,Ux]),yH hq,if_pos rfl,Jab,sY (hr.2 j hj)]
theorem tX{p:Int}{D q:Nat}(hp:2≤p):Row p D (xJ D q):=by
 rw[kR];exact⟨yD _ _,fun j hj=>by rw[yH hj];split<;>omega⟩
theorem zL8{N D q:Nat}(hq:q<D):xJ (N+D) (N+q)=zeros N++xJ D q:=by
 rw[zAm (by omega),zAm hq,←Ja];simp only[zeros,Ju];rw[show N+D-(N+q+1)=D-(q+1)from by omega]
def aM(m:zH)(D k:Nat)(v:Vec):Mx:=img (PM m.Prime D) (m.zF.drop k) v (idM D)
theorem zRA{p:Int}{D:Nat}(hp:2≤p):Mon (Mat p D) (PM p D) (idM D):=
 ⟨fun ha _=>zCD (by omega) ha.1,sE (by omega),fun ha hb _=>zLn ha.1 hb.1,fun ha=>zBH ha,fun ha=>zCE ha⟩
section
variable {D:Nat}{x:SPr}{m:zH}{T:Mx} (h:Pres x) (hE:ExB x.zA.length D x m T) (hT:∀i,i<T.length→Row m.Prime D (T.getD i []))
 include h hE hT
theorem zRB{k:Nat}(hk:k<x.zA.length):(eC1 x T k).map (·.take (x.zA.length-(k+1)))=(lvl x k).cs:=by
 have _:=hE;have _:=hT;have hcl:=zAt h.w hk;apply L7;intro j
 by_cases g:j<x.zA.length-(k+1)
 ·obtain⟨c,_,_,c3,c4⟩:=zED h hk g
  have hl:=vC h (by omega) c3;have e1:((eC1 x T k).map (·.take (x.zA.length-(k+1))))[j]? =some (((lvl x k).cs.getD j []++T.getD (base x.zA.length k+j) []).take (x.zA.length-(k+1))):=by simp[eC1,gl,show j<x.zA.length-1-k by omega]
  rw[e1,c4,Jm hl,J3 (by omega)];rw[J2,J3 (by omega)]at c4;exact congrArg some c4.symm
 ·rw[Jz (by simp[eC1,gl];omega),Jz (by omega)]
theorem zL9{k:Nat}(hk:k<x.zA.length):m.zF.drop k=m.zF.getD k []::m.zF.drop (k+1):=by
 have _:=h;have _:=hT;have hl:=hE.m.len;rw[H7 (by omega),J2,J3 (by omega)];rfl
theorem zTW{k:Nat}(hk:k<x.zA.length){b:Int}{y:Vec}:aM m D k (b::y)=PM m.Prime D (pw (PM m.Prime D) (idM D) (m.zF.getD k []) b.toNat) (aM m D (k+1) y):=by
 have M:=zRA hE.m.p.pos.1 (D:=D);unfold aM;rw[zL9 h hE hT hk];refine qK M (hE.m.mat k hk) fun c hc=>?_
 obtain⟨i,hi,rfl⟩:=Ls.1 (Jbt hc);have:=hE.m.mat i (by rw[←hE.m.len];exact hi)
 rwa [J2,J3 hi]at this
theorem pwM{k q:Nat}(hk:k<x.zA.length):Mat m.Prime D (pw (PM m.Prime D) (idM D) (m.zF.getD k []) q):=by
 have _:=h;have _:=hT;have _:=hk;have hp:=hE.m.p.pos;exact vL (S:=Mat m.Prime D) (fun _ hB=>zCD (by omega) hB.1) q (sE (by omega))
theorem zO2:∀(d k:Nat),k+d=x.zA.length→ ∀r y v,Row m.Prime D r→V (suf x k) y→Row m.Prime D v→mul (suf (exx D x m T) k) (zeros d++r) (y++v)=y++adv m.Prime D (wD m.Prime D r (aM m D k y)) v
 |0,k,hk,r,y,v,hr,hy,hv=>by
  have hp:=hE.m.p.pos;rw[vR (x:=x) (k:=k) (by omega)]at hy;obtain rfl:y=[]:=hy;rw[zAp h hE hT D k (by omega) (by omega)];have e:aM m D k []=idM D:=by unfold aM;cases m.zF.drop k<;>rfl
  rw[e,jE hr];exact qO (by omega) D r v hr hv
 |d+1,k,hk,r,y,v,hr,hy,hv=>by
  have hl:=wH h hE hT;have hp:=hE.m.p.pos;have hA:=hE.m.mat k (by omega);rw[yF (x:=x) (by omega)]at hy;cases y with
  |nil=>exact hy.elim
  |cons b y=>
   obtain⟨⟨b0,b1⟩,hy⟩:=hy;change b<at0 x.zA k at b1;rw[yF (x:=exx D x m T) (by omega)];show mul _ (0::(zeros d++r)) (b::(y++v))=_;have e:=zHK h hE hT (k:=k) (by omega) b.toNat hr;rw[show x.zA.length-(k+1)=d from by omega]at e;rw[yV,zBy h hE hT (by omega),if_neg (by omega),e,zF8 hA (by omega) hr,zO2 d (k+1) (by omega) _ y v (vH (by omega)) hy hv,Lp,zTW h hE hT (by omega),←zEQ (pwM h hE hT (by omega)).1];rfl
theorem zLA{k:Nat}(hk:k<x.zA.length)(ih:∀a b,V (suf (exx D x m T) (k+1)) a→V (suf (exx D x m T) (k+1)) b→(mul (suf (exx D x m T) (k+1)) a b).take (x.zA.length-(k+1))=mul (suf x (k+1)) (a.take (x.zA.length-(k+1))) (b.take (x.zA.length-(k+1)))){v:Vec}(hv:V (suf (exx D x m T) (k+1)) v):
  (sig (suf (exx D x m T) (k+1)) (lvl (exx D x m T) k) v).take (x.zA.length-(k+1))=sig (suf x (k+1)) (lvl x k) (v.take (x.zA.length-(k+1))):=by
 have ok:=vX h hE hT (k:=k+1) (by omega);obtain⟨y,u,rfl,hy,hu⟩:=(sG h hE hT (x.zA.length-(k+1)) (k+1) (by omega) _).1 hv;have hyl:=vC h (by omega) hy;obtain⟨y1,u1,e,hy1,hu1⟩:=(sG h hE hT (x.zA.length-(k+1)) (k+1) (by omega) _).1 (zHJ h hE hT hk (y:=y));have hy1l:=vC h (by omega) hy1;rw[zBO h hE hT hk hy hu,Jm (by rw[e,Jm hy1l,hy1l]),Jm hyl];unfold sgG sig;rw[zEP (S:=V (suf (exx D x m T) (k+1))) (n:=mul (suf x (k+1))) (·.take (x.zA.length-(k+1))) (fun a b=>xC ok) ih _ _ _ (zO1 h hE hT hk) (wP ok),zRB h hE hT hk,zAW h hE hT (by omega),Jm (zZ _),yN]
theorem zJN:∀(d k:Nat),k+d=x.zA.length→ ∀a b,V (suf (exx D x m T) k) a→V (suf (exx D x m T) k) b→(mul (suf (exx D x m T) k) a b).take d=mul (suf x k) (a.take d) (b.take d)
 |0,k,hk,a,b,_,_=>by
  rw[vR (x:=x) (by omega),K8];rfl
 |d+1,k,hk,a,b,ha,hb=>by
  have hl:=wH h hE hT;have ih:=zJN d (k+1) (by omega);have hd:d=x.zA.length-(k+1):=by omega
  have ok:=vX h hE hT (k:=k+1) (by omega);have ok0:=vX h hE hT (k:=k) (by omega);rw[hd]at ih;have hs:=fun v hv=>zLA h hE hT (k:=k) (by omega) ih (v:=v) hv
  rw[yF (x:=exx D x m T) (by omega)]at ha hb ok0 ⊢
  rw[yF (x:=x) (by omega)];cases a with
  |nil=>exact ha.elim
  |cons a u=>
  cases b with
  |nil=>exact hb.elim
  |cons b v=>
   have hit:∀q u,V (suf (exx D x m T) (k+1)) u→(iter q (sig (suf (exx D x m T) (k+1)) (lvl (exx D x m T) k)) u).take d=iter q (sig (suf x (k+1)) (lvl x k)) (u.take d)∧V (suf (exx D x m T) (k+1)) (iter q (sig (suf (exx D x m T) (k+1)) (lvl (exx D x m T) k)) u):=by
    intro q
    induction q with
    |zero=>intro u hu;exact⟨rfl,hu⟩
    |succ q ihq=>
     intro u hu;have:=ihq _ (zC0 ok0 hu);rw[hd,hs u hu]at this;rw[hd];exact this
   obtain⟨hi1,hi2⟩:=hit b.toNat u ha.2;have hm:=xC ok hi2 hb.2;rw[yV,K7,K7,yV,zBy h hE hT (by omega),show(lvl x k).o=at0 x.zA k from rfl];have e1:=ih _ _ hi2 hb.2;rw[←hd,hi1]at e1;split
   ·rw[K7]
    have e2:=ih _ _ ok0.2.1 hm;rw[←hd,e1]at e2;rw[e2]
    congr 2
    have ht:=(h.tl k (by omega)).1;have hw:=jK ht (by omega);have hwl:(lvl x k).w.length=x.zA.length-(k+1):=vC h (by omega) hw;rw[zHH h hE hT (by omega),Jm (by omega)]
   ·rw[K7,e1]
end
end Go.Pl

namespace Go.Pl
open Go Go.Ab Go.Wk Go.Pc
theorem zP4{p:Int}{d:Nat}(hp:2≤p):∀c∈wL d,Row p d c:=fun c hc=>by
 obtain⟨k,_,rfl⟩:=Jo.1 hc;exact tX hp
theorem zTX{p:Int}(hp:2≤p){d:Nat}{w:Vec}(hw:Row p d w):sig (tlv p d) ⟨p,zeros d,wL d⟩ w=w:=by
 unfold sig;rw[zGx,zDk (S:=Row p d) (m':=adv p d) (fun a b ha hb=>qO hp d a b ha hb) (fun _ _ _ _=>qA (by omega)) (wL d) w _ (zP4 hp) (xL (by omega)),zGy (by omega) (wL d) w _ (by rw[hw.1];simp[wL]) (fun i hi=>(hw.2 i (by rw[←hw.1];exact hi)).1) (xL (by omega))]
 conv=>rhs;rw[uE hw.1]
 refine zY fun j hj=>?_
 have hul:(wL d).length=d:=by simp[wL]
 rw[hul,tW,Lp,zAd (k:=j) hj (fun k hk hne=>by rw[zDl hk hj,if_neg (Ne.symm hne),L9]),zDl hj hj,if_pos rfl,Hl,sY (hw.2 j hj)]
structure LCn (x e:SPr) (k:Nat):Prop where
 c1:∀j,k+1≤j→j<x.zA.length→pw (mul (suf e (k+1))) (zeros (suf e (k+1)).length) ((lvl e k).cs.getD (j-(k+1)) []) (at0 e.zA j).toNat=sig (suf e (k+1)) (lvl e k) ((e.zS.getD j []).drop (k+1))
 c2:∀i,k+1≤i→i<x.zA.length→ ∀j,i+1≤j→j<x.zA.length→
  mul (suf e (k+1)) ((lvl e k).cs.getD (j-(k+1)) []) ((lvl e k).cs.getD (i-(k+1)) [])=mul (suf e (k+1)) ((lvl e k).cs.getD (i-(k+1)) []) (sig (suf e (k+1)) (lvl e k) (((e.zC.getD i []).getD (j-(i+1)) []).drop (k+1)))
 c3:sig (suf e (k+1)) (lvl e k) (lvl e k).w=(lvl e k).w
 c4:∀j,k+1≤j→j<x.zA.length→mul (suf e (k+1)) (lvl e k).w (iter (lvl e k).o.toNat (sig (suf e (k+1)) (lvl e k)) (xJ (e.zA.length-(k+1)) (j-(k+1))))=mul (suf e (k+1)) (xJ (e.zA.length-(k+1)) (j-(k+1))) (lvl e k).w
section
variable {D:Nat}{x:SPr}{m:zH}{T:Mx} (h:Pres x) (hE:ExB x.zA.length D x m T) (hT:∀i,i<T.length→Row m.Prime D (T.getD i []))
 include h hE hT
theorem zRC{k j:Nat}(hk:k<x.zA.length)(hj:x.zA.length≤j)(h2:j<x.zA.length+D):(lvl (exx D x m T) k).cs.getD (j-(k+1)) []=zeros (x.zA.length-(k+1))++(m.zF.getD k []).getD (j-x.zA.length) []:=by
 rw[zBN h hE hT hk,J2,J8 (by rw[uS h hE hT];omega),uS h hE hT,eC2];simp only[gl,K1];rw[Uv (by omega),show j-(k+1)-(x.zA.length-1-k)=j-x.zA.length from by omega,show x.zA.length-1-k=x.zA.length-(k+1)from by omega];rfl
theorem zHL{k j:Nat}(hk:k<x.zA.length)(hj:k+1≤j)(h2:j<x.zA.length):(lvl (exx D x m T) k).cs.getD (j-(k+1)) []=(lvl x k).cs.getD (j-(k+1)) []++T.getD (base x.zA.length k+(j-(k+1))) []:=by
 rw[zBN h hE hT hk,J2,Jl (by rw[uS h hE hT];omega),eC1];simp only[gl,K1];rw[Uv (by omega)];rfl
theorem zDA{i j:Nat}(hi:i<j)(hj:j<x.zA.length):Row m.Prime D (T.getD (base x.zA.length i+(j-(i+1))) []):=by
 have _:=h;have hn:=hE.hn;have hb:=zBL x.zA.length (by omega) i (by omega);exact hT _ (by rw[hE.t];omega)
theorem zBP{i:Nat}(hi:i<x.zA.length):Row m.Prime D (T.getD i []):=by
 have _:=h;have hn:=hE.hn;have hb:=uG x.zA.length (by omega);exact hT _ (by rw[hE.t];omega)
theorem zEb{k j:Nat}(hj:k≤j)(h2:j<x.zA.length):((exx D x m T).zS.getD j []).drop (k+1)=(x.zS.getD j []).drop (k+1)++T.getD j []:=by
 have t1:=(h.tl j h2).1.1.1;have _:=hE;have _:=hT;have hP:(exx D x m T).zS.getD j []=exP x.zA.length D x T j:=xY (by omega);rw[hP,exP,if_pos h2,Kt (by omega)]
theorem zW6{k j:Nat}(hk:k<x.zA.length)(hj:x.zA.length≤j)(h2:j<x.zA.length+D):((exx D x m T).zS.getD j []).drop (k+1)=zeros (x.zA.length-(k+1))++zeros D:=by
 have _:=h;have _:=hE;have _:=hT;have hP:(exx D x m T).zS.getD j []=exP x.zA.length D x T j:=xY (by omega);rw[hP,exP,if_neg (by omega),H3];simp only[zeros,Ju];congr 1;omega
theorem zHM{i:Nat}(hi:i<x.zA.length+D):(exx D x m T).zC.getD i []=exC x.zA.length D x m T i:=by
 have _:=h;have _:=hE;have _:=hT;show(gl (x.zA.length+D) (exC x.zA.length D x m T)).getD i []=_;simp[gl,J2,hi]
theorem zF9{k i j:Nat}(hk:k≤i)(hi:i<j)(hj:j<x.zA.length):(((exx D x m T).zC.getD i []).getD (j-(i+1)) []).drop (k+1)=((x.zC.getD i []).getD (j-(i+1)) []).drop (k+1)++T.getD (base x.zA.length i+(j-(i+1))) []:=by
 obtain⟨_,t2,t3⟩:=h.tl i (by omega);have t:=(t3 (j-(i+1)) (by omega)).1.1;rw[zHM h hE hT (by omega),exC,if_pos (by omega),xY (by omega),exF,if_pos (by omega),Kt (by omega)]
theorem zW7{k i j:Nat}(hk:k<x.zA.length)(hi:i<x.zA.length)(hj:x.zA.length≤j)(h2:j<x.zA.length+D):(((exx D x m T).zC.getD i []).getD (j-(i+1)) []).drop (k+1)=zeros (x.zA.length-(k+1))++(m.zF.getD i []).getD (j-x.zA.length) []:=by
 rw[zHM h hE hT (by omega),exC,if_pos (by omega),xY (by omega),exF,if_neg (by omega),Kt (by simp;omega),H3,show j-(i+1)-(x.zA.length-1-i)=j-x.zA.length from by omega];rfl
theorem zW8{k i j:Nat}(hk:k<x.zA.length)(hi:x.zA.length≤i)(hj:i<j)(h2:j<x.zA.length+D):(((exx D x m T).zC.getD i []).getD (j-(i+1)) []).drop (k+1)=zeros (x.zA.length-(k+1))++xJ D (j-x.zA.length):=by
 rw[zHM h hE hT (by omega),exC,if_neg (by omega),unC,xY (by omega),zGb,zHG,←zL8 (by omega),kR];rw[show x.zA.length+D-(k+1)=x.zA.length-(k+1)+D from by omega];refine zY fun q _=>?_
 by_cases g:q=x.zA.length-(k+1)+(j-x.zA.length)
 ·rw[if_pos g,if_pos (by omega)]
 ·rw[if_neg g,if_neg (by omega)]
theorem zTY(hr:zDZ x m D){k:Nat}(hk:k<x.zA.length):pw (PM m.Prime D) (idM D) (m.zF.getD k []) (at0 x.zA k).toNat=aM m D (k+1) (lvl x k).w∧
  ∀i,k<i→i<x.zA.length→PM m.Prime D (m.zF.getD i []) (m.zF.getD k [])=PM m.Prime D (m.zF.getD k []) (aM m D (k+1) ((lvl x k).cs.getD (i-(k+1)) [])):=by
 have R:=zOz h hE.m hr (x.zA.length-k) k (by omega);rw[yF hk,zL9 h hE hT hk]at R;obtain⟨r1,r2,_⟩:=R;refine⟨r1,fun i h1 h2=>?_⟩;have hcl:=zAt h.w hk;have hl:=hE.m.len;refine r2 (i-(k+1)) _ _ ?_ ?_
 ·rw[Kq,show k+1+(i-(k+1))=i from by omega,J2,J3 (by omega)];rfl
 ·rw[J2,J3 (by omega)];rfl
theorem zv{k:Nat}(hk:k≤x.zA.length):V (suf x k) (zeros (x.zA.length-k)):=by
 have _:=hE;have _:=hT;have:=wP (h.okAt hk)
 rwa [yN]at this
theorem zRD(hr:zDZ x m D){k:Nat}(hk:k<x.zA.length)(hc:LCn x (exx D x m T) k):LC (exx D x m T) k:=by
 have hp:=hE.m.p.pos;have hl:=wH h hE hT;have hA:=hE.m.mat k hk;obtain⟨r1,r2⟩:=zTY h hE hT hr hk;have hz:=zv h hE hT (k:=k+1) (by omega);have hD0:Row m.Prime D (zeros D):=xL (by omega);have hw:=(zWw h hk).2;refine⟨fun j h1 h2=>?_,fun i h1 h2 j h3 h4=>?_,hc.c3,fun j h1 h2=>?_⟩
 ·rw[hl]at h2
  rcases Jk j x.zA.length with g|g
  ·exact hc.c1 j h1 g
  ·have hq:=hA.2 (j-x.zA.length) (by omega)
   rw[zRC h hE hT hk g h2,zW6 h hE hT hk g h2,zGz h hE hT hk hD0,zA6,zBM h hE hT g h2,zAW h hE hT (by omega)];have e:=zNa h hE hT (d:=x.zA.length-(k+1)) (k:=k+1) (by omega) [(m.zF.getD k []).getD (j-x.zA.length) []] [m.Prime] _ _ (fun r hr=>by rw[List.mem_singleton.1 hr];exact hq) hz hD0;have e2:iter m.Prime.toNat (fun w=>adv m.Prime D w ((m.zF.getD k []).getD (j-x.zA.length) [])) (zeros D)=zeros D:=zR9 (by omega);unfold pw;refine e.trans ?_;show zeros _++iter m.Prime.toNat (fun w=>adv m.Prime D w ((m.zF.getD k []).getD (j-x.zA.length) [])) (zeros D)=_;rw[e2]
 ·rw[hl]at h4
  rcases Jk j x.zA.length with g|g
  ·exact hc.c2 i h1 (by omega) j h3 g
  ·have hq:=hA.2 (j-x.zA.length) (by omega)
   rw[zRC h hE hT hk g h4];rcases Jk i x.zA.length with gi|gi
   ·have hAi:=hE.m.mat i gi
    have hqi:=hAi.2 (j-x.zA.length) (by omega);have hcv:=(kN h hk h1 gi).2.2;have ht:=zDA h hE hT (i:=k) (j:=i) (by omega) gi;rw[zHL h hE hT hk h1 gi,zW7 h hE hT hk gi g h4,zGz h hE hT hk hqi,zO2 h hE hT _ (k+1) (by omega) _ _ _ hq hcv ht,zER h hE hT _ (k+1) (by omega) _ _ _ hcv ht (vH (by omega)),tF]
    congr 2
    rw[←zBG (by rw[hA.1];omega),←zBG (by rw[hAi.1];omega),r2 i (by omega) gi]
   ·have hqi:=hA.2 (i-x.zA.length) (by omega)
    rw[zRC h hE hT hk gi (by omega),zW8 h hE hT hk gi (by omega) h4,zGz h hE hT hk (tX (by omega)),zP3 (by omega) hA,zER h hE hT _ (k+1) (by omega) _ _ _ hz hq hqi,zER h hE hT _ (k+1) (by omega) _ _ _ hz hqi hq,tF]
 ·rw[hl]at h2 ⊢
  rcases Jk j x.zA.length with g|g
  ·have:=hc.c4 j h1 g
   rwa [hl]at this
  ·have ht:=zBP h hE hT hk
   have hu:Row m.Prime D (xJ D (j-x.zA.length)):=tX (by omega);rw[show x.zA.length+D-(k+1)=x.zA.length-(k+1)+D from by omega,show j-(k+1)=x.zA.length-(k+1)+(j-x.zA.length)from by omega,zL8 (by omega),zBy h hE hT hk,zHK h hE hT hk _ hu,zHH h hE hT hk,zF8 hA (by omega) hu,r1,zO2 h hE hT _ (k+1) (by omega) _ _ _ hu hw ht,zER h hE hT _ (k+1) (by omega) _ _ _ hw ht (vH (by omega)),tF]
theorem zW9{k:Nat}(hk:x.zA.length≤k)(h2:k<x.zA.length+D):LC (exx D x m T) k:=by
 have hp:=hE.m.p.pos;have hl:=wH h hE hT;have hs:=zAp h hE hT (x.zA.length+D-(k+1)) (k+1) (by omega) (by omega);have hL:=zAp h hE hT (x.zA.length+D-(k+1)+1) k (by omega) (by omega);rw[yF (by omega),hs,tlv]at hL;have hlv:lvl (exx D x m T) k=⟨m.Prime,zeros (x.zA.length+D-(k+1)),wL (x.zA.length+D-(k+1))⟩:=(Qu.inj hL).1
 generalize hd:x.zA.length+D-(k+1)=d at*
 have hsig:∀w,Row m.Prime d w→sig (tlv m.Prime d) ⟨m.Prime,zeros d,wL d⟩ w=w:=fun w hw=>zTX (by omega) hw
 have hzr:Row m.Prime d (zeros d):=xL (by omega);have hum:∀j,(wL d).getD j []=if j<d then xJ d j else[]:=fun j=>by
  by_cases g:j<d
  ·rw[if_pos g,zH0 g]
  ·rw[if_neg g,J2,Jz (by simp[wL];omega)];rfl
 refine⟨fun j h1 h3=>?_,fun i h1 h3 j h4 h5=>?_,?_,fun j h1 h3=>?_⟩
 ·rw[hl]at h3
  have hP:(exx D x m T).zS.getD j []=exP x.zA.length D x T j:=xY (by omega);rw[hs,hlv,zBM h hE hT (by omega) h3,hP,exP,if_neg (by omega),H3,hd];show pw (mul (tlv m.Prime d)) (zeros (tlv m.Prime d).length) ((wL d).getD (j-(k+1)) []) m.Prime.toNat=sig (tlv m.Prime d) ⟨m.Prime,zeros d,wL d⟩ (zeros d);rw[hsig _ hzr,hum,if_pos (by omega),zGx];have e:=zDk (S:=Row m.Prime d) (m':=adv m.Prime d) (fun a b ha hb=>qO (by omega) d a b ha hb) (fun _ _ _ _=>qA (by omega)) [xJ d (j-(k+1))] [m.Prime] (zeros d) (fun c hc=>by rw[List.mem_singleton.1 hc];exact tX (by omega)) hzr;exact e.trans (zR9 (by omega))
 ·rw[hl]at h3 h5
  rw[hs,hlv,zHM h hE hT h3,exC,if_neg (by omega),unC,xY (by omega),zGb,zHG,hd];have e:(mkv d fun q=>if k+1+q=i+1+(j-(i+1))then(1:Int)else 0)=xJ d (j-(k+1)):=by
   rw[kR];refine zY fun q _=>?_
   by_cases g:q=j-(k+1)
   ·rw[if_pos g,if_pos (by omega)]
   ·rw[if_neg g,if_neg (by omega)]
  rw[e,hsig _ (tX (by omega))];show mul (tlv m.Prime d) ((wL d).getD (j-(k+1)) []) ((wL d).getD (i-(k+1)) [])=mul (tlv m.Prime d) ((wL d).getD (i-(k+1)) []) (xJ d (j-(k+1)));rw[hum,hum,if_pos (by omega),if_pos (by omega),qO (by omega) d _ _ (tX (by omega)) (tX (by omega)),qO (by omega) d _ _ (tX (by omega)) (tX (by omega)),tF]
 ·rw[hs,hlv,hsig _ hzr]
 ·rw[hl]at h3 ⊢
  have hu:Row m.Prime d (xJ d (j-(k+1))):=tX (by omega);rw[hs,hlv,hd,zHF (hsig _ hu),qO (by omega) d _ _ hzr hu,qO (by omega) d _ _ hu hzr,tF]
theorem zHN:∀(d k:Nat),x.zA.length≤k→k+d=x.zA.length+D→wR (suf (exx D x m T) k)
 |0,k,hk,hd=>by
  rw[vR (by rw[wH h hE hT];omega)];simp only[wR]
 |d+1,k,hk,hd=>(zA4 (zGw h hE hT) (by rw[wH h hE hT];omega)).2 ⟨zHN d (k+1) (by omega) (by omega),zW9 h hE hT hk (by omega)⟩
theorem zO3(hr:zDZ x m D):wR (suf (exx D x m T) 0)↔ ∀k,k<x.zA.length→LCn x (exx D x m T) k:=by
 have hl:=wH h hE hT;have key:∀(d k:Nat),k+d=x.zA.length→(wR (suf (exx D x m T) k)↔ ∀i,k≤i→i<x.zA.length→LCn x (exx D x m T) i):=by
  intro d
  induction d with
  |zero=>intro k hk;exact⟨fun _ i h1 h2=>by omega,fun _=>zHN h hE hT D k (by omega) (by omega)⟩
  |succ d ih=>
   intro k hk;rw[zA4 (zGw h hE hT) (by omega),ih (k+1) (by omega)];constructor
   ·rintro⟨g1,g2⟩ i h1 h2
    rcases Jk k i with g|g
    ·exact g1 i (by omega) h2
    ·obtain rfl:i=k:=by omega
     exact⟨fun j a b=>g2.c1 j a (by omega),fun i a b j c d=>g2.c2 i a (by omega) j c (by omega),g2.c3,fun j a b=>g2.c4 j a (by omega)⟩
   ·exact fun g=>⟨fun i h1 h2=>g i (by omega) h2,zRD h hE hT hr (by omega) (g k (by omega) (by omega))⟩
 have:=key x.zA.length 0 (by omega);rw[this];exact⟨fun g k hk=>g k (by omega) hk,fun g k _ hk=>g k hk⟩
end
end Go.Pl

namespace Go.Pl
open Go Go.Ab Go.Wk Go.Pc
def prE(x:SPr)(k:Nat)(w:Vec):zI:=⟨fv k (w.take (x.zA.length-k)),w.drop (x.zA.length-k)⟩
theorem qB{x:SPr}{k:Nat}{y u:Vec}(hy:y.length=x.zA.length-k):prE x k (y++u)=⟨fv k y,u⟩:=by
 rw[prE,Jm hy,K3 hy]
theorem zBQ{α α' β:Type}{body:α×α'×Int→Option ((α×α'×Int)⊕(α×α'))}{S:β→Prop}(e1:β→α)(e2:β→α')(g:β→β)(n:Int)(hn:0≤n)(hS:∀a,S a→S (g a))
  (h:∀a(i:Nat),S a→(i:Int)<n→body (e1 a,e2 a,(i:Int))=some (.inl (e1 (g a),e2 (g a),((i+1:Nat):Int))))(he:∀a,S a→body (e1 a,e2 a,n)=some (.inr (e1 a,e2 a))){a:β}(ha:S a):
  zJ body (e1 a,e2 a,0)=some (e1 (iter n.toNat g a),e2 (iter n.toNat g a)):=by
 have hit:∀k,S (iter k g a):=fun k=>vL (S:=S) hS k ha
 exact yB (body:=body) (r:=(e1 (iter n.toNat g a),e2 (iter n.toNat g a))) (fun i=>(e1 (iter i g a),e2 (iter i g a),(i:Int))) n.toNat (fun i hi=>by
  rw[h _ i (hit i) (by omega),vB]) (by
  rw[show((n.toNat:Nat):Int)=n from by omega];exact he _ (hit _))
structure Mv (D n:Nat) (m0 m:zH):Prop where
 pr:m0.Prime=m.Prime
 mv:∀k,k<n→ ∀u,Row m.Prime D u→zUL m0 u (k:Int)=some (wD m.Prime D u (m.zF.getD k []))
section
variable {D:Nat}{x:SPr}{m0 m:zH}{T:Mx} (h:Pres x) (hE:ExB x.zA.length D x m T) (hT:∀i,i<T.length→Row m.Prime D (T.getD i []))
def zRE(D:Nat)(x:SPr)(m0 m:zH)(T:Mx)(k:Nat)(g:zX→Int→zI→zI→Option zI):Prop:=
 ∀a b,V (suf (exx D x m T) k) a→V (suf (exx D x m T) k) b→g ⟨x,m0,T⟩ k (prE x k a) (prE x k b)=some (prE x k (mul (suf (exx D x m T) k) a b))
def zRF(D:Nat)(x:SPr)(m0 m:zH)(T:Mx)(k:Nat)(g:zX→Int→zI→Option zI):Prop:=
 ∀v,V (suf (exx D x m T) (k+1)) v→g ⟨x,m0,T⟩ k (prE x (k+1) v)=some (prE x (k+1) (sig (suf (exx D x m T) (k+1)) (lvl (exx D x m T) k) v))
 include h hE hT
theorem zO4{k i j:Nat}(hk:k≤i)(hi:i<j)(hj:j<x.zA.length):f_S ⟨x,m0,T⟩ (i:Int) (j:Int)=some (prE x (k+1) ((((exx D x m T).zC.getD i []).getD (j-(i+1)) []).drop (k+1)))∧V (suf (exx D x m T) (k+1)) ((((exx D x m T).zC.getD i []).getD (j-(i+1)) []).drop (k+1)):=by
 have hn:=hE.hn;have hb:=zBL x.zA.length (by omega) i (by omega);have ht:=hE.t;obtain⟨_,t2,t3⟩:=h.tl i (by omega);have tt:=t3 (j-(i+1)) (by omega);obtain⟨e1,e2⟩:=zC9 (k:=k+1) tt (by omega) (by omega);have hl:=vC h (by omega) e2;have hcl:=h.cl;have hr:=zDA h hE hT hi hj;refine⟨?_,?_⟩
 ·rw[zF9 h hE hT hk hi hj,qB hl,←e1]
  unfold f_S;dsimp only
  rw[yY [] (by omega),bs,zE (by omega) (by omega),bs,zE (by omega) (by omega),bs,show(j:Int)-(i:Int)-1=((j-(i+1):Nat):Int)from by omega,yY [] (by omega),bs,zMW x.zA.length (by omega) j hj i hi,bs,yY [] (by omega),bs,show j-i-1=j-(i+1)from by omega]
 ·rw[zF9 h hE hT hk hi hj]
  exact(sG h hE hT (x.zA.length-(k+1)) (k+1) (by omega) _).2 ⟨_,_,rfl,e2,hr⟩
theorem zES{k j:Nat}(hk:k<j)(hj:j<x.zA.length):f_S ⟨x,m0,T⟩ (k:Int) (j:Int)=some (prE x (k+1) ((lvl (exx D x m T) k).cs.getD (j-(k+1)) []))∧V (suf (exx D x m T) (k+1)) ((lvl (exx D x m T) k).cs.getD (j-(k+1)) []):=by
 have e:(lvl (exx D x m T) k).cs.getD (j-(k+1)) []=(((exx D x m T).zC.getD k []).getD (j-(k+1)) []).drop (k+1):=by
  have hC:((exx D x m T).zC.getD k []).length=x.zA.length+D-1-k:=by rw[zHM h hE hT (by omega),exC,if_pos (by omega),vA]
  simp only[lvl];rw[J2,K1,J3 (by omega),J2 (l:=(exx D x m T).zC.getD k []),J3 (by omega)];rfl
 rw[e];exact zO4 h hE hT (Jp k) hk hj
theorem zJO{k j:Nat}(hk:k≤j)(hj:j<x.zA.length):zNu ⟨x,m0,T⟩ (j:Int)=some (prE x (k+1) (((exx D x m T).zS.getD j []).drop (k+1)))∧V (suf (exx D x m T) (k+1)) (((exx D x m T).zS.getD j []).drop (k+1)):=by
 have hn:=hE.hn;have hb:=uG x.zA.length (by omega);have ht:=hE.t;have hpl:=h.pl;have t1:=(h.tl j hj).1;obtain⟨e1,e2⟩:=zC9 (k:=k+1) t1 (by omega) (by omega);have hl:=vC h (by omega) e2;have hr:=zBP h hE hT hj;refine⟨?_,?_⟩
 ·rw[zEb h hE hT hk hj,qB hl,←e1]
  unfold zNu;dsimp only
  rw[yY [] (by omega),bs,yY [] (by omega),bs]
 ·rw[zEb h hE hT hk hj]
  exact(sG h hE hT (x.zA.length-(k+1)) (k+1) (by omega) _).2 ⟨_,_,rfl,e2,hr⟩
theorem zJP{k:Nat}(hk:k≤x.zA.length)(h0:0<x.zA.length):zMf ⟨x,m0,T⟩=some (prE x k (zeros (suf (exx D x m T) k).length)):=by
 have hn:=hE.hn;have h3:=hE.m.d3;have hb:=uG x.zA.length (by omega);have ht:=hE.t;have hr:=zBP h hE hT h0;have hrl:=hr.1;unfold zMf;dsimp only
 have e0:ixO T 0=some (T.getD 0 []):=yY (i:=0) [] (by omega);rw[decide_eq_true (by omega),zQ,e0,bs,wJ (by omega),bs,wJ (by omega),bs,zAW h hE hT hk,qB (zZ _),hrl,fv]
 congr 2
 simp only[zeros,Ju];congr 1;omega
theorem zRG{u v:Vec}(hu:Row m.Prime D u)(hv:Row m.Prime D v):f_A m.Prime u 1 v=some (adv m.Prime D u v):=by
 have _:=h;have _:=hT;have h3:=hE.m.d3;rw[kP hE.m.p hu hv (by omega) (by omega)]
 congr 1
 exact zY fun j _=>by rw[Jab]
theorem prV{k:Nat}(hk:k≤x.zA.length){w:Vec}(hw:V (suf (exx D x m T) k) w):∃y u,w=y++u∧V (suf x k) y∧Row m.Prime D u∧prE x k w=⟨fv k y,u⟩∧y.length=x.zA.length-k:=by
 obtain⟨y,u,rfl,hy,hu⟩:=(sG h hE hT (x.zA.length-k) k (by omega) _).1 hw;have hyl:=vC h hk hy;exact⟨y,u,rfl,hy,hu,qB hyl,hyl⟩
variable (hM:Mv D x.zA.length m0 m)
 include hM
theorem zLB{k:Nat}(hk:k<x.zA.length){g:zX→Int→zI→zI→Option zI}(hg:zRE D x m0 m T (k+1) g):zRF D x m0 m T k (b_h g):=by
 intro v hv;have hn:=hE.hn;have hp:=hE.m.p.pos;have ok:=vX h hE hT (k:=k+1) (by omega);have hA:=hE.m.mat k hk;obtain⟨y,u,rfl,hy,hu,hpr,hyl⟩:=prV h hE hT (k:=k+1) (by omega) hv;obtain⟨_,hyr⟩:=zDW h.os (x.zA.length-(k+1)) (k+1) y (by omega) hy;have hcl:=uS h hE hT (k:=k);have hcs:=zO1 h hE hT hk;have hcg:∀i,i<x.zA.length-(k+1)→(eC1 x T k).getD i []=(lvl (exx D x m T) k).cs.getD i []:=fun i hi=>by
  rw[zBN h hE hT hk,J2,J2,Jl (by omega)]
 obtain⟨A,hAe⟩:∃A:Nat→Vec,∀i,A i=img (mul (suf (exx D x m T) (k+1))) ((eC1 x T k).take i) (y.take i) (zeros (suf (exx D x m T) (k+1)).length):=⟨_,fun _=>rfl⟩;have hI:∀i,V (suf (exx D x m T) (k+1)) (A i):=fun i=>by
  rw[hAe];exact jA (xC ok) _ _ (fun c hc=>hcs c (Gz hc)) (wP ok)
 have hA0:A 0=zeros (suf (exx D x m T) (k+1)).length:=by rw[hAe];simp only[K8,img]
 have hAn:A (x.zA.length-(k+1))=sgG D x m T k y:=by
  rw[hAe,Jr (by omega),Jr (by omega)];rfl
 rw[hpr];unfold b_h;dsimp only
 rw[zJP h hE hT (k:=k+1) (by omega) (by omega),bs,zE (by omega) (by omega),bs,cs];have:=yB (body:=zTl g ⟨x,m0,T⟩ k ⟨fv (k+1) y,u⟩) (r:=((prE x (k+1) (sgG D x m T k y)).x,(prE x (k+1) (sgG D x m T k y)).v))
  (fun i=>((prE x (k+1) (A i)).x,(prE x (k+1) (A i)).v,((k+1+i:Nat):Int))) (x.zA.length-(k+1)) (fun i hi=>by
  have hr:=hyr i hi;obtain⟨c1,c2⟩:=zES h hE hT (k:=k) (j:=k+1+i) (by omega) (by omega);rw[show k+1+i-(k+1)=i from by omega]at c1 c2;unfold zTl;dsimp only
  rw[decide_eq_true (by rw[zC7 h (by omega) hy];omega),zQ];rw[zBQ (S:=V (suf (exx D x m T) (k+1))) (fun w=>(prE x (k+1) w).x) (fun w=>(prE x (k+1) w).v) (fun w=>mul (suf (exx D x m T) (k+1)) w ((lvl (exx D x m T) k).cs.getD i [])) (at0 y i) hr.1 (fun w hw=>xC ok hw c2) (fun w q hw hq=>by
   unfold zUM;dsimp only
   rw[fv,zLf (by omega),bs,decide_eq_true hq,zQ,zE (by omega) (by omega),bs,c1,bs,cs,show(zI.mk (prE x (k+1) w).x (prE x (k+1) w).v)=prE x (k+1) w from rfl,hg w _ hw c2,bs,zE (by omega) (by omega),bs,cs]) (fun w hw=>by
   unfold zUM;dsimp only
   rw[fv,zLf (by omega),bs,decide_eq_false (by omega),zL]) (hI i),bs,zE (by omega) (by omega),bs,cs]
  rw[hAe (i+1),zBr _ _ _ _ (by omega) (by omega),hcg i hi,←hAe];rfl) (by
  unfold zTl;dsimp only
  rw[decide_eq_false (by rw[zC7 h (by omega) hy];omega),zL,hAn])
 rw[hA0,Gf]at this;rw[this,bs,hM.mv k hk _ hu,bs];obtain⟨y1,u1,e,hy1,hu1,hpr1,hyl1⟩:=prV h hE hT (k:=k+1) (by omega) (zHJ h hE hT hk (y:=y));rw[zBO h hE hT hk hy hu,hpr1,e,Jm hyl1,K3 hyl1,qB hyl1];dsimp only
 rw[hM.pr,zRG h hE hT hu1 (vH (by omega)),bs]
theorem zRH{k:Nat}(hk:k<x.zA.length){g:zX→Int→zI→zI→Option zI}{gi:zX→Int→zI→Option zI}(hg:zRE D x m0 m T (k+1) g)(hi:zRF D x m0 m T k gi):zRE D x m0 m T k (b_d gi g):=by
 have _:=hM;intro a b ha hb;have hn:=hE.hn;have hl:=wH h hE hT;have hp:=(h.os.2 k hk).pos;have ok:=vX h hE hT (k:=k+1) (by omega);have ok0:=vX h hE hT (k:=k) (by omega);obtain⟨al,au,rfl,hal,hau,hpa,hall⟩:=prV h hE hT (k:=k) (by omega) ha;obtain⟨bl,bu,rfl,hbl,hbu,hpb,hbll⟩:=prV h hE hT (k:=k) (by omega) hb;rw[hpa,hpb];rw[yF (x:=x) hk]at hal hbl;rw[yF (x:=exx D x m T) (by omega)]at ok0 ⊢
 obtain⟨a0,a,rfl⟩:∃a0 a',al=a0::a':=by cases al with|nil=>exact hal.elim|cons p q=>exact⟨p,q,rfl⟩
 obtain⟨b0,b,rfl⟩:∃a0 a',bl=a0::a':=by cases bl with|nil=>exact hbl.elim|cons p q=>exact⟨p,q,rfl⟩
 obtain⟨⟨a1,a2⟩,hal⟩:=hal;obtain⟨⟨b1,b2⟩,hbl⟩:=hbl;change a0<at0 x.zA k at a2;change b0<at0 x.zA k at b2;have hal1:=vC h (by omega) hal;have hbl1:=vC h (by omega) hbl;have hA:=(sG h hE hT (x.zA.length-(k+1)) (k+1) (by omega) (a++au)).2 ⟨_,_,rfl,hal,hau⟩;have hB:=(sG h hE hT (x.zA.length-(k+1)) (k+1) (by omega) (b++bu)).2 ⟨_,_,rfl,hbl,hbu⟩;have own:∀u,V (suf x (k+1)) u→f_w (fv (k+1) u)=some (fv (k+1) u):=fun u hu=>jB (by
  rw[zC7 h (by omega) hu];omega)
 have own':∀(c:Int) u,V (suf x (k+1)) u→f_w (fv k (c::u))=some (fv k (c::u)):=fun c u hu=>jB (by
  have:=vC h (by omega) hu;rw[fv,J5,zZ,J7];omega)
 have hsig:∀u,V (suf (exx D x m T) (k+1)) u→V (suf (exx D x m T) (k+1)) (sig (suf (exx D x m T) (k+1)) (lvl (exx D x m T) k) u):=fun u hu=>zC0 ok0 hu
 have hit:V (suf (exx D x m T) (k+1)) (iter b0.toNat (sig (suf (exx D x m T) (k+1)) (lvl (exx D x m T) k)) (a++au)):=vL hsig _ hA;have ea:(⟨fv (k+1) a,au⟩:zI)=prE x (k+1) (a++au):=(qB hal1).symm;have eb:(⟨fv (k+1) b,bu⟩:zI)=prE x (k+1) (b++bu):=(qB hbl1).symm;unfold b_d;dsimp only
 rw[decide_eq_false (by omega),zL,own' _ _ hal,bs,own' _ _ hbl,bs,zC5,bs,zC5,bs,Jg,zD6,zD6,zBF,zBF];have e1:zJ (zPP gi ⟨x,m0,T⟩ k ⟨fv k (b0::b),bu⟩) (zeros (k+1)++a,au,0)=some ((prE x (k+1) (iter b0.toNat (sig (suf (exx D x m T) (k+1)) (lvl (exx D x m T) k)) (a++au))).x,(prE x (k+1) (iter b0.toNat (sig (suf (exx D x m T) (k+1)) (lvl (exx D x m T) k)) (a++au))).v):=by
  have:=zBQ (body:=zPP gi ⟨x,m0,T⟩ k ⟨fv k (b0::b),bu⟩) (S:=V (suf (exx D x m T) (k+1))) (fun w=>(prE x (k+1) w).x) (fun w=>(prE x (k+1) w).v) (sig (suf (exx D x m T) (k+1)) (lvl (exx D x m T) k)) b0 b1 hsig (fun w q hw hq=>by
   unfold zPP;dsimp only
   rw[zC5,bs,decide_eq_true hq,zQ,show(zI.mk (prE x (k+1) w).x (prE x (k+1) w).v)=prE x (k+1) w from rfl,hi w hw,bs,zE (by omega) (by omega),bs,cs]) (fun w hw=>by
   unfold zPP;dsimp only
   rw[zC5,bs,decide_eq_false (by omega),zL]) hA
  rw[←ea]at this;exact this
 rw[e1,bs,zE (by omega) (by omega),bs,cs];dsimp only
 rw[show zeros (k+1)++b=fv (k+1) b from rfl,eb,show(zI.mk (prE x (k+1) (iter b0.toNat (sig (suf (exx D x m T) (k+1)) (lvl (exx D x m T) k)) (a++au))).x (prE x (k+1) (iter b0.toNat (sig (suf (exx D x m T) (k+1)) (lvl (exx D x m T) k)) (a++au))).v)=prE x (k+1) (iter b0.toNat (sig (suf (exx D x m T) (k+1)) (lvl (exx D x m T) k)) (a++au))from rfl,hg _ _ hit hB,bs,bs,bs,zE (by omega) (by omega),bs,xD hk,bs];have hm:=xC ok hit hB;show _=some (prE x k (mul _ (a0::(a++au)) (b0::(b++bu))));rw[yV,zBy h hE hT hk]
 generalize mul (suf (exx D x m T) (k+1)) (iter b0.toNat (sig (suf (exx D x m T) (k+1)) (lvl (exx D x m T) k)) (a++au)) (b++bu)=r at hm ⊢
 have fin:∀(c:Int) w,V (suf (exx D x m T) (k+1)) w→((f_w (prE x (k+1) w).x).bind fun r22=>(ixO r22 (k:Int)).bind fun _=>some (zI.mk (r22.set k c) (prE x (k+1) w).v))=some (prE x k (c::w)):=fun c w hw=>by
  obtain⟨w1,w2,rfl,h1,h2,h3,h4⟩:=prV h hE hT (k:=k+1) (by omega) hw;have e3:prE x k (c::(w1++w2))=⟨fv k (c::w1),w2⟩:=qB (y:=c::w1) (by rw[J7];omega);rw[h3,e3];dsimp only
  rw[own _ h1,bs,fv,←zBF,zC5,bs,zD6]
 by_cases hge:a0+b0≥at0 x.zA k
 ·obtain⟨p1,p2⟩:=zJO h hE hT (k:=k) (j:=k) (Jp k) hk
  change V (suf (exx D x m T) (k+1)) (lvl (exx D x m T) k).w at p2;rw[decide_eq_true hge,zQ,if_pos hge,bs,zE (by omega) (by omega),bs,bs,p1,bs];have e4:=hg _ _ p2 hm;rw[show(((exx D x m T).zS.getD k []).drop (k+1))=(lvl (exx D x m T) k).w from rfl,e4,bs];exact fin _ _ (xC ok p2 hm)
 ·rw[decide_eq_false hge,zL,if_neg hge]
  exact fin _ _ hm
theorem zEc:∀(d k:Nat),k+d=x.zA.length→(∀q,2*d+1≤q→zRE D x m0 m T k (zNw q))∧(1≤d→ ∀q,2*d≤q→zRF D x m0 m T k (zNv q))
 |0,k,hk=>by
  refine⟨fun q hq a b ha hb=>?_,fun h=>by omega⟩;have hn:=hE.hn;have hp:=hE.m.p.pos;obtain⟨q,rfl⟩:∃m',q=m'+1:=⟨q-1,by omega⟩;rw[zAp h hE hT D k (by omega) (by omega)]at ha hb ⊢
  have ha':=(zD9 _ _).1 ha;have hb':=(zD9 _ _).1 hb;show b_d _ _ ⟨x,m0,T⟩ k _ _=_;unfold b_d;have e:∀w:Vec,prE x k w=⟨zeros k,w⟩:=fun w=>by
   rw[prE,show x.zA.length-k=0 from by omega,K8,G7,fv,J9]
  rw[e,e,e];dsimp only
  rw[decide_eq_true (by omega),zQ,wJ (by omega),bs,hM.pr,zRG h hE hT ha' hb',bs,qO (by omega) D _ _ ha' hb',show x.zA.length=k from by omega];rfl
 |d+1,k,hk=>by
  obtain⟨h1,h2⟩:=zEc d (k+1) (by omega);have hI:∀q,2*(d+1)≤q→zRF D x m0 m T k (zNv q):=fun q hq=>by
   obtain⟨q,rfl⟩:∃m',q=m'+1:=⟨q-1,by omega⟩;exact zLB h hE hT hM (by omega) (h1 q (by omega))
  refine⟨fun q hq=>?_,fun _=>hI⟩;obtain⟨q,rfl⟩:∃m',q=m'+1:=⟨q-1,by omega⟩;exact zRH h hE hT hM (by omega) (h1 q (by omega)) (hI q (by omega))
theorem zHO{k:Nat}(hk:k≤x.zA.length):zRE D x m0 m T k f_d:=fun a b ha hb=>
 zBn (2*(x.zA.length-k)+1) fun q hq=>(zEc h hE hT hM (x.zA.length-k) k (by omega)).1 q hq a b ha hb
theorem zAI{k:Nat}(hk:k<x.zA.length):zRF D x m0 m T k f_h:=fun v hv=>
 zBn (2*(x.zA.length-k)) fun q hq=>(zEc h hE hT hM (x.zA.length-k) k (by omega)).2 (by omega) q hq v hv
end
end Go.Pl

namespace Go.Pl
open Go Go.Ab Go.Wk Go.Pc
structure GR (p:Int) (D:Nat) (Z:Vec→Prop) (L:Mx) (N:Nat) (C:Prop):Prop where
 len:L.length≤N
 row:∀r∈L,Row p D r
 iff:(∀r∈L,Z r)↔C
theorem GR.nil{p:Int}{D N:Nat}{Z:Vec→Prop}:GR p D Z [] N True:=⟨by simp,by simp,by simp⟩
theorem GR.app{p:Int}{D N M:Nat}{Z:Vec→Prop}{L L':Mx}{C C':Prop}(h:GR p D Z L N C)(h':GR p D Z L' M C'):GR p D Z (L++L') (N+M) (C∧C'):=by
 refine⟨by have:=h.len;have:=h'.len;rw[J5];omega,fun r hr=>?_,?_⟩
 ·rcases Jh.1 hr with g|g
  ·exact h.row r g
  ·exact h'.row r g
 ·rw[←h.iff,←h'.iff]
  exact⟨fun g=>⟨fun r hr=>g r (Gm _ hr),fun r hr=>g r (Lw _ hr)⟩,fun g r hr=>(Jh.1 hr).elim (g.1 r) (g.2 r)⟩
theorem GR.one{p:Int}{D:Nat}{Z:Vec→Prop}{r:List Int}{C:Prop}(hr:Row p D r)(h:Z r↔C):GR p D Z [r] 1 C:=
 ⟨by simp,fun q hq=>by rw[List.mem_singleton.1 hq];exact hr,by rw[←h];exact⟨fun g=>g r (by simp),fun g q hq=>by rw[List.mem_singleton.1 hq];exact g⟩⟩
theorem GR.to{p:Int}{D N M:Nat}{Z:Vec→Prop}{L:Mx}{C C':Prop}(h:GR p D Z L N C)(hN:N≤M)(hc:C↔C'):GR p D Z L M C':=⟨by have:=h.len;omega,h.row,h.iff.trans hc⟩
def c1E(e:SPr)(k j:Nat):Prop:=pw (mul (suf e (k+1))) (zeros (suf e (k+1)).length) ((lvl e k).cs.getD (j-(k+1)) []) (at0 e.zA j).toNat=sig (suf e (k+1)) (lvl e k) ((e.zS.getD j []).drop (k+1))
def c2E(e:SPr)(k i j:Nat):Prop:=mul (suf e (k+1)) ((lvl e k).cs.getD (j-(k+1)) []) ((lvl e k).cs.getD (i-(k+1)) [])=mul (suf e (k+1)) ((lvl e k).cs.getD (i-(k+1)) []) (sig (suf e (k+1)) (lvl e k) (((e.zC.getD i []).getD (j-(i+1)) []).drop (k+1)))
def c4E(e:SPr)(k j:Nat):Prop:=mul (suf e (k+1)) (lvl e k).w (iter (lvl e k).o.toNat (sig (suf e (k+1)) (lvl e k)) (xJ (e.zA.length-(k+1)) (j-(k+1))))=mul (suf e (k+1)) (xJ (e.zA.length-(k+1)) (j-(k+1))) (lvl e k).w
def c1Q(Q:Nat→Vec→Vec→Prop)(e:SPr)(k j:Nat):Prop:=Q (k+1) (pw (mul (suf e (k+1))) (zeros (suf e (k+1)).length) ((lvl e k).cs.getD (j-(k+1)) []) (at0 e.zA j).toNat) (sig (suf e (k+1)) (lvl e k) ((e.zS.getD j []).drop (k+1)))
def c2Q(Q:Nat→Vec→Vec→Prop)(e:SPr)(k i j:Nat):Prop:=Q (k+1) (mul (suf e (k+1)) ((lvl e k).cs.getD (j-(k+1)) []) ((lvl e k).cs.getD (i-(k+1)) [])) (mul (suf e (k+1)) ((lvl e k).cs.getD (i-(k+1)) []) (sig (suf e (k+1)) (lvl e k) (((e.zC.getD i []).getD (j-(i+1)) []).drop (k+1))))
def c4Q(Q:Nat→Vec→Vec→Prop)(e:SPr)(k j:Nat):Prop:=Q (k+1) (mul (suf e (k+1)) (lvl e k).w (iter (lvl e k).o.toNat (sig (suf e (k+1)) (lvl e k)) (xJ (e.zA.length-(k+1)) (j-(k+1))))) (mul (suf e (k+1)) (xJ (e.zA.length-(k+1)) (j-(k+1))) (lvl e k).w)
structure LCQ (Q:Nat→Vec→Vec→Prop) (x e:SPr) (k:Nat):Prop where
 c1:∀j,k+1≤j→j<x.zA.length→c1Q Q e k j
 c2:∀i,k+1≤i→i<x.zA.length→ ∀j,i+1≤j→j<x.zA.length→c2Q Q e k i j
 c3:Q (k+1) (sig (suf e (k+1)) (lvl e k) (lvl e k).w) (lvl e k).w
 c4:∀j,k+1≤j→j<x.zA.length→c4Q Q e k j
section
variable {D:Nat}{x:SPr}{m0 m:zH}{T:Mx} (h:Pres x) (hE:ExB x.zA.length D x m T) (hT:∀i,i<T.length→Row m.Prime D (T.getD i []))
 include h hE hT
theorem zBR{k:Nat}(hk:k≤x.zA.length){a b:Vec}(ha:V (suf (exx D x m T) k) a)(hb:V (suf (exx D x m T) k) b):(mul (suf (exx D x m T) k) a b).take (x.zA.length-k)=mul (suf x k) (a.take (x.zA.length-k)) (b.take (x.zA.length-k)):=zJN h hE hT _ k (by omega) a b ha hb
theorem zEd{k:Nat}(hk:k<x.zA.length){v:Vec}(hv:V (suf (exx D x m T) (k+1)) v):(sig (suf (exx D x m T) (k+1)) (lvl (exx D x m T) k) v).take (x.zA.length-(k+1))=sig (suf x (k+1)) (lvl x k) (v.take (x.zA.length-(k+1))):=
 zLA h hE hT hk (zJN h hE hT _ (k+1) (by omega)) hv
theorem zFA{k:Nat}(hk:k<x.zA.length){v:Vec}(hv:V (suf (exx D x m T) (k+1)) v):V (suf (exx D x m T) (k+1)) (sig (suf (exx D x m T) (k+1)) (lvl (exx D x m T) k) v):=by
 have hok:=vX h hE hT (k:=k) (by omega);rw[yF (x:=exx D x m T) (by rw[wH h hE hT];omega)]at hok;exact zC0 hok hv
theorem zJQ{k:Nat}(hk:k<x.zA.length):∀(q:Nat){v:Vec},V (suf (exx D x m T) (k+1)) v→(iter q (sig (suf (exx D x m T) (k+1)) (lvl (exx D x m T) k)) v).take (x.zA.length-(k+1))=iter q (sig (suf x (k+1)) (lvl x k)) (v.take (x.zA.length-(k+1)))
 |0,_,_=>rfl
 |q+1,v,hv=>by
  have:=zJQ hk q (zFA h hE hT hk hv);rw[zEd h hE hT hk hv]at this;exact this
theorem zTZ{k:Nat}(hk:k≤x.zA.length):(zeros (suf (exx D x m T) k).length).take (x.zA.length-k)=zeros (suf x k).length:=by
 rw[zAW h hE hT hk,Jm (zZ _),yN]
theorem zVr{k:Nat}(hk:k≤x.zA.length){c:Vec}(hc:V (suf (exx D x m T) k) c)(q:Nat):(pw (mul (suf (exx D x m T) k)) (zeros (suf (exx D x m T) k).length) c q).take (x.zA.length-k)=pw (mul (suf x k)) (zeros (suf x k).length) (c.take (x.zA.length-k)) q:=by
 have ok:=vX h hE hT (k:=k) (by omega);have:=zEP (S:=V (suf (exx D x m T) k)) (n:=mul (suf x k)) (·.take (x.zA.length-k)) (fun a b=>xC ok) (fun a b=>zBR h hE hT hk) [c] [(q:Int)] (zeros (suf (exx D x m T) k).length) (fun a ha=>by rw[List.mem_singleton.1 ha];exact hc) (wP ok);simp only[Jt,Hk,img,Jg]at this;rw[zTZ h hE hT hk]at this;exact this
section
variable {k:Nat} (hk:k<x.zA.length)
 include hk
theorem zJd{j:Nat}(h1:k+1≤j)(h2:j<x.zA.length):((lvl (exx D x m T) k).cs.getD (j-(k+1)) []).take (x.zA.length-(k+1))=(lvl x k).cs.getD (j-(k+1)) []:=by
 rw[zHL h hE hT hk h1 h2,Jm (vC h (by omega) (kN h hk h1 h2).2.2)]
theorem zHP{j:Nat}(h1:k≤j)(h2:j<x.zA.length):(((exx D x m T).zS.getD j []).drop (k+1)).take (x.zA.length-(k+1))=(x.zS.getD j []).drop (k+1):=by
 have t1:=(h.tl j h2).1.1.1;rw[zEb h hE hT h1 h2,Jm (by rw[Jx];omega)]
theorem zRI{i j:Nat}(h1:k+1≤i)(h2:i<j)(h3:j<x.zA.length):((((exx D x m T).zC.getD i []).getD (j-(i+1)) []).drop (k+1)).take (x.zA.length-(k+1))=((x.zC.getD i []).getD (j-(i+1)) []).drop (k+1):=by
 rw[zF9 h hE hT (by omega) h2 h3,Jm (vC h (by omega) (zRu h hk h1 h2 h3).2.2)]
theorem zRJ{j:Nat}(h1:k+1≤j)(h2:j<x.zA.length):xJ ((exx D x m T).zA.length-(k+1)) (j-(k+1))=xJ (x.zA.length-(k+1)) (j-(k+1))++zeros D:=by
 rw[wH h hE hT,zAm (by omega),zAm (by omega),Ja,Jn];simp only[zeros,Ju];rw[show x.zA.length+D-(k+1)-(j-(k+1)+1)=x.zA.length-(k+1)-(j-(k+1)+1)+D from by omega]
end
variable (hM:Mv D x.zA.length m0 m) {Z:Vec→Prop}{Q:Nat→Vec→Vec→Prop} (hZ:∀k,k≤x.zA.length→ ∀a b,V (suf (exx D x m T) k) a→V (suf (exx D x m T) k) b→a.take (x.zA.length-k)=b.take (x.zA.length-k)→(Z (sK m.Prime D (a.drop (x.zA.length-k)) (-1) (b.drop (x.zA.length-k)))↔Q k a b))
 include hM hZ
theorem zJR{k:Nat}(hk:k≤x.zA.length){a b:Vec}(ha:V (suf (exx D x m T) k) a)(hb:V (suf (exx D x m T) k) b)(e:a.take (x.zA.length-k)=b.take (x.zA.length-k)):∃r,f_X ⟨x,m0,T⟩ (prE x k a) (prE x k b)=some r∧Row m.Prime D r∧(Z r↔Q k a b):=by
 have h7:=hE.m.p.pos;have h3:=hE.m.d3;obtain⟨y,u,rfl,hy,hu,hpr,hyl⟩:=prV h hE hT hk ha;obtain⟨z,v,rfl,hz,hv,hpr2,hzl⟩:=prV h hE hT hk hb;have hz0:=hZ k hk _ _ ha hb e;rw[K3 hyl,K3 hzl]at hz0;unfold f_X;rw[hpr,hpr2];dsimp only
 rw[hM.pr,zE (by omega) (by omega),bs,kP hE.m.p hu hv (by omega) (by omega),bs,zMN];exact⟨_,rfl,zCG hE.m.p,hz0⟩
section
variable {k:Nat} (hk:k<x.zA.length) (hc:LC x k)
 include hk
 include hc
theorem zZ4{j:Nat}(h1:k+1≤j)(h2:j<x.zA.length){L0 L:Mx}{N:Nat}{C:Prop}(hL:GR m.Prime D Z L N C)(hN:N≤1000){f:Mx→Option (Mx×Int⊕Mx)}:∃L',((zMf ⟨x,m0,T⟩).bind fun r2=>
  (zJ (zPQ ⟨x,m0,T⟩ (k:Int) (L0,(j:Int))) (r2.x,r2.v,0)).bind fun r8=>
  (zNu ⟨x,m0,T⟩ (j:Int)).bind fun r9=>
  (f_h ⟨x,m0,T⟩ (k:Int) r9).bind fun r10=>
  (f_X ⟨x,m0,T⟩ (zI.mk r8.1 r8.2) r10).bind fun r11=>
  (wK L [r11]).bind f)=f L'∧GR m.Prime D Z L' (N+1) (C∧c1Q Q (exx D x m T) k j):=by
 have ok:=vX h hE hT (k:=k+1) (by omega);have hn:=hE.hn;have hp:=(h.os.2 j h2).pos;have hz:=wP ok;obtain⟨c1,c2⟩:=zES h hE hT (k:=k) (j:=j) (by omega) h2;obtain⟨p1,p2⟩:=zJO h hE hT (k:=k) (j:=j) (by omega) h2;have hA:=zHO h hE hT hM (k:=k+1) (by omega);have hI:=zAI h hE hT hM hk;have hlp:zJ (zPQ ⟨x,m0,T⟩ (k:Int) (L0,(j:Int))) ((prE x (k+1) (zeros (suf (exx D x m T) (k+1)).length)).x,(prE x (k+1) (zeros (suf (exx D x m T) (k+1)).length)).v,0)=some ((prE x (k+1) (pw (mul (suf (exx D x m T) (k+1))) (zeros (suf (exx D x m T) (k+1)).length) ((lvl (exx D x m T) k).cs.getD (j-(k+1)) []) (at0 x.zA j).toNat)).x,(prE x (k+1) (pw (mul (suf (exx D x m T) (k+1))) (zeros (suf (exx D x m T) (k+1)).length) ((lvl (exx D x m T) k).cs.getD (j-(k+1)) []) (at0 x.zA j).toNat)).v):=
  zBQ (S:=V (suf (exx D x m T) (k+1))) (fun w=>(prE x (k+1) w).x) (fun w=>(prE x (k+1) w).v) (fun w=>mul (suf (exx D x m T) (k+1)) w ((lvl (exx D x m T) k).cs.getD (j-(k+1)) [])) (at0 x.zA j) (by omega) (fun w hw=>xC ok hw c2) (fun w q hw hq=>by
   unfold zPQ;dsimp only
   rw[xD h2,bs,decide_eq_true hq,zQ,zE (by omega) (by omega),bs,c1,bs,cs,show(zI.mk (prE x (k+1) w).x (prE x (k+1) w).v)=prE x (k+1) w from rfl,hA w _ hw c2,bs,zE (by omega) (by omega),bs,cs]) (fun w hw=>by
   unfold zPQ;dsimp only
   rw[xD h2,bs,decide_eq_false (by omega),zL]) hz
 have hpw:V (suf (exx D x m T) (k+1)) (pw (mul (suf (exx D x m T) (k+1))) (zeros (suf (exx D x m T) (k+1)).length) ((lvl (exx D x m T) k).cs.getD (j-(k+1)) []) (at0 x.zA j).toNat):=vL (fun w hw=>xC ok hw c2) _ hz;obtain⟨r,r1,r2,r3⟩:=zJR h hE hT hM hZ (k:=k+1) (by omega) hpw (zFA h hE hT hk p2) (by
  rw[zVr h hE hT (by omega) c2,zEd h hE hT hk p2,zJd h hE hT hk h1 h2,zHP h hE hT hk (by omega) h2];exact hc.c1 j h1 h2)
 have hll:=hL.len;refine⟨L++[r],?_,hL.app (GR.one r2 (r3.trans ?_))⟩
 ·rw[zJP h hE hT (k:=k+1) (by omega) (by omega),bs,hlp,bs,p1,bs,hI _ p2,bs]
  dsimp only
  rw[r1,bs,xK (by simp;omega),bs]
 ·unfold c1Q;rw[tA h hE hT h2]
theorem zZ5{j:Nat}(h1:k+1≤j)(h2:j<x.zA.length){L0 L:Mx}{N:Nat}{C:Prop}(hL:GR m.Prime D Z L N C)(hN:N≤1000):∃L',zJ (zPR ⟨x,m0,T⟩ (k:Int) (L0,(j:Int))) (L,((j+1:Nat):Int))=some L'∧GR m.Prime D Z L' (N+(x.zA.length-(j+1))) (C∧ ∀j2,j+1≤j2→j2<x.zA.length→c2Q Q (exx D x m T) k j j2):=by
 have ok:=vX h hE hT (k:=k+1) (by omega);have hn:=hE.hn;have hA:=zHO h hE hT hM (k:=k+1) (by omega);have hI:=zAI h hE hT hM hk;refine tD (fun i(s:Mx×Int)=>s.2=((j+1+i:Nat):Int)∧GR m.Prime D Z s.1 (N+i) (C∧ ∀j2,j+1≤j2→j2<j+1+i→c2Q Q (exx D x m T) k j j2)) (x.zA.length-(j+1)) (fun i s hi ⟨hs,hg⟩=>?_) (fun s ⟨hs,hg⟩=>?_) ⟨rfl,hL.to (by omega) ⟨fun g=>⟨g,fun j2 a b=>by omega⟩,fun g=>g.1⟩⟩
 ·left
  obtain⟨L1,s2⟩:=s;dsimp only at hs hg;subst hs;have g2:j+1+i<x.zA.length:=by omega
  obtain⟨a1,a2⟩:=zES h hE hT (k:=k) (j:=j) (by omega) h2;obtain⟨b1,b2⟩:=zES h hE hT (k:=k) (j:=j+1+i) (by omega) g2;obtain⟨d1,d2⟩:=zO4 h hE hT (k:=k) (i:=j) (j:=j+1+i) (by omega) (by omega) g2;have hs:=zFA h hE hT hk d2;obtain⟨r,r1,r2,r3⟩:=zJR h hE hT hM hZ (k:=k+1) (by omega) (xC ok b2 a2) (xC ok a2 hs) (by
   rw[zBR h hE hT (by omega) b2 a2,zBR h hE hT (by omega) a2 hs,zEd h hE hT hk d2,zJd h hE hT hk h1 h2,zJd h hE hT hk (by omega) g2,zRI h hE hT hk h1 (by omega) g2];exact hc.c2 j h1 h2 (j+1+i) (by omega) g2)
  have hll:=hg.len;refine⟨(L1++[r],((j+1+i+1:Nat):Int)),?_,rfl,(hg.app (GR.one r2 r3)).to (by omega) ?_⟩
  ·unfold zPR
   dsimp only
   rw[decide_eq_true (by omega),zQ,a1,bs,b1,bs,d1,bs,hI _ d2,bs,zE (by omega) (by omega),bs,cs,hA _ _ b2 a2,bs,bs,hA _ _ a2 hs,bs,r1,bs,xK (by simp;omega),bs,zE (by omega) (by omega),bs,cs]
  ·constructor
   ·rintro⟨⟨g1,g3⟩,g4⟩
    refine⟨g1,fun j2 e1 e2=>?_⟩;rcases Jk j2 (j+1+i)with e|e
    ·exact g3 j2 e1 e
    ·obtain rfl:j2=j+1+i:=by omega
     exact g4
   ·rintro⟨g1,g3⟩
    exact⟨⟨g1,fun j2 e1 e2=>g3 j2 e1 (by omega)⟩,g3 (j+1+i) (by omega) (by omega)⟩
 ·obtain⟨L1,s2⟩:=s
  dsimp only at hs hg;subst hs;refine⟨L1,?_,hg.to (Jp _) ?_⟩
  ·unfold zPR
   dsimp only
   rw[decide_eq_false (by omega),zL]
  ·rw[show j+1+(x.zA.length-(j+1))=x.zA.length from by omega]
theorem zZ6:∃L',zJ (zTm ⟨x,m0,T⟩ (k:Int)) ([],((k+1:Nat):Int))=some L'∧GR m.Prime D Z L' 100 (∀j,k+1≤j→j<x.zA.length→c1Q Q (exx D x m T) k j∧ ∀j2,j+1≤j2→j2<x.zA.length→c2Q Q (exx D x m T) k j j2):=by
 have hn:=hE.hn;refine tD (fun i(s:Mx×Int)=>s.2=((k+1+i:Nat):Int)∧GR m.Prime D Z s.1 (7*i) (∀j,k+1≤j→j<k+1+i→c1Q Q (exx D x m T) k j∧ ∀j2,j+1≤j2→j2<x.zA.length→c2Q Q (exx D x m T) k j j2)) (x.zA.length-(k+1)) (fun i s hi ⟨hs,hg⟩=>?_) (fun s ⟨hs,hg⟩=>?_) ⟨rfl,(GR.nil (N:=0)).to (by omega) ⟨fun _ j a b=>by omega,fun _=>trivial⟩⟩
 ·left
  obtain⟨L1,s2⟩:=s;dsimp only at hs hg;subst hs;have g2:k+1+i<x.zA.length:=by omega
  obtain⟨L2,e2,hg2⟩:=zZ4 h hE hT hM hZ hk hc (j:=k+1+i) (by omega) g2 (L0:=L1) hg (by omega) (f:=fun v12=>(rng (((k+1+i:Nat):Int)+1)).bind fun v13=>
   (zJ (zPR ⟨x,m0,T⟩ (k:Int) (L1,((k+1+i:Nat):Int))) (v12,v13)).bind fun r25=>
   (rng (((k+1+i:Nat):Int)+1)).bind fun v26=>some (.inl (r25,v26)))
  obtain⟨L3,e3,hg3⟩:=zZ5 h hE hT hM hZ hk hc (j:=k+1+i) (by omega) g2 (L0:=L1) hg2 (by omega);refine⟨(L3,((k+1+i+1:Nat):Int)),?_,rfl,hg3.to (by omega) ?_⟩
  ·unfold zTm
   dsimp only
   rw[decide_eq_true (by omega),zQ,e2,zE (by omega) (by omega),bs,cs,e3,bs,bs]
  ·constructor
   ·rintro⟨⟨g1,g3⟩,g4⟩ j e1 e2
    rcases Jk j (k+1+i)with e|e
    ·exact g1 j e1 e
    ·obtain rfl:j=k+1+i:=by omega
     exact⟨g3,g4⟩
   ·intro g
    have:=g (k+1+i) (by omega) (by omega);exact⟨⟨fun j e1 e2=>g j e1 (by omega),this.1⟩,this.2⟩
 ·obtain⟨L1,s2⟩:=s
  dsimp only at hs hg;subst hs;refine⟨L1,?_,hg.to (by omega) ?_⟩
  ·unfold zTm
   dsimp only
   rw[decide_eq_false (by omega),zL]
  ·rw[show k+1+(x.zA.length-(k+1))=x.zA.length from by omega]
theorem zRK{j:Nat}(h1:k+1≤j)(h2:j<x.zA.length):∃r,zMf ⟨x,m0,T⟩=some r∧ixO r.x (j:Int)=some 0∧r.x.set j 1=(prE x (k+1) (xJ (x.zA.length-(k+1)) (j-(k+1))++zeros D)).x∧r.v=(prE x (k+1) (xJ (x.zA.length-(k+1)) (j-(k+1))++zeros D)).v:=by
 have _:=hM;have _:=hZ;have _:=hc;have hn:=hE.hn;have hul:(xJ (x.zA.length-(k+1)) (j-(k+1))).length=x.zA.length-(k+1):=by rw[kR,yD]
 refine⟨_,zJP h hE hT (k:=k+1) (by omega) (by omega),?_,?_,?_⟩
 ·rw[zAW h hE hT (by omega),qB (zZ _)]
  dsimp only
  simp only[fv,zeros,Ju];rw[uR,Kz,if_pos (by omega)]
 ·rw[zAW h hE hT (by omega),qB (zZ _),qB hul]
  dsimp only
  have e1:fv (k+1) (zeros (x.zA.length-(k+1)))=zeros j++0::zeros (x.zA.length-(k+1)-(j-(k+1)+1)):=by
   simp only[fv,zeros];rw[←Jq,Ju,Ju]
   congr 1;omega
  rw[e1,zD6,fv,zAm (by omega),←Ja];simp only[zeros,Ju];rw[show k+1+(j-(k+1))=j from by omega]
 ·rw[zAW h hE hT (by omega),qB (zZ _),qB hul]
theorem zZ7{L:Mx}{N:Nat}{C:Prop}(hL:GR m.Prime D Z L N C)(hN:N≤1000):∃L',zJ (zPS ⟨x,m0,T⟩ (k:Int) (prE x (k+1) (((exx D x m T).zS.getD k []).drop (k+1)))) (L,((k+1:Nat):Int))=some L'∧GR m.Prime D Z L' (N+(x.zA.length-(k+1))) (C∧ ∀j,k+1≤j→j<x.zA.length→c4Q Q (exx D x m T) k j):=by
 have hn:=hE.hn;have hpk:=(h.os.2 k hk).pos;have h7:=hE.m.p.pos;have ok:=vX h hE hT (k:=k+1) (by omega);have hA:=zHO h hE hT hM (k:=k+1) (by omega);have hI:=zAI h hE hT hM hk;obtain⟨p1,p2⟩:=zJO (m0:=m0) h hE hT (k:=k) (j:=k) (Jp k) hk;change V (suf (exx D x m T) (k+1)) (lvl (exx D x m T) k).w at p2;change∃L',zJ (zPS ⟨x,m0,T⟩ (k:Int) (prE x (k+1) (lvl (exx D x m T) k).w)) (L,((k+1:Nat):Int))=some L'∧_;have htw:(lvl (exx D x m T) k).w.take (x.zA.length-(k+1))=(lvl x k).w:=zHP h hE hT hk (Jp k) hk;have ho:(lvl (exx D x m T) k).o=at0 x.zA k:=zBy h hE hT hk;refine tD (fun i(s:Mx×Int)=>s.2=((k+1+i:Nat):Int)∧GR m.Prime D Z s.1 (N+i) (C∧ ∀j,k+1≤j→j<k+1+i→c4Q Q (exx D x m T) k j)) (x.zA.length-(k+1)) (fun i s hi ⟨hs,hg⟩=>?_) (fun s ⟨hs,hg⟩=>?_) ⟨rfl,hL.to (by omega) ⟨fun g=>⟨g,fun j2 a b=>by omega⟩,fun g=>g.1⟩⟩
 ·left
  obtain⟨L1,s2⟩:=s;dsimp only at hs hg;subst hs;have g2:k+1+i<x.zA.length:=by omega
  obtain⟨r33,z1,z2,z3,z4⟩:=zRK h hE hT hM hZ hk hc (j:=k+1+i) (by omega) g2;have hue:=zRJ h hE hT hk (j:=k+1+i) (by omega) g2;have hux:V (suf x (k+1)) (xJ (x.zA.length-(k+1)) (k+1+i-(k+1))):=by
   have:=zCz (h.okAt (k:=k+1) (by omega)) (j:=k+1+i-(k+1)) (by rw[yN];omega)
   rwa [yN]at this
  have hul:=vC h (by omega) hux;have huV:V (suf (exx D x m T) (k+1)) (xJ (x.zA.length-(k+1)) (k+1+i-(k+1))++zeros D):=(sG h hE hT (x.zA.length-(k+1)) (k+1) (by omega) _).2 ⟨_,_,rfl,hux,xL (by omega)⟩;have hit:V (suf (exx D x m T) (k+1)) (iter (at0 x.zA k).toNat (sig (suf (exx D x m T) (k+1)) (lvl (exx D x m T) k)) (xJ (x.zA.length-(k+1)) (k+1+i-(k+1))++zeros D)):=vL (fun w hw=>zFA h hE hT hk hw) _ huV;have hlp:zJ (zTn ⟨x,m0,T⟩ (k:Int)) ((prE x (k+1) (xJ (x.zA.length-(k+1)) (k+1+i-(k+1))++zeros D)).x,(prE x (k+1) (xJ (x.zA.length-(k+1)) (k+1+i-(k+1))++zeros D)).v,0)=some ((prE x (k+1) (iter (at0 x.zA k).toNat (sig (suf (exx D x m T) (k+1)) (lvl (exx D x m T) k)) (xJ (x.zA.length-(k+1)) (k+1+i-(k+1))++zeros D))).x,(prE x (k+1) (iter (at0 x.zA k).toNat (sig (suf (exx D x m T) (k+1)) (lvl (exx D x m T) k)) (xJ (x.zA.length-(k+1)) (k+1+i-(k+1))++zeros D))).v):=
   zBQ (S:=V (suf (exx D x m T) (k+1))) (fun w=>(prE x (k+1) w).x) (fun w=>(prE x (k+1) w).v) (sig (suf (exx D x m T) (k+1)) (lvl (exx D x m T) k)) (at0 x.zA k) (by omega) (fun w hw=>zFA h hE hT hk hw) (fun w q hw hq=>by
    unfold zTn;dsimp only
    rw[xD hk,bs,decide_eq_true hq,zQ,show(zI.mk (prE x (k+1) w).x (prE x (k+1) w).v)=prE x (k+1) w from rfl,hI w hw,bs,zE (by omega) (by omega),bs,cs]) (fun w hw=>by
    unfold zTn;dsimp only
    rw[xD hk,bs,decide_eq_false (by omega),zL]) huV
  obtain⟨r,r1,r2,r3⟩:=zJR h hE hT hM hZ (k:=k+1) (by omega) (xC ok p2 hit) (xC ok huV p2) (by
   rw[zBR h hE hT (by omega) p2 hit,zBR h hE hT (by omega) huV p2,zJQ h hE hT hk _ huV,htw,Jm hul];exact hc.c4 (k+1+i) (by omega) g2)
  have hll:=hg.len;refine⟨(L1++[r],((k+1+i+1:Nat):Int)),?_,rfl,(hg.app (GR.one r2 r3)).to (by omega) ?_⟩
  ·unfold zPS
   dsimp only
   rw[decide_eq_true (by omega),zQ,z1,bs,z2,bs,Jg,z3,z4,hlp,bs,zE (by omega) (by omega),bs,cs];dsimp only
   have e1:=hA _ _ p2 hit;have e2:=hA _ _ huV p2;rw[show∀w,(zI.mk (prE x (k+1) w).x (prE x (k+1) w).v)=prE x (k+1) w from fun _=>rfl,show∀w,(zI.mk (prE x (k+1) w).x (prE x (k+1) w).v)=prE x (k+1) w from fun _=>rfl,e1,bs,bs,e2,bs,r1,bs,xK (by simp;omega),bs,zE (by omega) (by omega),bs,cs]
  ·have e4:c4Q Q (exx D x m T) k (k+1+i)↔Q (k+1) (mul (suf (exx D x m T) (k+1)) (lvl (exx D x m T) k).w (iter (at0 x.zA k).toNat (sig (suf (exx D x m T) (k+1)) (lvl (exx D x m T) k)) (xJ (x.zA.length-(k+1)) (k+1+i-(k+1))++zeros D))) (mul (suf (exx D x m T) (k+1)) (xJ (x.zA.length-(k+1)) (k+1+i-(k+1))++zeros D) (lvl (exx D x m T) k).w):=by
    unfold c4Q;rw[hue,ho]
   rw[←e4];constructor
   ·rintro⟨⟨g1,g3⟩,g4⟩
    refine⟨g1,fun j2 e1 e2=>?_⟩;rcases Jk j2 (k+1+i)with e|e
    ·exact g3 j2 e1 e
    ·obtain rfl:j2=k+1+i:=by omega
     exact g4
   ·rintro⟨g1,g3⟩
    exact⟨⟨g1,fun j2 e1 e2=>g3 j2 e1 (by omega)⟩,g3 (k+1+i) (by omega) (by omega)⟩
 ·obtain⟨L1,s2⟩:=s
  dsimp only at hs hg;subst hs;refine⟨L1,?_,hg.to (Jp _) ?_⟩
  ·unfold zPS
   dsimp only
   rw[decide_eq_false (by omega),zL]
  ·rw[show k+1+(x.zA.length-(k+1))=x.zA.length from by omega]
theorem zWA:∃L,f_l ⟨x,m0,T⟩ (k:Int)=some L∧GR m.Prime D Z L 120 (LCQ Q x (exx D x m T) k):=by
 have hn:=hE.hn;have hI:=zAI h hE hT hM hk;obtain⟨p1,p2⟩:=zJO h hE hT (k:=k) (j:=k) (Jp k) hk;obtain⟨L1,e1,g1⟩:=zZ6 h hE hT hM hZ hk hc;have hs:=zFA h hE hT hk p2;obtain⟨r,r1,r2,r3⟩:=zJR h hE hT hM hZ (k:=k+1) (by omega) hs p2 (by
  rw[zEd h hE hT hk p2,zHP h hE hT hk (Jp k) hk];exact hc.c3)
 obtain⟨L2,e2,g2⟩:=zZ7 h hE hT hM hZ hk hc (g1.app (GR.one r2 r3)) (by omega);have hll:=g1.len;refine⟨L2,?_,g2.to (by omega) ?_⟩
 ·unfold f_l
  rw[zE (by omega) (by omega),bs,cs,e1,bs,p1,bs,hI _ p2,bs,r1,bs,xK (by simp;omega),bs,bs,e2,bs]
 ·constructor
  ·rintro⟨⟨a1,a2⟩,a3⟩
   exact⟨fun j b1 b2=>(a1 j b1 b2).1,fun i b1 b2 j b3 b4=>(a1 i b1 b2).2 j b3 b4,a2,a3⟩
  ·intro a
   exact⟨⟨fun j b1 b2=>⟨a.c1 j b1 b2,fun j2 b3 b4=>a.c2 j b1 b2 j2 b3 b4⟩,a.c3⟩,a.c4⟩
end
theorem zWB(hx:wR (suf x 0)):∃L,f_K ⟨x,m0,T⟩=some L∧GR m.Prime D Z L 1000 (∀k,k<x.zA.length→LCQ Q x (exx D x m T) k):=by
 have hn:=hE.hn;have h3:=hE.m.d3;have hlc:∀k,k<x.zA.length→LC x k:=fun k hk=>((zA4 h.w hk).1 (zBt hx k)).2
 obtain⟨L,e,g⟩:=tD (body:=zPT ⟨x,m0,T⟩) (Q:=fun L=>GR m.Prime D Z L 1000 (∀k,k<x.zA.length→LCQ Q x (exx D x m T) k)) (fun i(s:Mx×Int)=>s.2=(i:Int)∧GR m.Prime D Z s.1 (120*i) (∀k,k<i→LCQ Q x (exx D x m T) k)) x.zA.length (fun i s hi ⟨hs,hg⟩=>by
  left;obtain⟨L1,s2⟩:=s;dsimp only at hs hg;subst hs;obtain⟨L2,e2,g2⟩:=zWA h hE hT hM hZ hi (hlc i hi);have l1:=hg.len;have l2:=g2.len;refine⟨(L1++L2,((i+1:Nat):Int)),?_,rfl,(hg.app g2).to (by omega) ?_⟩
  ·unfold zPT
   dsimp only
   rw[xV hi,zQ,e2,bs,xK (by omega),bs,zE (by omega) (by omega),bs,cs]
  ·constructor
   ·rintro⟨a1,a2⟩ k hk
    rcases Jk k i with e|e
    ·exact a1 k e
    ·obtain rfl:k=i:=by omega
     exact a2
   ·exact fun a=>⟨fun k hk=>a k (by omega),a i (by omega)⟩) (fun s ⟨hs,hg⟩=>by
  obtain⟨L1,s2⟩:=s;dsimp only at hs hg;subst hs;refine⟨L1,?_,hg.to (by omega) Iff.rfl⟩;unfold zPT;dsimp only
  rw[wC,zL]) (s:=([],0)) ⟨rfl,(GR.nil (N:=0)).to (by omega) ⟨fun _ k hk=>by omega,fun _=>trivial⟩⟩
 exact⟨L,by unfold f_K;rw[e,bs],g⟩
end
end Go.Pl

namespace Go.Pl
open Go Go.Ab Go.Wk Go.Pc
end Go.Pl

namespace Go.Pl
open Go Go.Ab Go.Wk Go.Pc
end Go.Pl

namespace Go.Pl
open Go Go.Ab Go.Wk Go.Pc
end Go.Pl

namespace Go.Pl
open Go Go.Ab Go.Wk Go.Pc
end Go.Pl

namespace Go.Pl
open Go Go.Ab Go.Wk Go.Pc
end Go.Pl

namespace Go.Pl
open Go Go.Ab Go.Wk Go.Pc
end Go.Pl

namespace Go.Pl
open Go Go.Ab Go.Wk Go.Pc
abbrev zEe:=Nat×List Nat×List Nat
section
variable (x:SPr)
abbrev yI(a:Nat):Nat:=(at0 x.zA a).toNat
abbrev lcj(i j:Nat):List Int:=(x.zC.getD i []).getD (j-(i+1)) []
def swp:List Nat→Option zEe
 |a::b::s=>if b<a then some (base x.zA.length b+(a-(b+1)),s,b::(nw 0 (lcj x b a)++s))else none
 |_=>none
def pws:List Nat→Option zEe
 |a::w=>if(a::w).take (yI x a)=J1 (yI x a) a then some (a,(a::w).drop (yI x a),nw 0 (x.zS.getD a [])++(a::w).drop (yI x a))else none
 | []=>none
def hdS(w:List Nat):Option zEe:=match swp x w with
 |some r=>some r
 |none=>pws x w
def stS:List Nat→Option zEe
 | []=>none
 |a::w=>match hdS x (a::w)with
  |some r=>some r
  |none=>(stS w).map fun r=>(r.1,r.2.1,a::r.2.2)
end
section
variable {x:SPr}
theorem zUa{w s:List Nat}{r:zEe}(h:swp x w=some r):swp x (w++s)=some (r.1,r.2.1++s,r.2.2++s):=by
 match w,h with
 | [],h=>cases h
 | [_],h=>cases h
 |a::b::w,h=>
  simp only[swp]at h
  by_cases g:b<a
  ·rw[if_pos g]at h
   cases h;simp only[Jn,swp,if_pos g,Ja]
  ·rw[if_neg g]at h;cases h
theorem zBz{w:List Nat}{o a:Nat}(h:w.take o=J1 o a):o≤w.length:=by
 have:=congrArg Jdh h;rw[Jy,Ji]at this;omega
theorem zUb{w s:List Nat}{r:zEe}(h:pws x w=some r):pws x (w++s)=some (r.1,r.2.1++s,r.2.2++s):=by
 match w,h with
 | [],h=>cases h
 |a::w,h=>
  simp only[pws]at h
  by_cases g:(a::w).take (yI x a)=J1 (yI x a) a
  ·rw[if_pos g]at h
   cases h;have hl:=zBz g;have e1:(a::(w++s)).take (yI x a)=(a::w).take (yI x a):=by
    rw[←Jn,Hb hl]
   have e2:(a::(w++s)).drop (yI x a)=(a::w).drop (yI x a)++s:=by
    rw[←Jn,Kt hl]
   simp only[Jn,pws];rw[if_pos (by rw[e1,g]),e2,Ja]
  ·rw[if_neg g]at h;cases h
theorem zET{a b:Nat}{s s2:List Nat}(h:swp x (a::b::s)=none):swp x (a::b::s2)=none:=by
 simp only[swp]at h ⊢
 by_cases g:b<a
 ·rw[if_pos g]at h;cases h
 ·rw[if_neg g]
theorem zO5{w:List Nat}(h:hdS x w=none):swp x w=none∧pws x w=none:=by
 unfold hdS at h;cases e:swp x w with
 |some r=>rw[e]at h;cases h
 |none=>rw[e]at h;exact⟨rfl,h⟩
theorem zRL{w:List Nat}(h1:swp x w=none)(h2:pws x w=none):hdS x w=none:=by
 unfold hdS;rw[h1];exact h2
theorem zWC{w s:List Nat}(hw:∀a∈w,2≤yI x a){r:zEe}(h:hdS x w=some r):hdS x (w++s)=some (r.1,r.2.1++s,r.2.2++s):=by
 unfold hdS at h ⊢
 cases e:swp x w with
 |some q=>
  rw[e]at h;cases h;rw[zUa e]
 |none=>
  rw[e]at h;have e2:swp x (w++s)=none:=by
   match w,h with
   | [],h=>cases h
   | [a],h=>
    have h2:=hw a (by simp);simp only[pws]at h
    by_cases g:[a].take (yI x a)=J1 (yI x a) a
    ·have h4:=zBz g;simp only[J7,K0]at h4;omega
    ·rw[if_neg g]at h;cases h
   |a::b::w,h=>exact zET e
  rw[e2];exact zUb h
theorem zEf{k a:Nat}(hk:k<yI x a):∀j,j≤k→ ∀{w:List Nat},(∀b,w.head? =some b→a<b)→stS x (J1 j a++w)=(stS x w).map fun r=>(r.1,r.2.1,J1 j a++r.2.2)
 |0,_,w,_=>by
  simp only[Hc,Jj];cases stS x w with
  |none=>rfl
  |some r=>rfl
 |j+1,hj,w,hw=>by
  have ih:=zEf hk j (by omega) hw;rw[Jq,Jn];have h1:swp x (a::(J1 j a++w))=none:=by
   cases j with
   |succ j=>simp only[Jq,Jn,swp,if_neg (Jc6 a)]
   |zero=>
    simp only[Hc,Jj];cases w with
    |nil=>rfl
    |cons b w=>
     have:=hw b rfl;simp only[swp,if_neg (show¬b<a by omega)]
  have h2:pws x (a::(J1 j a++w))=none:=by
   simp only[pws];refine if_neg fun g=>?_
   have hl:=zBz g;have:=congrArg (fun l=>l[j+1]?) g;rw[Uh (by omega),←Jn,←Jq,J8 (by simp),Ji,Kr,Ja1 (by omega)]at this;have:=hw a (by rw[List.head?_eq_getElem?];exact this);omega
  simp only[stS];rw[zRL h1 h2,ih];cases stS x w with
  |none=>rfl
  |some r=>rfl
theorem zWD{k a:Nat}(hk:k<yI x a):stS x (J1 k a)=none:=by
 have:=zEf hk k (Jp _) (w:=[]) (fun b h=>by cases h);simpa[stS]using this
theorem zJS:∀{u s:List Nat},(∀a∈u,2≤yI x a)→ ∀{r:zEe},stS x u=some r→stS x (u++s)=some (r.1,r.2.1++s,r.2.2++s)
 | [],_,_,_,h=>by cases h
 |a::w,s,hu,r,h=>by
  simp only[stS]at h;rw[Jn];simp only[stS];cases e:hdS x (a::w)with
  |some q=>
   rw[e]at h;cases h;have:=zWC (s:=s) hu e;rw[Jn]at this;rw[this]
  |none=>
   rw[e]at h;cases e2:stS x w with
   |none=>rw[e2]at h;cases h
   |some q=>
    rw[e2]at h;cases h;obtain⟨n1,n2⟩:=zO5 e;have m1:swp x (a::(w++s))=none:=by
     cases w with
     |nil=>cases e2
     |cons b w=>exact zET n1
    have m2:pws x (a::(w++s))=none:=by
     simp only[pws]at n2 ⊢
     refine if_neg fun g=>?_
     by_cases hl:yI x a≤(a::w).length
     ·rw[←Jn,Hb hl]at g
      rw[if_pos g]at n2;cases n2
     ·have:a::w=J1 (a::w).length a:=by
       have g':=congrArg (Jbs (a::w).length) g;rw[List.take_take,Gd (by omega),←Jn,Jm rfl,List.take_replicate,Gd (by omega)]at g';exact g'
      have hw:w=J1 w.length a:=by
       rw[J7,Jq]at this;exact(Qu.inj this).2
      rw[hw,zWD (by simp only[J7]at hl;omega)]at e2;cases e2
    rw[zRL m1 m2,zJS (s:=s) (fun b hb=>hu b (by simp[hb])) e2];rfl
theorem zGd{u s:List Nat}(hu:∀a∈u,2≤yI x a)(h:stS x (u++s)=none):stS x u=none:=by
 cases e:stS x u with
 |none=>rfl
 |some r=>rw[zJS hu e]at h;cases h
theorem zRM:∀{u:List Nat}{l i:Nat}{z:List Nat},(∀a∈u,i<a)→i<l→stS x (u++[l])=none→stS x (u++l::i::z)=some (base x.zA.length i+(l-(i+1)),z,u++i::(nw 0 (lcj x i l)++z))
 | [],l,i,z,_,hl,_=>by
  simp only[Jj,stS,hdS,swp,if_pos hl]
 |a::u,l,i,z,hu,hl,hn=>by
  rw[Jn]at hn ⊢
  simp only[stS]at hn ⊢
  cases e:hdS x (a::(u++[l]))with
  |some q=>rw[e]at hn;cases hn
  |none=>
   rw[e]at hn;have hn2:stS x (u++[l])=none:=by
    cases e2:stS x (u++[l])with
    |none=>rfl
    |some q=>rw[e2]at hn;cases hn
   obtain⟨n1,n2⟩:=zO5 e;have m1:swp x (a::(u++l::i::z))=none:=by
    cases u with
    |nil=>exact zET n1
    |cons b u=>exact zET n1
   have m2:pws x (a::(u++l::i::z))=none:=by
    simp only[pws]at n2 ⊢
    refine if_neg fun g=>?_
    have ea:a::(u++l::i::z)=(a::(u++[l]))++i::z:=by simp
    by_cases ho:yI x a≤(a::(u++[l])).length
    ·rw[ea,Hb ho]at g
     rw[if_pos g]at n2;cases n2
    ·have g':=congrArg (fun w=>w[(a::(u++[l])).length]?) g
     rw[Uh (by omega),ea,J8 (Jp _),Kr,Ja1 (by omega)]at g';have:i=a:=by simpa using g'
     have:=hu a (by simp);omega
   rw[zRL m1 m2,zRM (fun b hb=>hu b (by simp[hb])) hl hn2];rfl
theorem zVs{a:Nat}(ha:2≤yI x a)(w:List Nat):stS x (J1 (yI x a) a++w)=some (a,w,nw 0 (x.zS.getD a [])++w):=by
 obtain⟨k,hk⟩:∃k,yI x a=k+2:=⟨yI x a-2,by omega⟩;have e:J1 (yI x a) a++w=a::a::(J1 k a++w):=by rw[hk,Jq,Jq];rfl
 have h1:swp x (J1 (yI x a) a++w)=none:=by
  rw[e];simp only[swp,if_neg (Jc6 a)]
 have h2:pws x (J1 (yI x a) a++w)=some (a,w,nw 0 (x.zS.getD a [])++w):=by
  have et:(J1 (yI x a) a++w).take (yI x a)=J1 (yI x a) a:=Jm (by simp);have ed:(J1 (yI x a) a++w).drop (yI x a)=w:=K3 (by simp);rw[e]at et ed ⊢
  simp only[pws];rw[if_pos et,ed]
 have h3:hdS x (J1 (yI x a) a++w)=some (a,w,nw 0 (x.zS.getD a [])++w):=by
  unfold hdS;rw[h1];exact h2
 rw[e]at h3 ⊢
 simp only[stS];rw[h3]
end
end Go.Pl

namespace Go.Pl
open Go Go.Ab Go.Wk Go.Pc
theorem zDm{p:Int}{D:Nat}{u v w:List Int}:adv p D (adv p D u v) w=adv p D u (adv p D v w):=by
 refine zY fun j hj=>?_
 rw[yH hj,yH hj,Int.emod_add_emod,Jby,Qo]
theorem zEU{p:Int}{D:Nat}{u v:List Int}{A:Mx}:wD p D (adv p D u v) A=adv p D (wD p D u A) (wD p D v A):=by
 refine zY fun j hj=>?_
 rw[wD,wD,yH hj,yH hj,←Ko,←zCB];refine kO fun l hl=>?_
 rw[yH hl,←Qj,Jv,Kc,←Jv]
theorem zLC{α:Type}(m:α→α→α)(z:α):∀(cs:List α)(j n:Nat)(acc:α),j<cs.length→j<n→img m cs (xJ n j) acc=m acc (cs.getD j z)
 | [],_,_,_,h,_=>by simp at h
 |c::cs,0,n+1,acc,_,_=>by
  rw[zDa];show img m cs (zeros n) (iter (1:Int).toNat (fun v=>m v c) acc)=_;rw[sX];rfl
 |c::cs,j+1,n+1,acc,h,h2=>by
  rw[zFy];show img m cs (xJ n j) (iter (0:Int).toNat (fun v=>m v c) acc)=_;rw[show iter (0:Int).toNat (fun v=>m v c) acc=acc from rfl,zLC m z cs j n acc (by simpa using h) (by omega),U9]
 |_::_,0,0,_,_,h=>by omega
 |_::_,_+1,0,_,_,h=>by omega
theorem zFB(n d:Nat):zeros (n+d)=zeros n++zeros d:=by simp only[zeros,Ju]
theorem zRN{n d j:Nat}(hj:j<n):xJ (n+d) j=xJ n j++zeros d:=by
 unfold xJ;rw[zFB,List.set_append_left _ _ (by rw[zZ];exact hj)]
def fo(e:SPr)(k:Nat)(u:Vec)(w:List Nat):Vec:=w.foldl (fun u a=>mul (suf e k) u (xJ (e.zA.length-k) (a-k))) u
theorem zCK{e:SPr}{k:Nat}{u:Vec}{v w:List Nat}:fo e k u (v++w)=fo e k (fo e k u v) w:=by simp[fo,Qs]
theorem qC{e:SPr}{k:Nat}{u:Vec}{a:Nat}{w:List Nat}:fo e k u (a::w)=fo e k (mul (suf e k) u (xJ (e.zA.length-k) (a-k))) w:=rfl
theorem zWE{e:SPr}{k a:Nat}(ha:k<a)(hn:a<e.zA.length){b:Int}{y:Vec}(hb:b<at0 e.zA k):mul (suf e k) (b::y) (xJ (e.zA.length-k) (a-k))=b::mul (suf e (k+1)) y (xJ (e.zA.length-(k+1)) (a-(k+1))):=by
 obtain⟨t,ht⟩:∃t,a-k=t+1:=⟨a-(k+1),by omega⟩;obtain⟨s,hs⟩:∃s,e.zA.length-k=s+1:=⟨e.zA.length-(k+1),by omega⟩;rw[yF (x:=e) (by omega),ht,hs,zFy,yV,if_neg (by show¬(b+0≥at0 e.zA k);omega),show a-(k+1)=t from by omega,show e.zA.length-(k+1)=s from by omega,H8];rfl
theorem zWF{e:SPr}{k:Nat}(hn:k<e.zA.length){b:Int}{y:Vec}:mul (suf e k) (b::y) (xJ (e.zA.length-k) (k-k))=if b+1≥at0 e.zA k then(b+1-at0 e.zA k)::mul (suf e (k+1)) (lvl e k).w (mul (suf e (k+1)) (sig (suf e (k+1)) (lvl e k) y) (zeros (e.zA.length-(k+1))))else(b+1)::mul (suf e (k+1)) (sig (suf e (k+1)) (lvl e k) y) (zeros (e.zA.length-(k+1))):=by
 obtain⟨s,hs⟩:∃s,e.zA.length-k=s+1:=⟨e.zA.length-(k+1),by omega⟩;rw[yF (x:=e) hn,hs,Kr,zDa,yV,show e.zA.length-(k+1)=s from by omega];rfl
section
variable {D:Nat}{x:SPr}{m:zH}{T:Mx} (h:Pres x) (hE:ExB x.zA.length D x m T) (hT:∀i,i<T.length→Row m.Prime D (T.getD i []))
 include h hE hT
theorem zWG{k:Nat}(hk:k≤x.zA.length){e:Vec}(he:V (suf (exx D x m T) k) e):mul (suf (exx D x m T) k) e (zeros ((exx D x m T).zA.length-k))=e:=by
 have hp:=hE.m.p.pos;obtain⟨y,u,rfl,hy,hu⟩:=(sG h hE hT (x.zA.length-k) k (by omega) _).1 he;have:=zER h hE hT (x.zA.length-k) k (by omega) y u (zeros D) hy hu (xL (by omega));rw[zA5 hu]at this;rw[wH h hE hT,show x.zA.length+D-k=(x.zA.length-k)+D from by omega,zFB];exact this
def adK(p:Int)(D N:Nat)(e d:Vec):Vec:=e.take N++adv p D (e.drop N) d
theorem zJT{k:Nat}(hk:k≤x.zA.length){e d:Vec}(he:V (suf (exx D x m T) k) e)(hd:Row m.Prime D d):adK m.Prime D (x.zA.length-k) e d=mul (suf (exx D x m T) k) e (zeros (x.zA.length-k)++d):=by
 obtain⟨y,u,rfl,hy,hu⟩:=(sG h hE hT (x.zA.length-k) k (by omega) _).1 he;have hyl:=vC h (by omega) hy;rw[zER h hE hT (x.zA.length-k) k (by omega) y u d hy hu hd,adK,Jm hyl,K3 hyl]
theorem zWH{k:Nat}(hk:k≤x.zA.length){e d:Vec}(he:V (suf (exx D x m T) k) e):V (suf (exx D x m T) k) (adK m.Prime D (x.zA.length-k) e d):=by
 have hp:=hE.m.p.pos;obtain⟨y,u,rfl,hy,hu⟩:=(sG h hE hT (x.zA.length-k) k (by omega) _).1 he;have hyl:=vC h (by omega) hy;rw[adK,Jm hyl,K3 hyl];exact(sG h hE hT (x.zA.length-k) k (by omega) _).2 ⟨y,_,rfl,hy,qA (by omega)⟩
theorem zVt{k:Nat}(hk:k≤x.zA.length){e d d':Vec}(he:V (suf (exx D x m T) k) e):adK m.Prime D (x.zA.length-k) (adK m.Prime D (x.zA.length-k) e d) d'=adK m.Prime D (x.zA.length-k) e (adv m.Prime D d d'):=by
 obtain⟨y,u,rfl,hy,hu⟩:=(sG h hE hT (x.zA.length-k) k (by omega) _).1 he;have hyl:=vC h (by omega) hy;simp only[adK,Jm hyl,K3 hyl,zDm]
theorem zAJ{k:Nat}(hk:k<x.zA.length){b:Int}{e d:Vec}:adK m.Prime D (x.zA.length-k) (b::e) d=b::adK m.Prime D (x.zA.length-(k+1)) e d:=by
 have _:=h;have _:=hE;have _:=hT;rw[show x.zA.length-k=x.zA.length-(k+1)+1 from by omega];simp only[adK,K7,List.drop_succ_cons,Jn]
theorem zD{k:Nat}(hk:k≤x.zA.length){d:Vec}(hd:Row m.Prime D d):V (suf (exx D x m T) k) (zeros (x.zA.length-k)++d):=
 (sG h hE hT (x.zA.length-k) k (by omega) _).2 ⟨_,d,rfl,zv h hE hT hk,hd⟩
theorem zVu{k a:Nat}(hk:k≤a)(ha:a<x.zA.length):V (suf x k) (xJ (x.zA.length-k) (a-k)):=by
 have _:=hE;have _:=hT;have:=zCz (h.okAt (k:=k) (by omega)) (j:=a-k) (by rw[yN];omega)
 rwa [yN]at this
theorem zP5{k a:Nat}(hk:k≤a)(ha:a<x.zA.length):xJ ((exx D x m T).zA.length-k) (a-k)=xJ (x.zA.length-k) (a-k)++zeros D:=by
 rw[wH h hE hT,show x.zA.length+D-k=x.zA.length-k+D from by omega,zRN (by omega)]
theorem zCL{k a:Nat}(hk:k≤a)(ha:a<x.zA.length):V (suf (exx D x m T) k) (xJ ((exx D x m T).zA.length-k) (a-k)):=by
 have hp:=hE.m.p.pos;rw[zP5 h hE hT hk ha];exact(sG h hE hT (x.zA.length-k) k (by omega) _).2 ⟨_,_,rfl,zVu h hE hT hk ha,xL (by omega)⟩
theorem zUc{k a:Nat}(hk:k≤a)(ha:a<x.zA.length):aM m D k (xJ (x.zA.length-k) (a-k))=m.zF.getD a []:=by
 have _:=h;have _:=hT;have hA:=hE.m.mat a ha;have hl:=hE.m.len;unfold aM;rw[zLC (PM m.Prime D) [] _ _ _ _ (by rw[Jx];omega) (by omega),J2,Kq,show k+(a-k)=a from by omega,←J2,zBH hA]
variable {k:Nat} (hk:k<x.zA.length) (hc:wR (suf (exx D x m T) (k+1)))
 include hk hc
theorem zVv{a:Nat}(h1:k+1≤a)(ha:a<x.zA.length){e d:Vec}(he:V (suf (exx D x m T) (k+1)) e)(hd:Row m.Prime D d):
  mul (suf (exx D x m T) (k+1)) (adK m.Prime D (x.zA.length-(k+1)) e d) (xJ ((exx D x m T).zA.length-(k+1)) (a-(k+1)))=adK m.Prime D (x.zA.length-(k+1)) (mul (suf (exx D x m T) (k+1)) e (xJ ((exx D x m T).zA.length-(k+1)) (a-(k+1)))) (wD m.Prime D d (m.zF.getD a [])):=by
 have hp:=hE.m.p.pos;have hok:=vX h hE hT (k:=k+1) (by omega);have G:=(zC1 _ hok hc).toMon;have hg:=zCL h hE hT h1 ha;have hgv:=zVu h hE hT h1 ha;have hz:=zD h hE hT (k:=k+1) (by omega) hd;have hz2:=zD h hE hT (k:=k+1) (by omega) (vH (p:=m.Prime) (D:=D) (r:=d) (B:=m.zF.getD a []) (by omega));rw[zJT h hE hT (by omega) he hd,G.assoc he hz hg,zP5 h hE hT h1 ha,zO2 h hE hT _ (k+1) (by omega) _ _ _ hd hgv (xL (by omega)),zA5 (vH (by omega)),zUc h hE hT h1 ha,←zP5 h hE hT h1 ha,zJT h hE hT (by omega) (G.cl he hg) (vH (by omega)),G.assoc he hg hz2,zP5 h hE hT h1 ha,zER h hE hT _ (k+1) (by omega) _ _ _ hgv (xL (by omega)) (vH (by omega)),vT (vH (by omega))]
 omit hc in
theorem zHQ{e d:Vec}(he:V (suf (exx D x m T) (k+1)) e)(_hd:Row m.Prime D d):
    sig (suf (exx D x m T) (k+1)) (lvl (exx D x m T) k) (adK m.Prime D (x.zA.length-(k+1)) e d)=adK m.Prime D (x.zA.length-(k+1)) (sig (suf (exx D x m T) (k+1)) (lvl (exx D x m T) k) e) (wD m.Prime D d (m.zF.getD k [])):=by
  have hp:=hE.m.p.pos;obtain⟨y,u,rfl,hy,hu⟩:=(sG h hE hT (x.zA.length-(k+1)) (k+1) (by omega) _).1 he;have hyl:=vC h (by omega) hy;obtain⟨y1,u1,e,hy1,hu1⟩:=(sG h hE hT (x.zA.length-(k+1)) (k+1) (by omega) _).1 (zHJ h hE hT hk (y:=y));have hy1l:=vC h (by omega) hy1;have e0:adK m.Prime D (x.zA.length-(k+1)) (y++u) d=y++adv m.Prime D u d:=by rw[adK,Jm hyl,K3 hyl]
  rw[e0,zBO h hE hT hk hy (qA (by omega)),zBO h hE hT hk hy hu,e,Jm hy1l,K3 hy1l,adK,Jm hy1l,K3 hy1l,zEU,zDm]
theorem zLD{z d:Vec}(hz:V (suf (exx D x m T) (k+1)) z)(hd:Row m.Prime D d){w:Vec}(hw:V (suf (exx D x m T) (k+1)) w):
  mul (suf (exx D x m T) (k+1)) w (adK m.Prime D (x.zA.length-(k+1)) z d)=adK m.Prime D (x.zA.length-(k+1)) (mul (suf (exx D x m T) (k+1)) w z) d:=by
 have hok:=vX h hE hT (k:=k+1) (by omega);have G:=(zC1 _ hok hc).toMon;rw[zJT h hE hT (by omega) hz hd,zJT h hE hT (by omega) (G.cl hw hz) hd,G.assoc hw hz (zD h hE hT (by omega) hd)]
 omit hc in
theorem zP6:V (suf (exx D x m T) (k+1)) (lvl (exx D x m T) k).w:=by
  have hok:=vX h hE hT (k:=k) (by omega);rw[yF (x:=exx D x m T) (by rw[wH h hE hT];omega)]at hok;exact hok.2.1
 omit hc in
theorem zA7{e:Vec}(he:V (suf (exx D x m T) (k+1)) e):V (suf (exx D x m T) (k+1)) (sig (suf (exx D x m T) (k+1)) (lvl (exx D x m T) k) e):=by
  have hok:=vX h hE hT (k:=k) (by omega);rw[yF (x:=exx D x m T) (by rw[wH h hE hT];omega)]at hok;exact zC0 hok he
theorem zGe{b:Int}{e:Vec}(he:V (suf (exx D x m T) (k+1)) e):mul (suf (exx D x m T) k) (b::e) (xJ ((exx D x m T).zA.length-k) (k-k))=if b+1≥at0 x.zA k then(b+1-at0 x.zA k)::mul (suf (exx D x m T) (k+1)) (lvl (exx D x m T) k).w (sig (suf (exx D x m T) (k+1)) (lvl (exx D x m T) k) e)else(b+1)::sig (suf (exx D x m T) (k+1)) (lvl (exx D x m T) k) e:=by
 have _:=hc;rw[zWF (by rw[wH h hE hT];omega),zWG h hE hT (by omega) (zA7 h hE hT hk he),tA h hE hT hk]
theorem zLE{a:Nat}(h1:k<a)(ha:a<x.zA.length){b:Int}(hb:b<at0 x.zA k){e:Vec}:mul (suf (exx D x m T) k) (b::e) (xJ ((exx D x m T).zA.length-k) (a-k))=b::mul (suf (exx D x m T) (k+1)) e (xJ ((exx D x m T).zA.length-(k+1)) (a-(k+1))):=by
 have _:=hc;exact zWE h1 (by rw[wH h hE hT];omega) (by rw[tA h hE hT hk];exact hb)
theorem zZ8{a:Nat}(h1:k≤a)(ha:a<x.zA.length){b:Int}(hb:b<at0 x.zA k){e d:Vec}(he:V (suf (exx D x m T) (k+1)) e)(hd:Row m.Prime D d):
  mul (suf (exx D x m T) k) (b::adK m.Prime D (x.zA.length-(k+1)) e d) (xJ ((exx D x m T).zA.length-k) (a-k))=adK m.Prime D (x.zA.length-k) (mul (suf (exx D x m T) k) (b::e) (xJ ((exx D x m T).zA.length-k) (a-k))) (wD m.Prime D d (m.zF.getD a [])):=by
 have hp:=hE.m.p.pos;rcases Jk k a with g|g
 ·rw[zLE h hE hT hk hc g ha hb,zLE h hE hT hk hc g ha hb,zVv h hE hT hk hc g ha he hd,zAJ h hE hT hk]
 ·obtain rfl:a=k:=by omega
  rw[zGe h hE hT hk hc (zWH h hE hT (by omega) he),zGe h hE hT hk hc he,zHQ h hE hT hk he hd];split
  ·rw[zLD h hE hT hk hc (zA7 h hE hT hk he) (vH (by omega)) (zP6 h hE hT hk),zAJ h hE hT hk]
  ·rw[zAJ h hE hT hk]
theorem zZ9{a:Nat}(h1:k≤a)(ha:a<x.zA.length){e:Vec}(he:V (suf (exx D x m T) k) e):V (suf (exx D x m T) k) (mul (suf (exx D x m T) k) e (xJ ((exx D x m T).zA.length-k) (a-k))):=by
 have _:=hc;have _:=hk;exact xC (vX h hE hT (by omega)) he (zCL h hE hT h1 ha)
theorem zO6:∀{w:List Nat},(∀a∈w,k≤a∧a<x.zA.length)→ ∀{e d:Vec},V (suf (exx D x m T) k) e→Row m.Prime D d→fo (exx D x m T) k (adK m.Prime D (x.zA.length-k) e d) w=adK m.Prime D (x.zA.length-k) (fo (exx D x m T) k e w) (wD m.Prime D d (wM m.Prime D m.zF w (idM D)))
 | [],_,e,d,_,hd=>by
  show adK _ _ _ e d=adK _ _ _ e (wD m.Prime D d (idM D));rw[jE hd]
 |a::w,hw,e,d,he,hd=>by
  have hp:=hE.m.p.pos;obtain⟨a1,a2⟩:=hw a (by simp);have hA:=hE.m.mat a a2;have he':=he;rw[yF (x:=exx D x m T) (by rw[wH h hE hT];omega)]at he';cases e with
  |nil=>exact he'.elim
  |cons b e=>
   obtain⟨⟨b0,b1⟩,he1⟩:=he';have b2:b<at0 x.zA k:=by rw[←tA h hE hT hk];exact b1
   rw[qC,qC,zAJ h hE hT hk,zZ8 h hE hT hk hc a1 a2 b2 he1 hd,zO6 (fun b hb=>hw b (by simp[hb])) (zZ9 h hE hT hk hc a1 a2 he) (vH (by omega)),zEQ hA.1]
   congr 2
   show PM _ _ _ (wM m.Prime D m.zF w (idM D))=wM m.Prime D m.zF w (PM m.Prime D (idM D) (m.zF.getD a []));rw[←zHA (by omega) hA.1 w (sE (by omega)),zCE hA,zBH hA]
end
end Go.Pl

namespace Go.Pl
open Go Go.Ab Go.Wk Go.Pc
inductive Col (x:SPr) (k:Nat):List Nat→List (Nat×List Nat)→List Nat→Prop where
 |refl (w:List Nat):Col x k w [] w
 |step {w w1 w' s:List Nat}{r:Nat}{tr:List (Nat×List Nat)} (hw:∀a∈w,k≤a∧a<x.zA.length) (hs:stS x w=some (r,s,w1)) (h:Col x k w1 tr w'):Col x k w ((r,s)::tr) w'
theorem Col.trans{x:SPr}{k:Nat}{w w1 w2:List Nat}{t1 t2:List (Nat×List Nat)}(h:Col x k w t1 w1)(h2:Col x k w1 t2 w2):Col x k w (t1++t2) w2:=by
 induction h with
 |refl w=>exact h2
 |step hw hs _ ih=>exact .step hw hs (ih h2)
def tv(p:Int)(D:Nat)(m:zH)(T:Mx):List (Nat×List Nat)→Vec
 | []=>zeros D
 |(r,s)::t=>adv p D (wD p D (T.getD r []) (wM p D m.zF s (idM D))) (tv p D m T t)
section
variable {p:Int}{D:Nat}{m:zH}{T:Mx} (hp:2≤p)
 include hp
theorem zJU:∀t,Row p D (tv p D m T t)
 | []=>xL (by omega)
 |(_,_)::_=>qA (by omega)
theorem zHR:∀t u,tv p D m T (t++u)=adv p D (tv p D m T t) (tv p D m T u)
 | [],u=>(vT (zJU hp u)).symm
 |(r,s)::t,u=>by
  show adv p D _ (tv p D m T (t++u))=adv p D (adv p D _ _) _;rw[zHR t u,zDm]
theorem zWI{A:List Mx}{u v:List Nat}:wM p D A (u++v) (idM D)=PM p D (wM p D A u (idM D)) (wM p D A v (idM D)):=by
 have hu:=zBI (D:=D) (A:=A) (show 0<p by omega) u (sE hp);rw[zDg,←zHA (by omega) hu.1 v (sE hp),zCE hu]
theorem zEV{A:List Mx}{u v:List Nat}{r:Vec}:wD p D r (wM p D A (u++v) (idM D))=wD p D (wD p D r (wM p D A u (idM D))) (wM p D A v (idM D)):=by
 have hu:=zBI (D:=D) (A:=A) (show 0<p by omega) u (sE hp);rw[zWI hp,zEQ hu.1]
theorem zRO(z:List Nat):∀t,tv p D m T (t.map fun q=>(q.1,q.2++z))=wD p D (tv p D m T t) (wM p D m.zF z (idM D))
 | []=>zA6.symm
 |(r,s)::t=>by
  show adv p D (wD p D (T.getD r []) (wM p D m.zF (s++z) (idM D))) (tv p D m T (t.map fun q=>(q.1,q.2++z)))=wD p D (adv p D _ (tv p D m T t)) _;rw[zRO z t,zEU,zEV hp]
end
section
variable {x:SPr} (h:Pres x)
 include h
theorem zJV{a:Nat}(ha:a<x.zA.length):2≤yI x a:=by
 have:=(h.os.2 a ha).pos;show 2≤(at0 x.zA a).toNat;omega
theorem sS{v:List Int}{i:Nat}(hv:Exp x.zA v i)(hi:i<x.zA.length):nw 0 v=nw (i+1) (v.drop (i+1))∧ ∀a∈nw 0 v,i+1≤a∧a<x.zA.length:=by
 have _:=h;have e:=zAs hv hi;have e1:nw 0 v=nw (i+1) (v.drop (i+1)):=by
  rw[e,zDf,zCJ,zZ,Jj,Je,K3 (by rw[zZ])]
 refine⟨e1,fun a ha=>?_⟩;rw[e1]at ha;refine⟨?_,zLs (n:=x.zA.length) (i+1) _ (by rw[Jx,hv.1.1];omega) a ha⟩
 clear e e1 hv
 generalize v.drop (i+1)=y at ha
 generalize i+1=o at ha ⊢
 clear hi
 induction y generalizing o with
 |nil=>simp[nw]at ha
 |cons b y ih=>
  simp only[nw,Jh]at ha;rcases ha with ha|ha
  ·have:=Js ha;omega
  ·have:=ih (o+1) ha;omega
theorem uH{i j:Nat}(hi:i<j)(hj:j<x.zA.length):Exp x.zA (lcj x i j) i:=by
 have g:=(h.tl i (by omega)).2.1;exact(h.tl i (by omega)).2.2 (j-(i+1)) (by omega)
theorem jF{i:Nat}(hi:i<x.zA.length):Exp x.zA (x.zS.getD i []) i:=(h.tl i hi).1
theorem zRP:∀(o:Nat)(y:Vec),∀a∈nw o y,o≤a
 |_,[],a,ha=>by simp[nw]at ha
 |o,b::y,a,ha=>by
  have _:=h;simp only[nw,Jh]at ha;rcases ha with ha|ha
  ·have:=Js ha;omega
  ·have:=zRP (o+1) y a ha;omega
theorem zO7{k:Nat}{y:Vec}(hk:k≤x.zA.length)(hy:V (suf x k) y):∀a∈nw k y,k≤a∧a<x.zA.length:=fun a ha=>
 ⟨zRP h k y a ha,zLs (n:=x.zA.length) k y (by rw[vC h hk hy];omega) a ha⟩
theorem zFC:∀(d k:Nat),k+d=x.zA.length→ ∀y,V (suf x k) y→stS x (nw k y)=none
 |0,k,hk,y,hy=>by
  rw[vR (x:=x) (k:=k) (by omega)]at hy;obtain rfl:y=[]:=hy;rfl
 |d+1,k,hk,y,hy=>by
  rw[yF (x:=x) (by omega)]at hy;cases y with
  |nil=>exact hy.elim
  |cons b y=>
   obtain⟨⟨b0,b1⟩,hy⟩:=hy;change b<at0 x.zA k at b1;simp only[nw];have hlt:b.toNat<yI x k:=by show b.toNat<(at0 x.zA k).toNat;omega
   rw[zEf hlt b.toNat (Jp _) fun a ha=>?_,zFC d (k+1) (by omega) y hy]
   ·rfl
   ·have:=zRP h (k+1) y a (Jbl (by rw[ha];rfl))
    omega
theorem Col.ctx{i a:Nat}(hi:i<x.zA.length)(ha:a<yI x i){s:List Nat}(hs:∀b∈s,i≤b∧b<x.zA.length){w w':List Nat}{tr:List (Nat×List Nat)}(hc:Col x (i+1) w tr w'):
  Col x i (J1 a i++(w++s)) (tr.map fun q=>(q.1,q.2++s)) (J1 a i++(w'++s)):=by
 induction hc with
 |refl w=>exact .refl _
 | @step w w1 w' s1 r tr hw hst _ ih=>
  refine .step (fun b hb=>?_) ?_ ih
  ·simp only[Jh]at hb
   rcases hb with hb|hb|hb
   ·have:=Js hb;omega
   ·have:=hw b hb;omega
   ·exact hs b hb
  ·rw[zEf ha a (Jp _) fun b hb=>?_,zJS (fun b hb=>zJV h (hw b hb).2) hst]
   ·rfl
   ·cases w with
    |nil=>cases hst
    |cons c w=>
     simp only[Jn,Gx,L4.injEq]at hb;have:=hw c (by simp);omega
def cwd(x:SPr)(i:Nat):List Nat→List Nat
 | []=>[]
 |l::ur=>cwd x i ur++nw 0 (lcj x i l)
def mtr(x:SPr)(i:Nat):List Nat→List Nat→List (Nat×List Nat)
 | [],_=>[]
 |l::ur,z=>(base x.zA.length i+(l-(i+1)),z)::mtr x i ur (nw 0 (lcj x i l)++z)
theorem zJW{i:Nat}:∀{ur:List Nat},(∀b∈ur,i+1≤b∧b<x.zA.length)→ ∀b∈cwd x i ur,i+1≤b∧b<x.zA.length
 | [],_,b,hb=>by simp[cwd]at hb
 |l::ur,hu,b,hb=>by
  simp only[cwd,Jh]at hb;obtain⟨l1,l2⟩:=hu l (by simp);rcases hb with hb|hb
  ·exact zJW (fun b hb=>hu b (by simp[hb])) b hb
  ·exact(sS h (uH h (by omega) l2) (by omega)).2 b hb
theorem Col.move{i a:Nat}(hi:i<x.zA.length)(ha:a<yI x i):∀{ur:List Nat},(∀b∈ur,i+1≤b∧b<x.zA.length)→stS x ur.reverse=none→ ∀{z:List Nat},(∀b∈z,i≤b∧b<x.zA.length)→
  Col x i (J1 a i++(ur.reverse++i::z)) (mtr x i ur z) (J1 (a+1) i++(cwd x i ur++z))
 | [],_,_,z,_=>by
  have e:J1 a i++(([]:List Nat).reverse++i::z)=J1 (a+1) i++(cwd x i []++z):=by
   rw[H2];simp[cwd]
  rw[e];exact .refl _
 |l::ur,hu,hn,z,hz=>by
  obtain⟨l1,l2⟩:=hu l (by simp);have hu2:∀b∈ur,i+1≤b∧b<x.zA.length:=fun b hb=>hu b (by simp[hb])
  have hnc:=sS h (uH h (show i<l by omega) l2) hi;rw[Lz]at hn ⊢
  have hn2:=zGd (fun b hb=>zJV h (hu2 b (by simpa using hb)).2) hn;have hz2:∀b∈nw 0 (lcj x i l)++z,i≤b∧b<x.zA.length:=fun b hb=>by
   simp only[Jh]at hb;rcases hb with hb|hb
   ·have:=hnc.2 b hb;omega
   ·exact hz b hb
  have ih:=Col.move hi ha hu2 hn2 hz2;rw[show cwd x i (l::ur)++z=cwd x i ur++(nw 0 (lcj x i l)++z)from by simp[cwd]];have e1:ur.reverse++[l]++i::z=ur.reverse++l::i::z:=by simp
  rw[e1];refine .step (fun b hb=>?_) ?_ ih
  ·simp only[Jh,Jc,Qx]at hb
   rcases hb with hb|hb|hb|hb|hb
   ·have:=Js hb;omega
   ·have:=hu2 b hb;omega
   ·omega
   ·omega
   ·exact hz b hb
  ·rw[zEf ha a (Jp _) fun b hb=>?_,zRM (fun b hb=>by have:=hu2 b (by simpa using hb);omega) (by omega) hn]
   ·rfl
   ·have:b∈ur.reverse++l::i::z:=Jbl (by rw[hb];rfl)
    cases e:ur.reverse with
    |nil=>rw[e]at hb;simp only[Jj,Gx,L4.injEq]at hb;omega
    |cons c t=>
     rw[e]at hb;simp only[Jn,Gx,L4.injEq]at hb;have:=hu2 c (by rw[←Qx,e];simp);omega
end
end Go.Pl

namespace Go.Pl
open Go Go.Ab Go.Wk Go.Pc
theorem zHS{α:Type}(m:α→α→α)(c:Nat→α)(z:α):∀(cs:List α)(v:Vec)(o:Nat)(acc:α),(∀j,j<cs.length→cs.getD j z=c (o+j))→v.length≤cs.length→img m cs v acc=(nw o v).foldl (fun acc j=>m acc (c j)) acc
 |cs,[],o,acc,_,_=>by cases cs<;>rfl
 | [],_::_,_,_,_,h=>by simp at h
 |a::cs,b::v,o,acc,hc,hl=>by
  have h0:=hc 0 (by simp);simp only[Lu,Gf]at h0;have e:∀(k:Nat)(u:α),(J1 k o).foldl (fun acc j=>m acc (c j)) u=iter k (fun v=>m v a) u:=by
   intro k
   induction k with
   |zero=>intro u;rfl
   |succ k ih=>intro u;rw[Jq,Ut,ih,h0];rfl
  show img m cs v (iter b.toNat (fun v=>m v a) acc)=_;simp only[nw,Qs];rw[e,zHS m c z cs v (o+1) _ (fun j hj=>by have:=hc (j+1) (by simpa using hj);rw[U9]at this;rw[this];congr 1;omega) (by simpa using hl)]
theorem map_drop{l:List (List Int)}{n i:Nat}:(l.map (·.drop n)).getD i []=(l.getD i []).drop n:=by
 rw[J2,J2,K1];cases l[i]? <;>simp
section
variable {D:Nat}{x:SPr}{m:zH}{T:Mx} (h:Pres x) (hE:ExB x.zA.length D x m T) (hT:∀i,i<T.length→Row m.Prime D (T.getD i []))
 include h hE hT
theorem zUd{k:Nat}(hk:k<x.zA.length)(hc:wR (suf (exx D x m T) k)):wR (suf (exx D x m T) (k+1)):=by
 rw[yF (x:=exx D x m T) (by rw[wH h hE hT];omega)]at hc;exact hc.1
theorem zNb{k:Nat}(hk:k≤x.zA.length):V (suf (exx D x m T) k) (zeros ((exx D x m T).zA.length-k)):=by
 have:=wP (vX h hE hT (k:=k) (by omega))
 rwa [yN]at this
theorem zHT{k:Nat}(hk:k≤x.zA.length):zeros ((exx D x m T).zA.length-k)=zeros (x.zA.length-k)++zeros D:=by
 rw[wH h hE hT,show x.zA.length+D-k=x.zA.length-k+D from by omega,zFB]
theorem zDw{k:Nat}(hk:k≤x.zA.length){y u:Vec}(hy:V (suf x k) y)(hu:Row m.Prime D u):V (suf (exx D x m T) k) (y++u):=
 (sG h hE hT (x.zA.length-k) k (by omega) _).2 ⟨y,u,rfl,hy,hu⟩
theorem jV{k:Nat}(hk:k≤x.zA.length){y u d:Vec}(hy:V (suf x k) y):adK m.Prime D (x.zA.length-k) (y++u) d=y++adv m.Prime D u d:=by
 have _:=hE;have _:=hT;have hyl:=vC h hk hy;rw[adK,Jm hyl,K3 hyl]
theorem zHU:∀(d k:Nat),k+d=x.zA.length→wR (suf (exx D x m T) k)→ ∀y,V (suf x k) y→fo (exx D x m T) k (zeros ((exx D x m T).zA.length-k)) (nw k y)=y++zeros D
 |0,k,hk,_,y,hy=>by
  rw[vR (x:=x) (k:=k) (by omega)]at hy;obtain rfl:y=[]:=hy;rw[zHT h hE hT (by omega),show x.zA.length-k=0 from by omega];rfl
 |d+1,k,hk,hc,y,hy=>by
  have hc1:=zUd h hE hT (by omega) hc;have ih:=zHU d (k+1) (by omega) hc1;rw[yF (x:=x) (by omega)]at hy;cases y with
  |nil=>exact hy.elim
  |cons b y=>
   obtain⟨⟨b0,b1⟩,hy⟩:=hy;change b<at0 x.zA k at b1;have hkn:k<x.zA.length:=by omega
   have hz:=zNb h hE hT (k:=k+1) (by omega);simp only[nw];rw[zCK];have e1:∀c:Nat,(c:Int)<at0 x.zA k→fo (exx D x m T) k (zeros ((exx D x m T).zA.length-k)) (J1 c k)=(c:Int)::zeros ((exx D x m T).zA.length-(k+1)):=by
    intro c
    induction c with
    |zero=>
     intro _;have hl:=wH h hE hT;rw[show(exx D x m T).zA.length-k=(exx D x m T).zA.length-(k+1)+1 from by omega];rfl
    |succ c ihc=>
     intro hcl;rw[H2,zCK,ihc (by omega)];show mul _ _ _=_;rw[zGe h hE hT hkn hc1 hz,if_neg (by omega)];have:sig (suf (exx D x m T) (k+1)) (lvl (exx D x m T) k) (zeros ((exx D x m T).zA.length-(k+1)))=zeros ((exx D x m T).zA.length-(k+1)):=by
      unfold sig;rw[sX,yN]
     rw[this];rfl
   have e2:∀(w:List Nat)(e:Vec),(∀a∈w,k+1≤a∧a<x.zA.length)→fo (exx D x m T) k (b::e) w=b::fo (exx D x m T) (k+1) e w:=by
    intro w
    induction w with
    |nil=>intro e _;rfl
    |cons a w ihw=>
     intro e hw;rw[qC,zLE h hE hT hkn hc1 (hw a (by simp)).1 (hw a (by simp)).2 b1,ihw _ fun a ha=>hw a (by simp[ha])];rfl
   have:=e1 b.toNat (by omega);rw[this,show((b.toNat:Nat):Int)=b from by omega,e2 _ _ fun a ha=>zO7 h (by omega) hy a ha,ih y hy];rfl
variable {k:Nat} (hk:k<x.zA.length) (hc:wR (suf (exx D x m T) (k+1)))
 include hk hc
theorem zHV{b:Int}(hb:b<at0 x.zA k):∀(w:List Nat)(e:Vec),(∀a∈w,k+1≤a∧a<x.zA.length)→fo (exx D x m T) k (b::e) w=b::fo (exx D x m T) (k+1) e w
 | [],e,_=>rfl
 |a::w,e,hw=>by
  rw[qC,zLE h hE hT hk hc (hw a (by simp)).1 (hw a (by simp)).2 hb,zHV hb w _ fun a ha=>hw a (by simp[ha])];rfl
 omit hc in
theorem zP7:∀{w:List Nat},(∀a∈w,k+1≤a∧a<x.zA.length)→ ∀{e:Vec},V (suf (exx D x m T) (k+1)) e→V (suf (exx D x m T) (k+1)) (fo (exx D x m T) (k+1) e w)
  | [],_,_,he=>he
  |a::w,hw,e,he=>by
    rw[qC];exact zP7 (fun b hb=>hw b (by simp[hb])) (xC (vX h hE hT (by omega)) he (zCL h hE hT (hw a (by simp)).1 (hw a (by simp)).2))
theorem zRQ:∀{w:List Nat},(∀a∈w,k+1≤a∧a<x.zA.length)→ ∀{e d:Vec},V (suf (exx D x m T) (k+1)) e→Row m.Prime D d→fo (exx D x m T) (k+1) (adK m.Prime D (x.zA.length-(k+1)) e d) w=adK m.Prime D (x.zA.length-(k+1)) (fo (exx D x m T) (k+1) e w) (wD m.Prime D d (wM m.Prime D m.zF w (idM D)))
 | [],_,e,d,_,hd=>by
  show adK _ _ _ e d=adK _ _ _ e (wD m.Prime D d (idM D));rw[jE hd]
 |a::w,hw,e,d,he,hd=>by
  have hp:=hE.m.p.pos;obtain⟨a1,a2⟩:=hw a (by simp);have hA:=hE.m.mat a a2;rw[qC,qC,zVv h hE hT hk hc a1 a2 he hd,zRQ (fun b hb=>hw b (by simp[hb])) (xC (vX h hE hT (by omega)) he (zCL h hE hT a1 a2)) (vH (by omega)),zEQ hA.1]
  congr 2
  show PM _ _ _ (wM m.Prime D m.zF w (idM D))=wM m.Prime D m.zF w (PM m.Prime D (idM D) (m.zF.getD a []));rw[←zHA (by omega) hA.1 w (sE (by omega)),zCE hA,zBH hA]
theorem zRR:∀{w:List Nat},(∀a∈w,k+1≤a∧a<x.zA.length)→ ∀{e f:Vec},V (suf (exx D x m T) (k+1)) e→V (suf (exx D x m T) (k+1)) f→fo (exx D x m T) (k+1) (mul (suf (exx D x m T) (k+1)) e f) w=mul (suf (exx D x m T) (k+1)) e (fo (exx D x m T) (k+1) f w)
 | [],_,_,_,_,_=>rfl
 |a::w,hw,e,f,he,hf=>by
  have hok:=vX h hE hT (k:=k+1) (by omega);have G:=(zC1 _ hok hc).toMon;have hg:=zCL h hE hT (hw a (by simp)).1 (hw a (by simp)).2;rw[qC,qC,G.assoc he hf hg,zRR (fun b hb=>hw b (by simp[hb])) he (G.cl hf hg)]
theorem zHW{w:List Nat}(hw:∀a∈w,k+1≤a∧a<x.zA.length){e:Vec}(he:V (suf (exx D x m T) (k+1)) e):fo (exx D x m T) (k+1) e w=mul (suf (exx D x m T) (k+1)) e (fo (exx D x m T) (k+1) (zeros ((exx D x m T).zA.length-(k+1))) w):=by
 rw[←zRR h hE hT hk hc hw he (zNb h hE hT (by omega)),zWG h hE hT (by omega) he]
def dm(p:Int)(D:Nat)(x:SPr)(m:zH)(T:Mx)(k:Nat):List Nat→Vec
 | []=>zeros D
 |l::ur=>adv p D (wD p D (dm p D x m T k ur) (wM p D m.zF (nw 0 (lcj x k l)) (idM D))) (T.getD (base x.zA.length k+(l-(k+1))) [])
 omit h hE hT hk hc in
theorem zNc(hp:2≤m.Prime):∀ur,Row m.Prime D (dm m.Prime D x m T k ur)
  | []=>xL (by omega)
  |_::_=>qA (by omega)
 omit h hE hT hk hc in
theorem zNd(hp:2≤m.Prime):∀(ur:List Nat)(z:List Nat),tv m.Prime D m T (mtr x k ur z)=wD m.Prime D (dm m.Prime D x m T k ur) (wM m.Prime D m.zF z (idM D))
  | [],z=>zA6.symm
  |l::ur,z=>by
    show adv m.Prime D _ (tv m.Prime D m T (mtr x k ur (nw 0 (lcj x k l)++z)))=wD m.Prime D (adv m.Prime D _ _) _;rw[zNd hp ur,zEU,zEV hp,tF]
theorem zRS:∀{ur:List Nat},(∀b∈ur,k+1≤b∧b<x.zA.length)→ur.reverse.foldl (fun acc j=>mul (suf (exx D x m T) (k+1)) acc ((lvl (exx D x m T) k).cs.getD (j-(k+1)) [])) (zeros ((exx D x m T).zA.length-(k+1)))=
  adK m.Prime D (x.zA.length-(k+1)) (fo (exx D x m T) (k+1) (zeros ((exx D x m T).zA.length-(k+1))) (cwd x k ur)) (dm m.Prime D x m T k ur)
 | [],_=>by
  have hp:=hE.m.p.pos;show zeros _=adK _ _ _ (zeros _) (zeros D);rw[zHT h hE hT (by omega),jV h hE hT (by omega) (zv h hE hT (by omega)),vT (xL (by omega))]
 |l::ur,hu=>by
  have hp:=hE.m.p.pos;obtain⟨l1,l2⟩:=hu l (by simp);have hu2:∀b∈ur,k+1≤b∧b<x.zA.length:=fun b hb=>hu b (by simp[hb])
  have hok:=vX h hE hT (k:=k+1) (by omega);have G:=(zC1 _ hok hc).toMon;have hz:=zNb h hE hT (k:=k+1) (by omega);have hcw:=zJW h hu2;have hF:=zP7 h hE hT hk hcw hz;have hnc:=sS h (uH h (show k<l by omega) l2) hk;have hcl:V (suf x (k+1)) ((lcj x k l).drop (k+1)):=jK (uH h (by omega) l2) hk;have hlc:(lvl x k).cs.getD (l-(k+1)) []=(lcj x k l).drop (k+1):=map_drop;have ht:=zDA h hE hT (show k<l by omega) l2;have hd:=zNc (D:=D) (x:=x) (m:=m) (T:=T) (k:=k) (by omega) ur;have hfn:=zHU h hE hT (x.zA.length-(k+1)) (k+1) (by omega) hc _ hcl;have hcz:=zDw h hE hT (k:=k+1) (by omega) hcl (xL (p:=m.Prime) (D:=D) (by omega));rw[Lz,Qs,zRS hu2];show mul _ (adK _ _ _ _ _) ((lvl (exx D x m T) k).cs.getD (l-(k+1)) [])=_;rw[zHL h hE hT hk l1 l2,hlc];have e1:(lcj x k l).drop (k+1)++T.getD (base x.zA.length k+(l-(k+1))) []=adK m.Prime D (x.zA.length-(k+1)) ((lcj x k l).drop (k+1)++zeros D) (T.getD (base x.zA.length k+(l-(k+1))) []):=by
   rw[jV h hE hT (by omega) hcl,vT ht]
  have hin:∀b∈nw (k+1) ((lcj x k l).drop (k+1)),k+1≤b∧b<x.zA.length:=fun b hb=>hnc.2 b (by rw[hnc.1];exact hb)
  have had:=zWH h hE hT (k:=k+1) (by omega) hF (d:=dm m.Prime D x m T k ur);rw[e1,zLD h hE hT hk hc hcz ht had,←hfn,←zHW h hE hT hk hc hin had,zRQ h hE hT hk hc hin hF hd,zVt h hE hT (by omega) (zP7 h hE hT hk hin hF),←zCK,←hnc.1];rfl
theorem zO8{y:Vec}(hy:V (suf x (k+1)) y):sig (suf (exx D x m T) (k+1)) (lvl (exx D x m T) k) (y++zeros D)=adK m.Prime D (x.zA.length-(k+1)) (fo (exx D x m T) (k+1) (zeros ((exx D x m T).zA.length-(k+1))) (cwd x k (nw (k+1) y).reverse)) (dm m.Prime D x m T k (nw (k+1) y).reverse):=by
 have hp:=hE.m.p.pos;have hyl:=vC h (by omega) hy;have hin:=zO7 h (show k+1≤x.zA.length by omega) hy;rw[←zRS h hE hT hk hc fun b hb=>hin b (by simpa using hb),Ks,zBO h hE hT hk hy (xL (by omega)),zA6];obtain⟨y1,u1,e,hy1,hu1⟩:=(sG h hE hT (x.zA.length-(k+1)) (k+1) (by omega) _).1 (zHJ h hE hT hk (y:=y));have hy1l:=vC h (by omega) hy1;rw[e,Jm hy1l,K3 hy1l,zA5 hu1,←e];unfold sgG;rw[yN];refine zHS _ (fun j=>(lvl (exx D x m T) k).cs.getD (j-(k+1)) []) [] _ _ _ _ (fun j hj=>?_) (by rw[uS h hE hT];omega);rw[uS h hE hT]at hj;rw[show k+1+j-(k+1)=j from by omega,zBN h hE hT hk,J2,J2,Jl (by rw[uS h hE hT];exact hj)]
end
end Go.Pl

namespace Go.Pl
open Go Go.Ab Go.Wk Go.Pc
section
variable {x:SPr} (h:Pres x)
 include h
theorem zLF{D:Nat}{m:zH}{T:Mx}(hE:ExB x.zA.length D x m T)(hT:∀i,i<T.length→Row m.Prime D (T.getD i [])){k:Nat}(hk:k≤x.zA.length)(hc:wR (suf (exx D x m T) k)):wR (suf (exx D x m T) (k+1)):=by
 have hl:=wH h hE hT;have:=hE.m.d1;rw[yF (x:=exx D x m T) (by omega)]at hc;exact hc.1
structure qI (x:SPr) (k:Nat) (z:List Nat) (tr:List (Nat×List Nat)) (y:Vec):Prop where
 col:Col x k z tr (nw k y)
 v:V (suf x k) y
 val:∀(D:Nat)(m:zH)(T:Mx),ExB x.zA.length D x m T→(∀i,i<T.length→Row m.Prime D (T.getD i []))→wR (suf (exx D x m T) (k+1))→fo (exx D x m T) k (zeros ((exx D x m T).zA.length-k)) z=y++tv m.Prime D m T tr
theorem zO9{k:Nat}(hk:k<x.zA.length)(P:∀v:List Nat,(∀a∈v,k+1≤a∧a<x.zA.length)→ ∃tr y,qI x (k+1) v tr y):∀(z:List Nat),(∀a∈z,k≤a∧a<x.zA.length)→ ∀(a:Nat),a<yI x k→ ∀(v:List Nat),(∀a∈v,k+1≤a∧a<x.zA.length)→
  ∃tr y,Col x k (J1 a k++(v++z)) tr (nw k y)∧V (suf x k) y∧ ∀(D:Nat)(m:zH)(T:Mx),ExB x.zA.length D x m T→(∀i,i<T.length→Row m.Prime D (T.getD i []))→wR (suf (exx D x m T) (k+1))→
   fo (exx D x m T) k ((a:Int)::fo (exx D x m T) (k+1) (zeros ((exx D x m T).zA.length-(k+1))) v) z=y++tv m.Prime D m T tr
 | [],_,a,ha,v,hv=>by
  obtain⟨tr,y,c1,c2,c3⟩:=P v hv;have hc:=Col.ctx h hk ha (s:=[]) (fun b hb=>by simp at hb) c1;rw[show(fun q:Nat×List Nat=>(q.1,q.2++[]))=id from by funext q;simp,List.map_id,J9,J9]at hc;refine⟨tr,(a:Int)::y,?_,?_,fun D m T hE hT hc=>?_⟩
  ·simp only[nw,Jg];rw[J9];exact hc
  ·rw[yF hk]
   refine⟨⟨by omega,?_⟩,c2⟩;show(a:Int)<at0 x.zA k;have:a<(at0 x.zA k).toNat:=ha;omega
  ·rw[c3 D m T hE hT (zLF h hE hT (by omega) hc)];rfl
 |l::z,hz,a,ha,v,hv=>by
  have hz2:∀b∈z,k≤b∧b<x.zA.length:=fun b hb=>hz b (by simp[hb])
  obtain⟨l1,l2⟩:=hz l (by simp);have ha':(a:Int)<at0 x.zA k:=by
   have:a<(at0 x.zA k).toNat:=ha;omega
  rcases Jk k l with g|g
  ·obtain⟨tr,y,c1,c2,c3⟩:=zO9 hk P z hz2 a ha (v++[l]) (fun b hb=>by
    simp only[Jh,List.mem_singleton]at hb;rcases hb with hb|rfl
    ·exact hv b hb
    ·omega)
   refine⟨tr,y,by rw[Ja]at c1;exact c1,c2,fun D m T hE hT hc=>?_⟩;rw[←c3 D m T hE hT hc,qC,zLE h hE hT hk hc g l2 ha',zCK];rfl
  ·obtain rfl:l=k:=by omega
   obtain⟨tr1,y1,c1,c2,c3⟩:=P v hv;have hin:=zO7 h (show l+1≤x.zA.length by omega) c2;have hinr:∀b∈(nw (l+1) y1).reverse,l+1≤b∧b<x.zA.length:=fun b hb=>hin b (by simpa using hb)
   have k1:=Col.ctx h hk ha (s:=l::z) hz c1;have k2:=Col.move h hk ha hinr (by rw[Ks];exact zFC h _ _ (by omega:l+1+(x.zA.length-(l+1))=x.zA.length) y1 c2) hz2;rw[Ks]at k2;have hcw:=zJW h hinr;have val:∀(D:Nat)(m:zH)(T:Mx)(hE:ExB x.zA.length D x m T)(hT:∀i,i<T.length→Row m.Prime D (T.getD i []))(hc:wR (suf (exx D x m T) (l+1))),
     fo (exx D x m T) l ((a:Int)::fo (exx D x m T) (l+1) (zeros ((exx D x m T).zA.length-(l+1))) v) (l::z)=adK m.Prime D (x.zA.length-l) (fo (exx D x m T) l (mul (suf (exx D x m T) l) ((a:Int)::(y1++zeros D)) (xJ ((exx D x m T).zA.length-l) (l-l))) z) (tv m.Prime D m T (tr1.map fun q=>(q.1,q.2++l::z))):=by
    intro D m T hE hT hc;have hp:=hE.m.p.pos;have ht:=zJU (D:=D) (m:=m) (T:=T) (p:=m.Prime) (by omega) tr1;have hyz:=zDw h hE hT (k:=l+1) (by omega) c2 (xL (p:=m.Prime) (D:=D) (by omega));have hav:V (suf (exx D x m T) l) ((a:Int)::(y1++zeros D)):=by
     rw[yF (x:=exx D x m T) (by rw[wH h hE hT];omega)];refine⟨⟨by omega,?_⟩,hyz⟩;show(a:Int)<at0 (exx D x m T).zA l;rw[tA h hE hT hk];exact ha'
    rw[c3 D m T hE hT (zLF h hE hT (by omega) hc),show y1++tv m.Prime D m T tr1=adK m.Prime D (x.zA.length-(l+1)) (y1++zeros D) (tv m.Prime D m T tr1)from by rw[jV h hE hT (by omega) c2,vT ht],←zAJ h hE hT hk,zO6 h hE hT hk hc hz hav ht,zRO (by omega)];rfl
   have foV:∀(D:Nat)(m:zH)(T:Mx)(hE:ExB x.zA.length D x m T)(hT:∀i,i<T.length→Row m.Prime D (T.getD i []))(_hc:wR (suf (exx D x m T) (l+1))),V (suf (exx D x m T) (l+1)) (fo (exx D x m T) (l+1) (zeros ((exx D x m T).zA.length-(l+1))) (cwd x l (nw (l+1) y1).reverse)):=fun D m T hE hT _hc=>zP7 h hE hT hk hcw (zNb h hE hT (by omega))
   rcases Jk (a+1) (yI x l)with g2|g2
   ·obtain⟨tr2,y2,d1,d2,d3⟩:=zO9 hk P z hz2 (a+1) g2 (cwd x l (nw (l+1) y1).reverse) hcw
    refine⟨_,y2,k1.trans (k2.trans d1),d2,fun D m T hE hT hc=>?_⟩;have hp:=hE.m.p.pos;have hyz:=zDw h hE hT (k:=l+1) (by omega) c2 (xL (p:=m.Prime) (D:=D) (by omega));have g3:(a:Int)+1<at0 x.zA l:=by
     have:a+1<(at0 x.zA l).toNat:=g2;omega
    have hF:=foV D m T hE hT hc;have hav:V (suf (exx D x m T) l) (((a:Int)+1)::fo (exx D x m T) (l+1) (zeros ((exx D x m T).zA.length-(l+1))) (cwd x l (nw (l+1) y1).reverse)):=by
     rw[yF (x:=exx D x m T) (by rw[wH h hE hT];omega)];refine⟨⟨by omega,?_⟩,hF⟩;show(a:Int)+1<at0 (exx D x m T).zA l;rw[tA h hE hT hk];exact g3
    have hd:=zNc (D:=D) (x:=x) (m:=m) (T:=T) (k:=l) (by omega) (nw (l+1) y1).reverse;have d3':=d3 D m T hE hT hc;rw[show(((a+1:Nat):Int))=(a:Int)+1 from by omega]at d3';rw[val D m T hE hT hc,zGe h hE hT hk hc hyz,if_neg (by omega),zO8 h hE hT hk hc c2,←zAJ h hE hT hk,zO6 h hE hT hk hc hz2 hav hd,d3',jV h hE hT (by omega) d2,jV h hE hT (by omega) d2,←zNd (by omega),zHR (by omega),zHR (by omega),tF,tF (u:=tv m.Prime D m T tr2)]
   ·have g4:a+1=yI x l:=by omega
    have hpe:=jF h hk;have hnp:=sS h hpe hk;have hvv:∀b∈nw 0 (x.zS.getD l [])++cwd x l (nw (l+1) y1).reverse,l+1≤b∧b<x.zA.length:=fun b hb=>by
     simp only[Jh]at hb;rcases hb with hb|hb
     ·exact hnp.2 b hb
     ·exact hcw b hb
    obtain⟨tr2,y2,d1,d2,d3⟩:=zO9 hk P z hz2 0 (by omega) _ hvv;rw[Hc,Jj,Ja]at d1;have k3:Col x l (J1 (a+1) l++(cwd x l (nw (l+1) y1).reverse++z)) ((l,cwd x l (nw (l+1) y1).reverse++z)::tr2) (nw l y2):=by
     refine .step (fun b hb=>?_) (by rw[g4];exact zVs (zJV h hk) _) d1;simp only[Jh]at hb;rcases hb with hb|hb|hb
     ·have:=Js hb;omega
     ·have:=hcw b hb;omega
     ·exact hz2 b hb
    refine⟨_,y2,k1.trans (k2.trans k3),d2,fun D m T hE hT hc=>?_⟩;have hp:=hE.m.p.pos;have hyz:=zDw h hE hT (k:=l+1) (by omega) c2 (xL (p:=m.Prime) (D:=D) (by omega));have g3:(a:Int)+1=at0 x.zA l:=by
     have:a+1=(at0 x.zA l).toNat:=g4;omega
    have hF:=foV D m T hE hT hc;have hd:=zNc (D:=D) (x:=x) (m:=m) (T:=T) (k:=l) (by omega) (nw (l+1) y1).reverse;have htk:=zBP h hE hT hk;have hwx:V (suf x (l+1)) ((x.zS.getD l []).drop (l+1)):=jK hpe hk;have hwz:=zDw h hE hT (k:=l+1) (by omega) hwx (xL (p:=m.Prime) (D:=D) (by omega));have hw:(lvl (exx D x m T) l).w=adK m.Prime D (x.zA.length-(l+1)) ((x.zS.getD l []).drop (l+1)++zeros D) (T.getD l []):=by
     rw[zHH h hE hT hk,jV h hE hT (by omega) hwx,vT htk];rfl
    have hwV:=zP6 h hE hT hk;have hFw:=zP7 h hE hT hk hvv (zNb h hE hT (by omega));have em:mul (suf (exx D x m T) (l+1)) (lvl (exx D x m T) l).w (fo (exx D x m T) (l+1) (zeros ((exx D x m T).zA.length-(l+1))) (cwd x l (nw (l+1) y1).reverse))=adK m.Prime D (x.zA.length-(l+1)) (fo (exx D x m T) (l+1) (zeros ((exx D x m T).zA.length-(l+1))) (nw 0 (x.zS.getD l [])++cwd x l (nw (l+1) y1).reverse)) (wD m.Prime D (T.getD l []) (wM m.Prime D m.zF (cwd x l (nw (l+1) y1).reverse) (idM D))):=by
     rw[←zHW h hE hT hk hc hcw hwV,hw,zRQ h hE hT hk hc hcw hwz htk,←zHU h hE hT _ (l+1) (by omega:l+1+(x.zA.length-(l+1))=x.zA.length) hc _ hwx,←zCK,←hnp.1]
    have hav:V (suf (exx D x m T) l) ((0:Int)::fo (exx D x m T) (l+1) (zeros ((exx D x m T).zA.length-(l+1))) (nw 0 (x.zS.getD l [])++cwd x l (nw (l+1) y1).reverse)):=by
     rw[yF (x:=exx D x m T) (by rw[wH h hE hT];omega)];refine⟨⟨by omega,?_⟩,hFw⟩;show(0:Int)<at0 (exx D x m T).zA l;rw[tA h hE hT hk];omega
    have d3':=d3 D m T hE hT hc;rw[show(((0:Nat):Int))=0 from rfl]at d3';rw[val D m T hE hT hc,zGe h hE hT hk hc hyz,if_pos (by omega),zO8 h hE hT hk hc c2,zLD h hE hT hk hc hF hd hwV,em,zVt h hE hT (by omega) hFw,g3,Int.sub_self,←zAJ h hE hT hk,zO6 h hE hT hk hc hz2 hav (qA (by omega)),d3',jV h hE hT (by omega) d2,jV h hE hT (by omega) d2,zEU,←zNd (by omega),←zEV (by omega),zHR (by omega),zHR (by omega)];show y2++adv m.Prime D (adv m.Prime D (tv m.Prime D m T tr2) (adv m.Prime D _ _)) _=y2++adv m.Prime D _ (adv m.Prime D _ (adv m.Prime D _ (tv m.Prime D m T tr2)));rw[tF,tF (u:=tv m.Prime D m T tr2),tF (u:=wD m.Prime D (T.getD l []) _),zDm]
theorem zUe:∀(d k:Nat),k+d=x.zA.length→ ∀z:List Nat,(∀a∈z,k≤a∧a<x.zA.length)→ ∃tr y,qI x k z tr y
 |0,k,hk,z,hz=>by
  have:z=[]:=by
   cases z with
   |nil=>rfl
   |cons a z=>have:=hz a (by simp);omega
  subst this;refine⟨[],[],.refl _,by rw[vR (x:=x) (k:=k) (by omega)];rfl,fun D m T hE hT _=>?_⟩;show zeros _=[]++zeros D;rw[zHT h hE hT (by omega),show x.zA.length-k=0 from by omega];rfl
 |d+1,k,hk,z,hz=>by
  have ho:=zJV h (show k<x.zA.length by omega);obtain⟨tr,y,c1,c2,c3⟩:=zO9 h (show k<x.zA.length by omega) (zUe d (k+1) (by omega)) z hz 0 (by omega) [] (fun b hb=>by simp at hb);refine⟨tr,y,by simpa using c1,c2,fun D m T hE hT hc=>?_⟩;rw[←c3 D m T hE hT hc];have hl:=wH h hE hT;rw[show(exx D x m T).zA.length-k=(exx D x m T).zA.length-(k+1)+1 from by omega];rfl
end
end Go.Pl

namespace Go.Pl
open Go Go.Ab Go.Wk Go.Pc
section
variable {D:Nat}{x:SPr}{m:zH}{T:Mx} (h:Pres x) (hE:ExB x.zA.length D x m T) (hT:∀i,i<T.length→Row m.Prime D (T.getD i []))
 include h hE hT
variable {k:Nat} (hk:k<x.zA.length) (hc:wR (suf (exx D x m T) (k+1)))
 include hk hc
theorem zG0{w1 w2:List Nat}{t1 t2:List (Nat×List Nat)}{y1 y2:Vec}(k1:qI x k w1 t1 y1)(k2:qI x k w2 t2 y2){r1 r2:Nat}{s1 s2:List Nat}{b:Int}{A1 A2:Vec}(hA1:V (suf (exx D x m T) (k+1)) A1)(hA2:V (suf (exx D x m T) (k+1)) A2)
  (v1:fo (exx D x m T) k (zeros ((exx D x m T).zA.length-k)) w1=b::A1)(v2:fo (exx D x m T) k (zeros ((exx D x m T).zA.length-k)) w2=b::A2)
  (htk:(adK m.Prime D (x.zA.length-(k+1)) A1 (wD m.Prime D (T.getD r1 []) (wM m.Prime D m.zF s1 (idM D)))).take (x.zA.length-(k+1))=(adK m.Prime D (x.zA.length-(k+1)) A2 (wD m.Prime D (T.getD r2 []) (wM m.Prime D m.zF s2 (idM D)))).take (x.zA.length-(k+1))):
  tv m.Prime D m T ((r1,s1)::t1)=tv m.Prime D m T ((r2,s2)::t2)↔adK m.Prime D (x.zA.length-(k+1)) A1 (wD m.Prime D (T.getD r1 []) (wM m.Prime D m.zF s1 (idM D)))=adK m.Prime D (x.zA.length-(k+1)) A2 (wD m.Prime D (T.getD r2 []) (wM m.Prime D m.zF s2 (idM D))):=by
 have _:=hA1;have _:=hA2;have key:∀(w:List Nat)(t:List (Nat×List Nat))(y:Vec)(A:Vec)(r:Nat)(s:List Nat),qI x k w t y→fo (exx D x m T) k (zeros ((exx D x m T).zA.length-k)) w=b::A→
   b::adK m.Prime D (x.zA.length-(k+1)) A (wD m.Prime D (T.getD r []) (wM m.Prime D m.zF s (idM D)))=y++tv m.Prime D m T ((r,s)::t):=by
  intro w t y A r s kc v;rw[←zAJ h hE hT hk,←v,kc.val D m T hE hT hc,jV h hE hT (by omega) kc.v,tF];rfl
 have e1:=key w1 t1 y1 A1 r1 s1 k1 v1;have e2:=key w2 t2 y2 A2 r2 s2 k2 v2;have l1:=vC h (by omega) k1.v;have l2:=vC h (by omega) k2.v;have hy:y1=y2:=by
  have a1:=congrArg (Jbs (x.zA.length-(k+1)+1)) e1;have a2:=congrArg (Jbs (x.zA.length-(k+1)+1)) e2;rw[K7,Jm (by omega)]at a1 a2;rw[←a1,←a2,htk]
 subst hy;constructor
 ·intro g
  rw[g,←e2]at e1;exact(Qu.inj e1).2
 ·intro g
  rw[g,e2]at e1;exact(List.append_cancel_left e1).symm
theorem zEg{v:List Nat}(hv:∀a∈v,k+1≤a∧a<x.zA.length){z:List Nat}:fo (exx D x m T) k (zeros ((exx D x m T).zA.length-k)) (v++k::z)=fo (exx D x m T) k ((1:Int)::sig (suf (exx D x m T) (k+1)) (lvl (exx D x m T) k) (fo (exx D x m T) (k+1) (zeros ((exx D x m T).zA.length-(k+1))) v)) z:=by
 have ho:=(h.os.2 k hk).pos;have hl:=wH h hE hT;have hF:=zP7 h hE hT hk hv (zNb h hE hT (by omega));rw[show zeros ((exx D x m T).zA.length-k)=0::zeros ((exx D x m T).zA.length-(k+1))from by rw[show(exx D x m T).zA.length-k=(exx D x m T).zA.length-(k+1)+1 from by omega];rfl,zCK,zHV h hE hT hk hc (by omega) v _ hv,qC,zGe h hE hT hk hc hF,if_neg (by omega)];rfl
 omit hc in
theorem zEW{y:Vec}(hy:V (suf x (k+1)) y):sig (suf (exx D x m T) (k+1)) (lvl (exx D x m T) k) (y++zeros D)=(nw (k+1) y).foldl (fun acc j=>mul (suf (exx D x m T) (k+1)) acc ((lvl (exx D x m T) k).cs.getD (j-(k+1)) [])) (zeros ((exx D x m T).zA.length-(k+1))):=by
  have hp:=hE.m.p.pos;have hyl:=vC h (by omega) hy;rw[zBO h hE hT hk hy (xL (by omega)),zA6];obtain⟨y1,u1,e,hy1,hu1⟩:=(sG h hE hT (x.zA.length-(k+1)) (k+1) (by omega) _).1 (zHJ h hE hT hk (y:=y));have hy1l:=vC h (by omega) hy1;rw[e,Jm hy1l,K3 hy1l,zA5 hu1,←e];unfold sgG;rw[yN];refine zHS _ (fun j=>(lvl (exx D x m T) k).cs.getD (j-(k+1)) []) [] _ _ _ _ (fun j hj=>?_) (by rw[uS h hE hT];omega);rw[uS h hE hT]at hj;rw[show k+1+j-(k+1)=j from by omega,zBN h hE hT hk,J2,J2,Jl (by rw[uS h hE hT];exact hj)]
 omit hc in
theorem zLG{j:Nat}(h1:k+1≤j)(h2:j<x.zA.length):V (suf (exx D x m T) (k+1)) ((lvl (exx D x m T) k).cs.getD (j-(k+1)) []):=by
  have hcl:V (suf x (k+1)) ((lcj x k j).drop (k+1)):=jK (uH h (by omega) h2) hk;rw[zHL h hE hT hk h1 h2,show(lvl x k).cs.getD (j-(k+1)) []=(lcj x k j).drop (k+1)from map_drop];exact zDw h hE hT (by omega) hcl (zDA h hE hT (by omega) h2)
theorem zLH:∀{v:List Nat},(∀a∈v,k+1≤a∧a<x.zA.length)→ ∀{e f:Vec},V (suf (exx D x m T) (k+1)) e→V (suf (exx D x m T) (k+1)) f→v.foldl (fun acc j=>mul (suf (exx D x m T) (k+1)) acc ((lvl (exx D x m T) k).cs.getD (j-(k+1)) [])) (mul (suf (exx D x m T) (k+1)) e f)=mul (suf (exx D x m T) (k+1)) e (v.foldl (fun acc j=>mul (suf (exx D x m T) (k+1)) acc ((lvl (exx D x m T) k).cs.getD (j-(k+1)) [])) f)
 | [],_,_,_,_,_=>rfl
 |a::w,hw,e,f,he,hf=>by
  have hok:=vX h hE hT (k:=k+1) (by omega);have G:=(zC1 _ hok hc).toMon;have hg:=zLG h hE hT hk (hw a (by simp)).1 (hw a (by simp)).2;simp only[Ut];rw[G.assoc he hf hg,zLH (fun b hb=>hw b (by simp[hb])) he (G.cl hf hg)]
theorem csE{j:Nat}(h1:k+1≤j)(h2:j<x.zA.length):V (suf x (k+1)) ((lcj x k j).drop (k+1))∧(lvl (exx D x m T) k).cs.getD (j-(k+1)) []=adK m.Prime D (x.zA.length-(k+1)) ((lcj x k j).drop (k+1)++zeros D) (T.getD (base x.zA.length k+(j-(k+1))) [])∧
  fo (exx D x m T) (k+1) (zeros ((exx D x m T).zA.length-(k+1))) (nw 0 (lcj x k j))=(lcj x k j).drop (k+1)++zeros D∧(∀a∈nw 0 (lcj x k j),k+1≤a∧a<x.zA.length):=by
 have hcl:V (suf x (k+1)) ((lcj x k j).drop (k+1)):=jK (uH h (by omega) h2) hk;have hnc:=sS h (uH h (show k<j by omega) h2) hk;refine⟨hcl,?_,?_,hnc.2⟩
 ·rw[zHL h hE hT hk h1 h2,show(lvl x k).cs.getD (j-(k+1)) []=(lcj x k j).drop (k+1)from map_drop,jV h hE hT (by omega) hcl,vT (zDA h hE hT (by omega) h2)]
 ·rw[hnc.1];exact zHU h hE hT _ (k+1) (by omega:k+1+(x.zA.length-(k+1))=x.zA.length) hc _ hcl
theorem wE:V (suf x (k+1)) ((x.zS.getD k []).drop (k+1))∧(lvl (exx D x m T) k).w=adK m.Prime D (x.zA.length-(k+1)) ((x.zS.getD k []).drop (k+1)++zeros D) (T.getD k [])∧
  fo (exx D x m T) (k+1) (zeros ((exx D x m T).zA.length-(k+1))) (nw 0 (x.zS.getD k []))=(x.zS.getD k []).drop (k+1)++zeros D∧(∀a∈nw 0 (x.zS.getD k []),k+1≤a∧a<x.zA.length):=by
 have hwx:V (suf x (k+1)) ((x.zS.getD k []).drop (k+1)):=jK (jF h hk) hk;have hnp:=sS h (jF h hk) hk;refine⟨hwx,?_,?_,hnp.2⟩
 ·rw[zHH h hE hT hk,jV h hE hT (by omega) hwx,vT (zBP h hE hT hk)];rfl
 ·rw[hnp.1];exact zHU h hE hT _ (k+1) (by omega:k+1+(x.zA.length-(k+1))=x.zA.length) hc _ hwx
 omit hc in
theorem zJX{a:Nat}(ha:a<x.zA.length):wM m.Prime D m.zF [a] (idM D)=m.zF.getD a []:=by
  have _:=h;have _:=hT;have _:=hk;show PM m.Prime D (idM D) (m.zF.getD a [])=_;exact zBH (hE.m.mat a ha)
theorem zVw(hL:LC x k){t1 t2:List (Nat×List Nat)}{y1 y2:Vec}(k1:qI x k (nw 0 (x.zS.getD k [])++[k]) t1 y1)(k2:qI x k (k::nw 0 (x.zS.getD k [])) t2 y2):
  tv m.Prime D m T ((k,[k])::t1)=tv m.Prime D m T ((k,[])::t2)↔sig (suf (exx D x m T) (k+1)) (lvl (exx D x m T) k) (lvl (exx D x m T) k).w=(lvl (exx D x m T) k).w:=by
 have hp:=hE.m.p.pos;have ho:=(h.os.2 k hk).pos;obtain⟨w1,w2,w3,w4⟩:=wE h hE hT hk hc;have htk:=zBP h hE hT hk;have hwz:=zDw h hE hT (k:=k+1) (by omega) w1 (xL (p:=m.Prime) (D:=D) (by omega));have hwV:=zP6 h hE hT hk;have v1:=zEg h hE hT hk hc w4 (z:=[]);rw[w3]at v1;have v2:=zEg h hE hT hk hc (v:=[]) (fun a ha=>by simp at ha) (z:=nw 0 (x.zS.getD k []));have hz:fo (exx D x m T) (k+1) (zeros ((exx D x m T).zA.length-(k+1))) []=zeros ((exx D x m T).zA.length-(k+1)):=rfl;have hs:sig (suf (exx D x m T) (k+1)) (lvl (exx D x m T) k) (zeros ((exx D x m T).zA.length-(k+1)))=zeros ((exx D x m T).zA.length-(k+1)):=by
  unfold sig;rw[sX,yN]
 rw[hz,hs,zHV h hE hT hk hc (by omega) _ _ w4,w3]at v2;have e1:adK m.Prime D (x.zA.length-(k+1)) (sig (suf (exx D x m T) (k+1)) (lvl (exx D x m T) k) ((x.zS.getD k []).drop (k+1)++zeros D)) (wD m.Prime D (T.getD k []) (wM m.Prime D m.zF [k] (idM D)))=sig (suf (exx D x m T) (k+1)) (lvl (exx D x m T) k) (lvl (exx D x m T) k).w:=by
  rw[zJX h hE hT hk hk,w2,zHQ h hE hT hk hwz htk]
 have e2:adK m.Prime D (x.zA.length-(k+1)) ((x.zS.getD k []).drop (k+1)++zeros D) (wD m.Prime D (T.getD k []) (wM m.Prime D m.zF [] (idM D)))=(lvl (exx D x m T) k).w:=by
  rw[show wM m.Prime D m.zF [] (idM D)=idM D from rfl,jE htk,w2]
 have:=zG0 h hE hT hk hc k1 k2 (r1:=k) (r2:=k) (s1:=[k]) (s2:=[]) (zA7 h hE hT hk hwz) hwz v1 v2 (by
  rw[e1,e2,zEd h hE hT hk hwV,zHH h hE hT hk,Jm (by have:=vC h (by omega) w1;exact this)];exact hL.c3)
 rw[e1,e2]at this;exact this
end
end Go.Pl

namespace Go.Pl
open Go Go.Ab Go.Wk Go.Pc
theorem zVx:∀(a o:Nat)(b:Int)(c:Vec),nw o (zeros a++b::c)=J1 b.toNat (o+a)++nw (o+a+1) c
 |0,o,b,c=>rfl
 |a+1,o,b,c=>by
  rw[show zeros (a+1)++b::c=0::(zeros a++b::c)from rfl];simp only[nw,Hq,Hc,Jj];rw[zVx a (o+1) b c,show o+1+a=o+(a+1)from by omega]
theorem zJY{os v:List Int}{j k:Nat}(hv:Exp os v j)(hk:k≤j):Exp os v k:=⟨hv.1,fun i hi=>hv.2 i (by omega)⟩
section
variable {x:SPr} (h:Pres x)
 include h
theorem zVy:∀(a k:Nat){b:Int}{c:Vec},k+a<x.zA.length→0≤b→b<at0 x.zA (k+a)→V (suf x (k+a+1)) c→V (suf x k) (zeros a++b::c)
 |0,k,b,c,ha,h0,h1,hc=>by
  rw[yF (x:=x) (by omega)];exact⟨⟨h0,h1⟩,hc⟩
 |a+1,k,b,c,ha,h0,h1,hc=>by
  have:=(h.os.2 k (by omega)).pos;rw[yF (x:=x) (by omega)];refine⟨⟨Int.le_refl 0,?_⟩,?_⟩
  ·show(0:Int)<at0 x.zA k
   omega
  ·exact zVy a (k+1) (by omega) h0 (by rwa [show k+1+a=k+(a+1)from by omega]) (by rwa [show k+1+a+1=k+(a+1)+1 from by omega])
end
section
variable {D:Nat}{x:SPr}{m:zH}{T:Mx} (h:Pres x) (hE:ExB x.zA.length D x m T) (hT:∀i,i<T.length→Row m.Prime D (T.getD i []))
 include h hE hT
variable {k:Nat} (hk:k<x.zA.length) (hc:wR (suf (exx D x m T) (k+1)))
 include hk hc
theorem zNe{j:Nat}(h1:k+1≤j)(h2:j<x.zA.length){b:Int}(h0:0≤b)(hb:b<at0 x.zA j){c:Vec}(hcv:V (suf x (j+1)) c):V (suf x (k+1)) (zeros (j-(k+1))++b::c)∧nw (k+1) (zeros (j-(k+1))++b::c)=J1 b.toNat j++nw (j+1) c∧
  fo (exx D x m T) (k+1) (zeros ((exx D x m T).zA.length-(k+1))) (J1 b.toNat j++nw (j+1) c)=(zeros (j-(k+1))++b::c)++zeros D:=by
 have e:k+1+(j-(k+1))=j:=by omega
 have hv:V (suf x (k+1)) (zeros (j-(k+1))++b::c):=zVy h (j-(k+1)) (k+1) (by omega) h0 (by rwa [e]) (by rwa [e]);have hn:nw (k+1) (zeros (j-(k+1))++b::c)=J1 b.toNat j++nw (j+1) c:=by rw[zVx,e]
 refine⟨hv,hn,?_⟩;rw[←hn];exact zHU h hE hT _ (k+1) (by omega:k+1+(x.zA.length-(k+1))=x.zA.length) hc _ hv
theorem zOA{e:Vec}(he:V (suf (exx D x m T) (k+1)) e):mul (suf (exx D x m T) (k+1)) (zeros ((exx D x m T).zA.length-(k+1))) e=e:=by
 have G:=(zC1 _ (vX h hE hT (k:=k+1) (by omega)) hc).toMon;have:=G.onel he
 rwa [yN]at this
theorem zOB{j:Nat}(h1:k+1≤j)(h2:j<x.zA.length):fo (exx D x m T) (k+1) (zeros ((exx D x m T).zA.length-(k+1))) [j]=xJ ((exx D x m T).zA.length-(k+1)) (j-(k+1))∧sig (suf (exx D x m T) (k+1)) (lvl (exx D x m T) k) (xJ ((exx D x m T).zA.length-(k+1)) (j-(k+1)))=(lvl (exx D x m T) k).cs.getD (j-(k+1)) []:=by
 have ho:=(h.os.2 j h2).pos;have hz:V (suf x (j+1)) (zeros (x.zA.length-(j+1))):=by
  have:=wP (h.okAt (k:=j+1) (by omega));rwa [yN]at this
 obtain⟨v1,v2,v3⟩:=zNe h hE hT hk hc h1 h2 (b:=1) (by omega) (by omega) hz;have hn:nw (j+1) (zeros (x.zA.length-(j+1)))=[]:=zCJ _ _;rw[hn]at v2 v3;have hf:fo (exx D x m T) (k+1) (zeros ((exx D x m T).zA.length-(k+1))) [j]=xJ ((exx D x m T).zA.length-(k+1)) (j-(k+1)):=zOA h hE hT hk hc (zCL h hE hT h1 h2);refine⟨hf,?_⟩;rw[←hf];have v3':fo (exx D x m T) (k+1) (zeros ((exx D x m T).zA.length-(k+1))) [j]=_:=v3;rw[v3',zEW h hE hT hk v1,v2];exact zOA h hE hT hk hc (zLG h hE hT hk h1 h2)
theorem zVz(hL:LC x k){j:Nat}(h1:k+1≤j)(h2:j<x.zA.length){t1 t2:List (Nat×List Nat)}{y1 y2:Vec}(k1:qI x k (nw 0 (x.zS.getD j [])++[k]) t1 y1)(k2:qI x k (J1 (yI x j-1) j++k::nw 0 (lcj x k j)) t2 y2):
  tv m.Prime D m T ((j,[k])::t1)=tv m.Prime D m T ((base x.zA.length k+(j-(k+1)),[])::t2)↔c1E (exx D x m T) k j:=by
 have hp:=hE.m.p.pos;have ho:=(h.os.2 k hk).pos;have hj:=(h.os.2 j h2).pos;have hpe:=zJY (jF h h2) (show k≤j by omega);have hwx:V (suf x (k+1)) ((x.zS.getD j []).drop (k+1)):=jK hpe hk;have hnp:=sS h hpe hk;have htj:=zBP h hE hT h2;have hwz:=zDw h hE hT (k:=k+1) (by omega) hwx (xL (p:=m.Prime) (D:=D) (by omega));obtain⟨c1,c2,c3,c4⟩:=csE h hE hT hk hc h1 h2;have hcz:=zDw h hE hT (k:=k+1) (by omega) c1 (xL (p:=m.Prime) (D:=D) (by omega));have hcV:=zLG h hE hT hk h1 h2;have htk:=zDA h hE hT (show k<j by omega) h2;have hz0:V (suf x (j+1)) (zeros (x.zA.length-(j+1))):=by
  have:=wP (h.okAt (k:=j+1) (by omega));rwa [yN]at this
 obtain⟨u1,u2,u3⟩:=zNe h hE hT hk hc h1 h2 (b:=at0 x.zA j-1) (by omega) (by omega) hz0;rw[zCJ,J9,show(at0 x.zA j-1).toNat=yI x j-1 from by show _=(at0 x.zA j).toNat-1;omega]at u2 u3;have hok:=vX h hE hT (k:=k+1) (by omega);have G:=(zC1 _ hok hc).toMon;have v1:=zEg h hE hT hk hc hnp.2 (z:=[]);rw[hnp.1,zHU h hE hT _ (k+1) (by omega:k+1+(x.zA.length-(k+1))=x.zA.length) hc _ hwx,←hnp.1]at v1;have hr:∀a∈J1 (yI x j-1) j,k+1≤a∧a<x.zA.length:=fun a ha=>by
  have:=Js ha;omega
 have v2:=zEg h hE hT hk hc hr (z:=nw 0 (lcj x k j));have hpw:∀q(e:Vec),(J1 q j).foldl (fun acc j=>mul (suf (exx D x m T) (k+1)) acc ((lvl (exx D x m T) k).cs.getD (j-(k+1)) [])) e=iter q (fun v=>mul (suf (exx D x m T) (k+1)) v ((lvl (exx D x m T) k).cs.getD (j-(k+1)) [])) e:=by
  intro q
  induction q with
  |zero=>intro e;rfl
  |succ q ih=>intro e;rw[Jq,Ut,ih];rfl
 have hpq:sig (suf (exx D x m T) (k+1)) (lvl (exx D x m T) k) (fo (exx D x m T) (k+1) (zeros ((exx D x m T).zA.length-(k+1))) (J1 (yI x j-1) j))=pw (mul (suf (exx D x m T) (k+1))) (zeros (suf (exx D x m T) (k+1)).length) ((lvl (exx D x m T) k).cs.getD (j-(k+1)) []) (yI x j-1):=by
  rw[u3,zEW h hE hT hk u1,u2,hpw,yN];rfl
 have hpV:V (suf (exx D x m T) (k+1)) (pw (mul (suf (exx D x m T) (k+1))) (zeros (suf (exx D x m T) (k+1)).length) ((lvl (exx D x m T) k).cs.getD (j-(k+1)) []) (yI x j-1)):=tL G hcV _;rw[hpq,zHV h hE hT hk hc (by omega) _ _ c4,zHW h hE hT hk hc c4 hpV,c3]at v2;have e1:adK m.Prime D (x.zA.length-(k+1)) (sig (suf (exx D x m T) (k+1)) (lvl (exx D x m T) k) ((x.zS.getD j []).drop (k+1)++zeros D)) (wD m.Prime D (T.getD j []) (wM m.Prime D m.zF [k] (idM D)))=sig (suf (exx D x m T) (k+1)) (lvl (exx D x m T) k) (((exx D x m T).zS.getD j []).drop (k+1)):=by
  rw[zJX h hE hT hk hk,zEb h hE hT (by omega) h2,←zHQ h hE hT hk hwz htj,jV h hE hT (by omega) hwx,vT htj]
 have e2:adK m.Prime D (x.zA.length-(k+1)) (mul (suf (exx D x m T) (k+1)) (pw (mul (suf (exx D x m T) (k+1))) (zeros (suf (exx D x m T) (k+1)).length) ((lvl (exx D x m T) k).cs.getD (j-(k+1)) []) (yI x j-1)) ((lcj x k j).drop (k+1)++zeros D)) (wD m.Prime D (T.getD (base x.zA.length k+(j-(k+1))) []) (wM m.Prime D m.zF [] (idM D)))=pw (mul (suf (exx D x m T) (k+1))) (zeros (suf (exx D x m T) (k+1)).length) ((lvl (exx D x m T) k).cs.getD (j-(k+1)) []) (at0 (exx D x m T).zA j).toNat:=by
  rw[show wM m.Prime D m.zF [] (idM D)=idM D from rfl,jE htk,←zLD h hE hT hk hc hcz htk hpV,←c2,tA h hE hT h2,show(at0 x.zA j).toNat=(yI x j-1)+1 from by show _=(at0 x.zA j).toNat-1+1;omega]
  conv=>rhs;rw[pw,vB]
  rfl
 have hpow:V (suf (exx D x m T) (k+1)) (((exx D x m T).zS.getD j []).drop (k+1)):=by
  rw[zEb h hE hT (by omega) h2];exact zDw h hE hT (by omega) hwx htj
 have:=zG0 h hE hT hk hc k1 k2 (r1:=j) (r2:=base x.zA.length k+(j-(k+1))) (s1:=[k]) (s2:=[]) (zA7 h hE hT hk hwz) (xC hok hpV hcz) v1 v2 (by
  rw[e1,e2,zEd h hE hT hk hpow,zHP h hE hT hk (by omega) h2,zVr h hE hT (by omega) hcV,zJd h hE hT hk h1 h2,tA h hE hT h2];exact(hL.c1 j h1 h2).symm)
 rw[e1,e2]at this;rw[this];exact eq_comm
theorem zV0(hL:LC x k){i j:Nat}(h1:k+1≤i)(hij:i<j)(h2:j<x.zA.length){t1 t2:List (Nat×List Nat)}{y1 y2:Vec}(k1:qI x k (i::(nw 0 (lcj x i j)++[k])) t1 y1)(k2:qI x k (j::k::nw 0 (lcj x k i)) t2 y2):
  tv m.Prime D m T ((base x.zA.length i+(j-(i+1)),[k])::t1)=tv m.Prime D m T ((base x.zA.length k+(i-(k+1)),[])::t2)↔c2E (exx D x m T) k i j:=by
 have hp:=hE.m.p.pos;have ho:=(h.os.2 k hk).pos;have hi:=(h.os.2 i (by omega)).pos;have hij':=uH h hij h2;have hce:=zJY hij' (show k≤i by omega);have hcx:V (suf x (k+1)) ((lcj x i j).drop (k+1)):=jK hce hk;have hci:V (suf x (i+1)) ((lcj x i j).drop (i+1)):=jK hij' (by omega);have hn:=sS h hce hk;have hni:=sS h hij' (by omega);have htij:=zDA h hE hT hij h2;have hxz:=zDw h hE hT (k:=k+1) (by omega) hcx (xL (p:=m.Prime) (D:=D) (by omega));obtain⟨c1,c2,c3,c4⟩:=csE h hE hT hk hc h1 (show i<x.zA.length by omega);have hcz:=zDw h hE hT (k:=k+1) (by omega) c1 (xL (p:=m.Prime) (D:=D) (by omega));have hciV:=zLG h hE hT hk h1 (show i<x.zA.length by omega);have hcjV:=zLG h hE hT hk (show k+1≤j by omega) h2;have htk:=zDA h hE hT (show k<i by omega) (show i<x.zA.length by omega);have hok:=vX h hE hT (k:=k+1) (by omega);obtain⟨u1,u2,u3⟩:=zNe h hE hT hk hc h1 (show i<x.zA.length by omega) (b:=1) (by omega) (by omega) hci;rw[←hni.1,show J1 (1:Int).toNat i++nw 0 (lcj x i j)=i::nw 0 (lcj x i j)from rfl]at u2 u3;have hr:∀a∈i::nw 0 (lcj x i j),k+1≤a∧a<x.zA.length:=fun a ha=>by
  simp only[Jc]at ha;rcases ha with rfl|ha
  ·omega
  ·exact hn.2 a ha
 have v1:=zEg h hE hT hk hc hr (z:=[]);have es:sig (suf (exx D x m T) (k+1)) (lvl (exx D x m T) k) (fo (exx D x m T) (k+1) (zeros ((exx D x m T).zA.length-(k+1))) (i::nw 0 (lcj x i j)))=mul (suf (exx D x m T) (k+1)) ((lvl (exx D x m T) k).cs.getD (i-(k+1)) []) (sig (suf (exx D x m T) (k+1)) (lvl (exx D x m T) k) ((lcj x i j).drop (k+1)++zeros D)):=by
  rw[u3,zEW h hE hT hk u1,u2,Ut,zOA h hE hT hk hc hciV,zEW h hE hT hk hcx,←hn.1];have:=zLH h hE hT hk hc hn.2 hciV (zNb h hE hT (k:=k+1) (by omega));rw[zWG h hE hT (by omega) hciV]at this;exact this
 rw[es]at v1;have v2:=zEg h hE hT hk hc (v:=[j]) (fun a ha=>by simp only[List.mem_singleton]at ha;omega) (z:=nw 0 (lcj x k i));obtain⟨g1,g2⟩:=zOB h hE hT hk hc (show k+1≤j by omega) h2;rw[g1,g2,zHV h hE hT hk hc (by omega) _ _ c4,zHW h hE hT hk hc c4 hcjV,c3]at v2;have hsV:=zA7 h hE hT hk hxz;have hcon:((((exx D x m T).zC.getD i []).getD (j-(i+1)) []).drop (k+1))=adK m.Prime D (x.zA.length-(k+1)) ((lcj x i j).drop (k+1)++zeros D) (T.getD (base x.zA.length i+(j-(i+1))) []):=by
  rw[zF9 h hE hT (by omega) hij h2,jV h hE hT (by omega) hcx,vT htij]
 have e1:adK m.Prime D (x.zA.length-(k+1)) (mul (suf (exx D x m T) (k+1)) ((lvl (exx D x m T) k).cs.getD (i-(k+1)) []) (sig (suf (exx D x m T) (k+1)) (lvl (exx D x m T) k) ((lcj x i j).drop (k+1)++zeros D))) (wD m.Prime D (T.getD (base x.zA.length i+(j-(i+1))) []) (wM m.Prime D m.zF [k] (idM D)))=mul (suf (exx D x m T) (k+1)) ((lvl (exx D x m T) k).cs.getD (i-(k+1)) []) (sig (suf (exx D x m T) (k+1)) (lvl (exx D x m T) k) ((((exx D x m T).zC.getD i []).getD (j-(i+1)) []).drop (k+1))):=by
  rw[zJX h hE hT hk hk,←zLD h hE hT hk hc hsV (vH (by omega)) hciV,←zHQ h hE hT hk hxz htij,←hcon]
 have e2:adK m.Prime D (x.zA.length-(k+1)) (mul (suf (exx D x m T) (k+1)) ((lvl (exx D x m T) k).cs.getD (j-(k+1)) []) ((lcj x k i).drop (k+1)++zeros D)) (wD m.Prime D (T.getD (base x.zA.length k+(i-(k+1))) []) (wM m.Prime D m.zF [] (idM D)))=mul (suf (exx D x m T) (k+1)) ((lvl (exx D x m T) k).cs.getD (j-(k+1)) []) ((lvl (exx D x m T) k).cs.getD (i-(k+1)) []):=by
  rw[show wM m.Prime D m.zF [] (idM D)=idM D from rfl,jE htk,←zLD h hE hT hk hc hcz htk hcjV,←c2]
 have hcnV:V (suf (exx D x m T) (k+1)) ((((exx D x m T).zC.getD i []).getD (j-(i+1)) []).drop (k+1)):=by rw[hcon];exact zWH h hE hT (by omega) hxz
 have:=zG0 h hE hT hk hc k1 k2 (r1:=base x.zA.length i+(j-(i+1))) (r2:=base x.zA.length k+(i-(k+1))) (s1:=[k]) (s2:=[]) (xC hok hciV hsV) (xC hok hcjV hcz) v1 v2 (by
  rw[e1,e2,zBR h hE hT (by omega) hciV (zA7 h hE hT hk hcnV),zBR h hE hT (by omega) hcjV hciV,zEd h hE hT hk hcnV,zJd h hE hT hk h1 (by omega),zJd h hE hT hk (by omega) h2,zRI h hE hT hk h1 hij h2];exact(hL.c2 i h1 (by omega) j (by omega) h2).symm)
 rw[e1,e2]at this;rw[this];exact eq_comm
end
end Go.Pl

namespace Go.Pl
open Go Go.Ab Go.Wk Go.Pc
section
variable {D:Nat}{x:SPr}{m:zH}{T:Mx} (h:Pres x) (hE:ExB x.zA.length D x m T) (hT:∀i,i<T.length→Row m.Prime D (T.getD i []))
 include h hE hT
variable {k:Nat} (hk:k<x.zA.length) (hc:wR (suf (exx D x m T) (k+1)))
 include hk hc
 omit hc in
theorem zNf:∀(q:Nat){e:Vec},V (suf (exx D x m T) (k+1)) e→V (suf (exx D x m T) (k+1)) (iter q (sig (suf (exx D x m T) (k+1)) (lvl (exx D x m T) k)) e)
  |0,_,he=>he
  |q+1,_,he=>zNf q (zA7 h hE hT hk he)
 omit hc in
theorem zV1:∀(q:Nat){e d:Vec},V (suf (exx D x m T) (k+1)) e→Row m.Prime D d→iter q (sig (suf (exx D x m T) (k+1)) (lvl (exx D x m T) k)) (adK m.Prime D (x.zA.length-(k+1)) e d)=adK m.Prime D (x.zA.length-(k+1)) (iter q (sig (suf (exx D x m T) (k+1)) (lvl (exx D x m T) k)) e) (wD m.Prime D d (wM m.Prime D m.zF (J1 q k) (idM D)))
  |0,e,d,_,hd=>by
    show adK _ _ _ e d=adK _ _ _ e (wD m.Prime D d (idM D));rw[jE hd]
  |q+1,e,d,he,hd=>by
    have hp:=hE.m.p.pos;show iter q _ (sig _ _ (adK _ _ _ e d))=adK _ _ _ (iter q _ (sig _ _ e)) _;rw[zHQ h hE hT hk he hd,zV1 q (zA7 h hE hT hk he) (vH (by omega)),Jq,show k::J1 q k=[k]++J1 q k from rfl,zEV (by omega),zJX h hE hT hk hk]
theorem zRT:∀(q:Nat){c:Int}{e:Vec},0≤c→c+(q:Int)<at0 x.zA k→V (suf (exx D x m T) (k+1)) e→fo (exx D x m T) k (c::e) (J1 q k)=(c+(q:Int))::iter q (sig (suf (exx D x m T) (k+1)) (lvl (exx D x m T) k)) e
 |0,c,e,_,_,_=>by
  show c::e=(c+((0:Nat):Int))::e
  congr 1;omega
 |q+1,c,e,h0,h1,he=>by
  rw[Jq,qC,zGe h hE hT hk hc he,if_neg (by omega),zRT q (by omega) (by omega) (zA7 h hE hT hk he)];show(c+1+(q:Int))::iter q _ (sig _ _ e)=(c+((q+1:Nat):Int))::iter q _ (sig _ _ e)
  congr 1;omega
theorem zV2(hL:LC x k){j:Nat}(h1:k+1≤j)(h2:j<x.zA.length){t1 t2:List (Nat×List Nat)}{y1 y2:Vec}(k1:qI x k (k::(nw 0 (lcj x k j)++J1 (yI x k-1) k)) t1 y1)(k2:qI x k (j::nw 0 (x.zS.getD k [])) t2 y2):
  tv m.Prime D m T ((base x.zA.length k+(j-(k+1)),J1 (yI x k-1) k)::t1)=tv m.Prime D m T ((k,[])::t2)↔c4E (exx D x m T) k j:=by
 have hp:=hE.m.p.pos;have ho:=(h.os.2 k hk).pos;have hon:(yI x k:Int)=at0 x.zA k:=by show(((at0 x.zA k).toNat:Nat):Int)=_;omega
 obtain⟨w1,w2,w3,w4⟩:=wE h hE hT hk hc;have hwz:=zDw h hE hT (k:=k+1) (by omega) w1 (xL (p:=m.Prime) (D:=D) (by omega));have hwV:=zP6 h hE hT hk;have htk:=zBP h hE hT hk;obtain⟨c1,c2,c3,c4⟩:=csE h hE hT hk hc h1 h2;have hcz:=zDw h hE hT (k:=k+1) (by omega) c1 (xL (p:=m.Prime) (D:=D) (by omega));have htj:=zDA h hE hT (show k<j by omega) h2;have hok:=vX h hE hT (k:=k+1) (by omega);have hg:=zCL h hE hT h1 h2;obtain⟨g1,g2⟩:=zOB h hE hT hk hc h1 h2;have hz:fo (exx D x m T) (k+1) (zeros ((exx D x m T).zA.length-(k+1))) []=zeros ((exx D x m T).zA.length-(k+1)):=rfl;have hs:sig (suf (exx D x m T) (k+1)) (lvl (exx D x m T) k) (zeros ((exx D x m T).zA.length-(k+1)))=zeros ((exx D x m T).zA.length-(k+1)):=by
  unfold sig;rw[sX,yN]
 have hl:=wH h hE hT;have v1:=zEg h hE hT hk hc (v:=[]) (fun a ha=>by simp at ha) (z:=nw 0 (lcj x k j)++J1 (yI x k-1) k);rw[hz,hs]at v1;have v0:=v1.trans (zCK (e:=exx D x m T) (k:=k) (u:=(1:Int)::zeros ((exx D x m T).zA.length-(k+1))) (v:=nw 0 (lcj x k j)) (w:=J1 (yI x k-1) k));rw[zHV h hE hT hk hc (by omega) _ _ c4,c3]at v0;have hit:=zNf h hE hT hk (yI x k-2) hcz;have v1':fo (exx D x m T) k (zeros ((exx D x m T).zA.length-k)) (k::(nw 0 (lcj x k j)++J1 (yI x k-1) k))=0::mul (suf (exx D x m T) (k+1)) (lvl (exx D x m T) k).w (iter (yI x k-1) (sig (suf (exx D x m T) (k+1)) (lvl (exx D x m T) k)) ((lcj x k j).drop (k+1)++zeros D)):=by
  refine v0.trans ?_;rw[show yI x k-1=(yI x k-2)+1 from by omega,H2,zCK,zRT h hE hT hk hc (yI x k-2) (by omega) (by omega) hcz];show mul _ _ _=_;rw[zGe h hE hT hk hc hit,if_pos (by omega),vB]
  congr 1;omega
 have hr:∀a∈j::nw 0 (x.zS.getD k []),k+1≤a∧a<x.zA.length:=fun a ha=>by
  simp only[Jc]at ha;rcases ha with rfl|ha
  ·omega
  ·exact w4 a ha
 have v2:fo (exx D x m T) k (zeros ((exx D x m T).zA.length-k)) (j::nw 0 (x.zS.getD k []))=0::mul (suf (exx D x m T) (k+1)) (xJ ((exx D x m T).zA.length-(k+1)) (j-(k+1))) ((x.zS.getD k []).drop (k+1)++zeros D):=by
  rw[show zeros ((exx D x m T).zA.length-k)=0::zeros ((exx D x m T).zA.length-(k+1))from by rw[show(exx D x m T).zA.length-k=(exx D x m T).zA.length-(k+1)+1 from by omega];rfl,zHV h hE hT hk hc (by omega) _ _ hr,qC,zOA h hE hT hk hc hg,zHW h hE hT hk hc w4 hg,w3]
 have e1:adK m.Prime D (x.zA.length-(k+1)) (mul (suf (exx D x m T) (k+1)) (lvl (exx D x m T) k).w (iter (yI x k-1) (sig (suf (exx D x m T) (k+1)) (lvl (exx D x m T) k)) ((lcj x k j).drop (k+1)++zeros D))) (wD m.Prime D (T.getD (base x.zA.length k+(j-(k+1))) []) (wM m.Prime D m.zF (J1 (yI x k-1) k) (idM D)))=mul (suf (exx D x m T) (k+1)) (lvl (exx D x m T) k).w (iter (lvl (exx D x m T) k).o.toNat (sig (suf (exx D x m T) (k+1)) (lvl (exx D x m T) k)) (xJ ((exx D x m T).zA.length-(k+1)) (j-(k+1)))):=by
  rw[←zLD h hE hT hk hc (zNf h hE hT hk _ hcz) (vH (by omega)) hwV,←zV1 h hE hT hk _ hcz htj,←c2,←g2,zBy h hE hT hk,show(at0 x.zA k).toNat=(yI x k-1)+1 from by show _=(at0 x.zA k).toNat-1+1;omega];rfl
 have e2:adK m.Prime D (x.zA.length-(k+1)) (mul (suf (exx D x m T) (k+1)) (xJ ((exx D x m T).zA.length-(k+1)) (j-(k+1))) ((x.zS.getD k []).drop (k+1)++zeros D)) (wD m.Prime D (T.getD k []) (wM m.Prime D m.zF [] (idM D)))=mul (suf (exx D x m T) (k+1)) (xJ ((exx D x m T).zA.length-(k+1)) (j-(k+1))) (lvl (exx D x m T) k).w:=by
  rw[show wM m.Prime D m.zF [] (idM D)=idM D from rfl,jE htk,←zLD h hE hT hk hc hwz htk hg,←w2]
 have htw:(lvl (exx D x m T) k).w.take (x.zA.length-(k+1))=(lvl x k).w:=zHP h hE hT hk (Jp k) hk;have hul:(xJ (x.zA.length-(k+1)) (j-(k+1))).length=x.zA.length-(k+1):=by simp[xJ,zeros]
 have:=zG0 h hE hT hk hc k1 k2 (r1:=base x.zA.length k+(j-(k+1))) (r2:=k) (s1:=J1 (yI x k-1) k) (s2:=[]) (xC hok hwV (zNf h hE hT hk _ hcz)) (xC hok hg hwz) v1' v2 (by
  rw[e1,e2,zBR h hE hT (by omega) hwV (zNf h hE hT hk _ hg),zBR h hE hT (by omega) hg hwV,zJQ h hE hT hk _ hg,htw,zRJ h hE hT hk h1 h2,Jm hul,zBy h hE hT hk];exact hL.c4 j h1 h2)
 rw[e1,e2]at this;exact this
end
structure zJZ (x:SPr) (k:Nat) (r1:Nat) (s1 w1:List Nat) (r2:Nat) (s2 w2:List Nat) (t1 t2:List (Nat×List Nat)):Prop where
 a:∃u1 y1,t1=(r1,s1)::u1∧qI x k w1 u1 y1
 b:∃u2 y2,t2=(r2,s2)::u2∧qI x k w2 u2 y2
structure zV3 (x:SPr) (D:Nat) (m:zH) (T:Mx):Prop where
 p1:∀k j,k<j→j<x.zA.length→ ∀t1 t2,zJZ x k j [k] (nw 0 (x.zS.getD j [])++[k]) (base x.zA.length k+(j-(k+1))) [] (J1 (yI x j-1) j++k::nw 0 (lcj x k j)) t1 t2→tv m.Prime D m T t1=tv m.Prime D m T t2
 p2:∀k i j,k<i→i<j→j<x.zA.length→ ∀t1 t2,zJZ x k (base x.zA.length i+(j-(i+1))) [k] (i::(nw 0 (lcj x i j)++[k])) (base x.zA.length k+(i-(k+1))) [] (j::k::nw 0 (lcj x k i)) t1 t2→tv m.Prime D m T t1=tv m.Prime D m T t2
 p3:∀k,k<x.zA.length→ ∀t1 t2,zJZ x k k [k] (nw 0 (x.zS.getD k [])++[k]) k [] (k::nw 0 (x.zS.getD k [])) t1 t2→tv m.Prime D m T t1=tv m.Prime D m T t2
 p4:∀k j,k<j→j<x.zA.length→ ∀t1 t2,zJZ x k (base x.zA.length k+(j-(k+1))) (J1 (yI x k-1) k) (k::(nw 0 (lcj x k j)++J1 (yI x k-1) k)) k [] (j::nw 0 (x.zS.getD k [])) t1 t2→tv m.Prime D m T t1=tv m.Prime D m T t2
end Go.Pl

namespace Go.Pl
open Go Go.Ab Go.Wk Go.Pc
section
variable {D:Nat}{x:SPr}{m:zH}{T:Mx} (h:Pres x) (hE:ExB x.zA.length D x m T) (hT:∀i,i<T.length→Row m.Prime D (T.getD i []))
 include h hE hT
theorem zJe{k:Nat}(hk:k<x.zA.length)(hL:LC x k)(hc:wR (suf (exx D x m T) (k+1))):LCn x (exx D x m T) k↔
  (∀j,k<j→j<x.zA.length→ ∀t1 t2,zJZ x k j [k] (nw 0 (x.zS.getD j [])++[k]) (base x.zA.length k+(j-(k+1))) [] (J1 (yI x j-1) j++k::nw 0 (lcj x k j)) t1 t2→tv m.Prime D m T t1=tv m.Prime D m T t2)∧
  (∀i j,k<i→i<j→j<x.zA.length→ ∀t1 t2,zJZ x k (base x.zA.length i+(j-(i+1))) [k] (i::(nw 0 (lcj x i j)++[k])) (base x.zA.length k+(i-(k+1))) [] (j::k::nw 0 (lcj x k i)) t1 t2→tv m.Prime D m T t1=tv m.Prime D m T t2)∧
  (∀t1 t2,zJZ x k k [k] (nw 0 (x.zS.getD k [])++[k]) k [] (k::nw 0 (x.zS.getD k [])) t1 t2→tv m.Prime D m T t1=tv m.Prime D m T t2)∧
  (∀j,k<j→j<x.zA.length→ ∀t1 t2,zJZ x k (base x.zA.length k+(j-(k+1))) (J1 (yI x k-1) k) (k::(nw 0 (lcj x k j)++J1 (yI x k-1) k)) k [] (j::nw 0 (x.zS.getD k [])) t1 t2→tv m.Prime D m T t1=tv m.Prime D m T t2):=by
 have hC:=fun(w:List Nat)(hw:∀a∈w,k≤a∧a<x.zA.length)=>zUe h (x.zA.length-k) k (by omega) w hw
 have hcon:∀i j,i<j→j<x.zA.length→ ∀a∈nw 0 (lcj x i j),i+1≤a∧a<x.zA.length:=fun i j hi hj=>(sS h (uH h hi hj) (by omega)).2
 have hpow:∀i,i<x.zA.length→ ∀a∈nw 0 (x.zS.getD i []),i+1≤a∧a<x.zA.length:=fun i hi=>(sS h (jF h hi) hi).2
 constructor
 ·intro g
  refine⟨?_,?_,?_,?_⟩
  ·rintro j h1 h2 t1 t2 ⟨⟨u1,y1,rfl,k1⟩,⟨u2,y2,rfl,k2⟩⟩
   exact(zVz h hE hT hk hc hL (by omega) h2 k1 k2).2 (g.c1 j (by omega) h2)
  ·rintro i j h1 hij h2 t1 t2 ⟨⟨u1,y1,rfl,k1⟩,⟨u2,y2,rfl,k2⟩⟩
   exact(zV0 h hE hT hk hc hL (by omega) hij h2 k1 k2).2 (g.c2 i (by omega) (by omega) j (by omega) h2)
  ·rintro t1 t2 ⟨⟨u1,y1,rfl,k1⟩,⟨u2,y2,rfl,k2⟩⟩
   exact(zVw h hE hT hk hc hL k1 k2).2 g.c3
  ·rintro j h1 h2 t1 t2 ⟨⟨u1,y1,rfl,k1⟩,⟨u2,y2,rfl,k2⟩⟩
   exact(zV2 h hE hT hk hc hL (by omega) h2 k1 k2).2 (g.c4 j (by omega) h2)
 ·rintro⟨g1,g2,g3,g4⟩
  refine⟨fun j h1 h2=>?_,fun i h1 hi j hij h2=>?_,?_,fun j h1 h2=>?_⟩
  ·obtain⟨u1,y1,k1⟩:=hC (nw 0 (x.zS.getD j [])++[k]) (fun a ha=>by
    simp only[Jh,List.mem_singleton]at ha;rcases ha with ha|rfl
    ·have:=hpow j h2 a ha;omega
    ·omega)
   obtain⟨u2,y2,k2⟩:=hC (J1 (yI x j-1) j++k::nw 0 (lcj x k j)) (fun a ha=>by
    simp only[Jh,Jc]at ha;rcases ha with ha|rfl|ha
    ·have:=Js ha;omega
    ·omega
    ·have:=hcon k j (by omega) h2 a ha;omega)
   exact(zVz h hE hT hk hc hL h1 h2 k1 k2).1 (g1 j (by omega) h2 _ _ ⟨⟨u1,y1,rfl,k1⟩,⟨u2,y2,rfl,k2⟩⟩)
  ·obtain⟨u1,y1,k1⟩:=hC (i::(nw 0 (lcj x i j)++[k])) (fun a ha=>by
    simp only[Jh,Jc,Jb7,or_false]at ha;rcases ha with rfl|ha|rfl
    ·omega
    ·have:=hcon i j (by omega) h2 a ha;omega
    ·omega)
   obtain⟨u2,y2,k2⟩:=hC (j::k::nw 0 (lcj x k i)) (fun a ha=>by
    simp only[Jc]at ha;rcases ha with rfl|rfl|ha
    ·omega
    ·omega
    ·have:=hcon k i (by omega) hi a ha;omega)
   exact(zV0 h hE hT hk hc hL h1 (by omega) h2 k1 k2).1 (g2 i j (by omega) (by omega) h2 _ _ ⟨⟨u1,y1,rfl,k1⟩,⟨u2,y2,rfl,k2⟩⟩)
  ·obtain⟨u1,y1,k1⟩:=hC (nw 0 (x.zS.getD k [])++[k]) (fun a ha=>by
    simp only[Jh,List.mem_singleton]at ha;rcases ha with ha|rfl
    ·have:=hpow k hk a ha;omega
    ·omega)
   obtain⟨u2,y2,k2⟩:=hC (k::nw 0 (x.zS.getD k [])) (fun a ha=>by
    simp only[Jc]at ha;rcases ha with rfl|ha
    ·omega
    ·have:=hpow k hk a ha;omega)
   exact(zVw h hE hT hk hc hL k1 k2).1 (g3 _ _ ⟨⟨u1,y1,rfl,k1⟩,⟨u2,y2,rfl,k2⟩⟩)
  ·obtain⟨u1,y1,k1⟩:=hC (k::(nw 0 (lcj x k j)++J1 (yI x k-1) k)) (fun a ha=>by
    simp only[Jh,Jc]at ha;rcases ha with rfl|ha|ha
    ·omega
    ·have:=hcon k j (by omega) h2 a ha;omega
    ·have:=Js ha;omega)
   obtain⟨u2,y2,k2⟩:=hC (j::nw 0 (x.zS.getD k [])) (fun a ha=>by
    simp only[Jc]at ha;rcases ha with rfl|ha
    ·omega
    ·have:=hpow k hk a ha;omega)
   exact(zV2 h hE hT hk hc hL h1 h2 k1 k2).1 (g4 j (by omega) h2 _ _ ⟨⟨u1,y1,rfl,k1⟩,⟨u2,y2,rfl,k2⟩⟩)
theorem zP8(hx:wR (suf x 0))(hr:zDZ x m D):zV3 x D m T↔wR (suf (exx D x m T) 0):=by
 have hl:=wH h hE hT;have hlc:∀k,k<x.zA.length→LC x k:=fun k hk=>((zA4 h.w hk).1 (zBt hx k)).2
 constructor
 ·intro g
  have key:∀(d k:Nat),k+d=x.zA.length→wR (suf (exx D x m T) k):=by
   intro d
   induction d with
   |zero=>intro k hk;exact zHN h hE hT D k (by omega) (by omega)
   |succ d ih=>
    intro k hk;have hc:=ih (k+1) (by omega);refine(zA4 (zGw h hE hT) (by omega)).2 ⟨hc,zRD h hE hT hr (by omega) ((zJe h hE hT (by omega) (hlc k (by omega)) hc).2 ⟨?_,?_,?_,?_⟩)⟩
    ·exact fun j h1 h2 t1 t2 b=>g.p1 k j h1 h2 t1 t2 b
    ·exact fun i j h1 hij h2 t1 t2 b=>g.p2 k i j h1 hij h2 t1 t2 b
    ·exact fun t1 t2 b=>g.p3 k (by omega) t1 t2 b
    ·exact fun j h1 h2 t1 t2 b=>g.p4 k j h1 h2 t1 t2 b
  exact key x.zA.length 0 (by omega)
 ·intro g
  have g0:=(zO3 h hE hT hr).1 g;have hck:∀k,k<x.zA.length→wR (suf (exx D x m T) (k+1)):=fun k _=>zBt g (k+1)
  have key:=fun k(hk:k<x.zA.length)=>(zJe h hE hT hk (hlc k hk) (hck k hk)).1 (g0 k hk)
  exact⟨fun k j h1 h2=>(key k (by omega)).1 j h1 h2,fun k i j h1 hij h2=>(key k (by omega)).2.1 i j h1 hij h2,fun k hk=>(key k hk).2.2.1,fun k j h1 h2=>(key k (by omega)).2.2.2 j h1 h2⟩
end
theorem Col.det{x:SPr}{k k':Nat}{w:List Nat}{t1 t2:List (Nat×List Nat)}{w1 w2:List Nat}(h1:Col x k w t1 w1)(h2:Col x k' w t2 w2)(n1:stS x w1=none)(n2:stS x w2=none):t1=t2∧w1=w2:=by
 induction h1 generalizing t2 with
 |refl w=>
  cases h2 with
  |refl=>exact⟨rfl,rfl⟩
  |step _ hs _=>rw[n1]at hs;cases hs
 |step hw hs hc ih=>
  cases h2 with
  |refl=>rw[n2]at hs;cases hs
  |step _ hs2 hc2=>
   rw[hs]at hs2;cases hs2;obtain⟨rfl,rfl⟩:=ih hc2 n1;exact⟨rfl,rfl⟩
end Go.Pl

namespace Go.Pl
open Go Go.Ab Go.Wk Go.Pc
structure Fh (n D D2:Nat) (m m2:zH) (T T2:Mx) (φ:Vec→Vec):Prop where
 pr:m2.Prime=m.Prime
 row:∀u,Row m.Prime D u→Row m.Prime D2 (φ u)
 z:φ (zeros D)=zeros D2
 add:∀u v,Row m.Prime D u→Row m.Prime D v→φ (adv m.Prime D u v)=adv m.Prime D2 (φ u) (φ v)
 act:∀k,k<n→ ∀u,Row m.Prime D u→φ (wD m.Prime D u (m.zF.getD k []))=wD m.Prime D2 (φ u) (m2.zF.getD k [])
 t:∀r,r<base n n→φ (T.getD r [])=T2.getD r []
def Fm(φ:Vec→Vec)(N:Nat)(e:Vec):Vec:=e.take N++φ (e.drop N)
theorem zA8{φ:Vec→Vec}{N:Nat}{y u:Vec}(hy:y.length=N):Fm φ N (y++u)=y++φ u:=by
 rw[Fm,Jm hy,K3 hy]
theorem zG1{φ:Vec→Vec}{N:Nat}{b:Int}{e:Vec}:Fm φ (N+1) (b::e)=b::Fm φ N e:=by
 simp only[Fm,K7,List.drop_succ_cons,Jn]
section
variable {D D2:Nat}{x:SPr}{m m2:zH}{T T2:Mx}{φ:Vec→Vec} (h:Pres x) (hE:ExB x.zA.length D x m T) (hT:∀i,i<T.length→Row m.Prime D (T.getD i [])) (hE2:ExB x.zA.length D2 x m2 T2) (hT2:∀i,i<T2.length→Row m2.Prime D2 (T2.getD i [])) (hF:Fh x.zA.length D D2 m m2 T T2 φ)
 include h hE hT hE2 hT2 hF
theorem zYC{k:Nat}(hk:k≤x.zA.length):Fm φ (x.zA.length-k) (zeros (suf (exx D x m T) k).length)=zeros (suf (exx D2 x m2 T2) k).length:=by
 rw[zAW h hE hT hk,zAW h hE2 hT2 hk,zA8 (zZ _),hF.z]
theorem zOC{k j:Nat}(h1:k+1≤j)(h2:j<x.zA.length):Fm φ (x.zA.length-(k+1)) ((lvl (exx D x m T) k).cs.getD (j-(k+1)) [])=(lvl (exx D2 x m2 T2) k).cs.getD (j-(k+1)) []:=by
 have hn:=hE.hn;have hb:=zBL x.zA.length (by omega) k (by omega);have hcl:V (suf x (k+1)) ((lcj x k j).drop (k+1)):=jK (uH h (by omega) h2) (by omega);rw[zHL h hE hT (by omega) h1 h2,zHL h hE2 hT2 (by omega) h1 h2,show(lvl x k).cs.getD (j-(k+1)) []=(lcj x k j).drop (k+1)from map_drop,zA8 (vC h (by omega) hcl),hF.t _ (by omega)]
theorem zWJ{k:Nat}(hk:k<x.zA.length):Fm φ (x.zA.length-(k+1)) (lvl (exx D x m T) k).w=(lvl (exx D2 x m2 T2) k).w:=by
 have hn:=hE.hn;have hb:=uG x.zA.length (by omega);have hwx:V (suf x (k+1)) ((x.zS.getD k []).drop (k+1)):=jK (jF h hk) hk;rw[zHH h hE hT hk,zHH h hE2 hT2 hk,show(lvl x k).w=(x.zS.getD k []).drop (k+1)from rfl,zA8 (vC h (by omega) hwx),hF.t _ (by omega)]
theorem zRU{k:Nat}(hk:k<x.zA.length)(ih:∀a b,V (suf (exx D x m T) (k+1)) a→V (suf (exx D x m T) (k+1)) b→Fm φ (x.zA.length-(k+1)) (mul (suf (exx D x m T) (k+1)) a b)=mul (suf (exx D2 x m2 T2) (k+1)) (Fm φ (x.zA.length-(k+1)) a) (Fm φ (x.zA.length-(k+1)) b)){v:Vec}(hv:V (suf (exx D x m T) (k+1)) v):
  Fm φ (x.zA.length-(k+1)) (sig (suf (exx D x m T) (k+1)) (lvl (exx D x m T) k) v)=sig (suf (exx D2 x m2 T2) (k+1)) (lvl (exx D2 x m2 T2) k) (Fm φ (x.zA.length-(k+1)) v):=by
 have hp:=hE.m.p.pos;have ok:=vX h hE hT (k:=k+1) (by omega);obtain⟨y,u,rfl,hy,hu⟩:=(sG h hE hT (x.zA.length-(k+1)) (k+1) (by omega) _).1 hv;have hyl:=vC h (by omega) hy;have hu2:Row m2.Prime D2 (φ u):=by rw[hF.pr];exact hF.row u hu
 have hsg:Fm φ (x.zA.length-(k+1)) (sgG D x m T k y)=sgG D2 x m2 T2 k y:=by
  unfold sgG;rw[zEP (S:=V (suf (exx D x m T) (k+1))) (n:=mul (suf (exx D2 x m2 T2) (k+1))) (Fm φ (x.zA.length-(k+1))) (fun a b=>xC ok) ih _ _ _ (zO1 h hE hT hk) (wP ok),zYC h hE hT hE2 hT2 hF (by omega)]
  congr 1
  apply Ja0
  ·rw[Jf,uS h hE hT,uS h hE2 hT2]
  ·intro i h1 h2
   rw[Jf,uS h hE hT]at h1;have e1:(eC1 x T k)[i]'(by rw[uS h hE hT];exact h1)=(lvl (exx D x m T) k).cs.getD (k+1+i-(k+1)) []:=by
    rw[show k+1+i-(k+1)=i from by omega,zBN h hE hT hk,J2,Jl (by rw[uS h hE hT];exact h1),J3 (by rw[uS h hE hT];exact h1)];rfl
   have e2:(eC1 x T2 k)[i]'h2=(lvl (exx D2 x m2 T2) k).cs.getD (k+1+i-(k+1)) []:=by
    rw[show k+1+i-(k+1)=i from by omega,zBN h hE2 hT2 hk,J2,Jl h2,J3 h2];rfl
   rw[Jcp,e1,e2,zOC h hE hT hE2 hT2 hF (by omega) (by omega)]
 obtain⟨y1,u1,e,hy1,hu1⟩:=(sG h hE hT (x.zA.length-(k+1)) (k+1) (by omega) _).1 (zHJ h hE hT hk (y:=y));have hy1l:=vC h (by omega) hy1;rw[e,zA8 hy1l]at hsg;rw[zBO h hE hT hk hy hu,e,Jm hy1l,K3 hy1l,zA8 hy1l,zA8 hyl,zBO h hE2 hT2 hk hy hu2,←hsg,Jm hy1l,K3 hy1l,hF.pr,hF.add _ _ hu1 (vH (by omega)),hF.act k hk u hu]
theorem zKa{k:Nat}(hk:k<x.zA.length)(ih:∀a b,V (suf (exx D x m T) (k+1)) a→V (suf (exx D x m T) (k+1)) b→Fm φ (x.zA.length-(k+1)) (mul (suf (exx D x m T) (k+1)) a b)=mul (suf (exx D2 x m2 T2) (k+1)) (Fm φ (x.zA.length-(k+1)) a) (Fm φ (x.zA.length-(k+1)) b)):∀(q:Nat){v:Vec},V (suf (exx D x m T) (k+1)) v→
  Fm φ (x.zA.length-(k+1)) (iter q (sig (suf (exx D x m T) (k+1)) (lvl (exx D x m T) k)) v)=iter q (sig (suf (exx D2 x m2 T2) (k+1)) (lvl (exx D2 x m2 T2) k)) (Fm φ (x.zA.length-(k+1)) v)
 |0,_,_=>rfl
 |q+1,v,hv=>by
  show Fm φ _ (iter q _ (sig _ _ v))=iter q _ (sig _ _ (Fm φ _ v));rw[zKa hk ih q (zA7 h hE hT hk hv),zRU h hE hT hE2 hT2 hF hk ih hv]
theorem zNg:∀(d k:Nat),k+d=x.zA.length→ ∀a b,V (suf (exx D x m T) k) a→V (suf (exx D x m T) k) b→Fm φ (x.zA.length-k) (mul (suf (exx D x m T) k) a b)=mul (suf (exx D2 x m2 T2) k) (Fm φ (x.zA.length-k) a) (Fm φ (x.zA.length-k) b)
 |0,k,hk,a,b,ha,hb=>by
  have hp:=hE.m.p.pos;have hp2:=hE2.m.p.pos;rw[zAp h hE hT D k (by omega) (by omega)]at ha hb ⊢
  rw[zAp h hE2 hT2 D2 k (by omega) (by omega)];have ha':=(zD9 _ _).1 ha;have hb':=(zD9 _ _).1 hb;have e:∀w:Vec,Fm φ (x.zA.length-k) w=φ w:=fun w=>by rw[Fm,show x.zA.length-k=0 from by omega];rfl
  rw[e,e,e,qO (by omega) D _ _ ha' hb',hF.add _ _ ha' hb',hF.pr,qO (by omega) D2 _ _ (hF.row _ ha') (hF.row _ hb')]
 |d+1,k,hk,a,b,ha,hb=>by
  have hkn:k<x.zA.length:=by omega
  have ih:=zNg d (k+1) (by omega);have hl:=wH h hE hT;have hl2:=wH h hE2 hT2;have ok:=vX h hE hT (k:=k+1) (by omega);have hwV:=zP6 h hE hT hkn;rw[yF (x:=exx D x m T) (by omega)]at ha hb ⊢
  rw[yF (x:=exx D2 x m2 T2) (by omega)];cases a with
  |nil=>exact ha.elim
  |cons a u=>
  cases b with
  |nil=>exact hb.elim
  |cons b v=>
   obtain⟨_,ha⟩:=ha;obtain⟨_,hb⟩:=hb;have hit:=zNf h hE hT hkn b.toNat ha;have hm:=xC ok hit hb;rw[show x.zA.length-k=x.zA.length-(k+1)+1 from by omega,zG1,zG1,yV,yV,zBy h hE hT hkn,zBy h hE2 hT2 hkn,←zKa h hE hT hE2 hT2 hF hkn ih _ ha,←ih _ _ hit hb]
   by_cases g:a+b≥at0 x.zA k
   ·rw[if_pos g,if_pos g,zG1,ih _ _ hwV hm,zWJ h hE hT hE2 hT2 hF hkn]
   ·rw[if_neg g,if_neg g,zG1]
end
end Go.Pl

namespace Go.Pl
open Go Go.Ab Go.Wk Go.Pc
section
variable {D D2:Nat}{x:SPr}{m m2:zH}{T T2:Mx}{φ:Vec→Vec} (h:Pres x) (hE:ExB x.zA.length D x m T) (hT:∀i,i<T.length→Row m.Prime D (T.getD i [])) (hE2:ExB x.zA.length D2 x m2 T2) (hT2:∀i,i<T2.length→Row m2.Prime D2 (T2.getD i [])) (hF:Fh x.zA.length D D2 m m2 T T2 φ)
 include h hE hT hE2 hT2 hF
theorem zV4{k:Nat}(hk:k<x.zA.length){c:Vec}(hc:V (suf (exx D x m T) (k+1)) c):∀q,Fm φ (x.zA.length-(k+1)) (pw (mul (suf (exx D x m T) (k+1))) (zeros (suf (exx D x m T) (k+1)).length) c q)=pw (mul (suf (exx D2 x m2 T2) (k+1))) (zeros (suf (exx D2 x m2 T2) (k+1)).length) (Fm φ (x.zA.length-(k+1)) c) q
 |0=>zYC h hE hT hE2 hT2 hF (by omega)
 |q+1=>by
  have ok:=vX h hE hT (k:=k+1) (by omega);have hq:V (suf (exx D x m T) (k+1)) (pw (mul (suf (exx D x m T) (k+1))) (zeros (suf (exx D x m T) (k+1)).length) c q):=vL (fun w hw=>xC ok hw hc) q (wP ok);have ih:=zV4 hk hc q;rw[pw,vB,pw,vB];show Fm φ _ (mul _ (pw _ _ c q) c)=mul _ (pw _ _ (Fm φ _ c) q) (Fm φ _ c);rw[zNg h hE hT hE2 hT2 hF _ (k+1) (by omega:k+1+(x.zA.length-(k+1))=x.zA.length) _ _ hq hc,ih]
theorem zWK{k j:Nat}(hk:k≤j)(hj:j<x.zA.length):V (suf (exx D x m T) (k+1)) (((exx D x m T).zS.getD j []).drop (k+1))∧Fm φ (x.zA.length-(k+1)) (((exx D x m T).zS.getD j []).drop (k+1))=((exx D2 x m2 T2).zS.getD j []).drop (k+1):=by
 have hn:=hE.hn;have hb:=uG x.zA.length (by omega);have hpx:V (suf x (k+1)) ((x.zS.getD j []).drop (k+1)):=jK (zJY (jF h hj) hk) (by omega);rw[zEb h hE hT hk hj,zEb h hE2 hT2 hk hj];exact⟨zDw h hE hT (by omega) hpx (zBP h hE hT hj),by rw[zA8 (vC h (by omega) hpx),hF.t _ (by omega)]⟩
theorem zWL{k i j:Nat}(hk:k≤i)(hi:i<j)(hj:j<x.zA.length):V (suf (exx D x m T) (k+1)) ((((exx D x m T).zC.getD i []).getD (j-(i+1)) []).drop (k+1))∧Fm φ (x.zA.length-(k+1)) ((((exx D x m T).zC.getD i []).getD (j-(i+1)) []).drop (k+1))=(((exx D2 x m2 T2).zC.getD i []).getD (j-(i+1)) []).drop (k+1):=by
 have hn:=hE.hn;have hb:=zBL x.zA.length (by omega) i (by omega);have hcx:V (suf x (k+1)) ((lcj x i j).drop (k+1)):=jK (zJY (uH h hi hj) hk) (by omega);rw[zF9 h hE hT hk hi hj,zF9 h hE2 hT2 hk hi hj];exact⟨zDw h hE hT (by omega) hcx (zDA h hE hT hi hj),by rw[zA8 (vC h (by omega) hcx),hF.t _ (by omega)]⟩
theorem zUf{k j:Nat}(h1:k+1≤j)(h2:j<x.zA.length):Fm φ (x.zA.length-(k+1)) (xJ ((exx D x m T).zA.length-(k+1)) (j-(k+1)))=xJ ((exx D2 x m2 T2).zA.length-(k+1)) (j-(k+1)):=by
 rw[zP5 h hE hT h1 h2,zP5 h hE2 hT2 h1 h2,zA8 (by simp[xJ,zeros]),hF.z]
theorem zOD{k:Nat}(hk:k<x.zA.length):LCQ (fun k a b=>Fm φ (x.zA.length-k) a=Fm φ (x.zA.length-k) b) x (exx D x m T) k↔LCn x (exx D2 x m2 T2) k:=by
 have hl:=wH h hE hT;have ok:=vX h hE hT (k:=k+1) (by omega);have hmul:=zNg h hE hT hE2 hT2 hF _ (k+1) (by omega:k+1+(x.zA.length-(k+1))=x.zA.length);have hsig:=fun v hv=>zRU h hE hT hE2 hT2 hF hk hmul (v:=v) hv
 have hwV:=zP6 h hE hT hk;have e1:∀j,k+1≤j→j<x.zA.length→(c1Q (fun k a b=>Fm φ (x.zA.length-k) a=Fm φ (x.zA.length-k) b) (exx D x m T) k j↔c1E (exx D2 x m2 T2) k j):=fun j h1 h2=>by
  obtain⟨p1,p2⟩:=zWK h hE hT hE2 hT2 hF (k:=k) (j:=j) (by omega) h2;unfold c1Q c1E;show Fm φ _ _=Fm φ _ _↔_;rw[zV4 h hE hT hE2 hT2 hF hk (zLG h hE hT hk h1 h2),zOC h hE hT hE2 hT2 hF h1 h2,hsig _ p1,p2,tA h hE hT h2,tA h hE2 hT2 h2]
 have e2:∀i j,k+1≤i→i<j→j<x.zA.length→(c2Q (fun k a b=>Fm φ (x.zA.length-k) a=Fm φ (x.zA.length-k) b) (exx D x m T) k i j↔c2E (exx D2 x m2 T2) k i j):=fun i j h1 hij h2=>by
  obtain⟨p1,p2⟩:=zWL h hE hT hE2 hT2 hF (k:=k) (by omega) hij h2;have ci:=zLG h hE hT hk h1 (show i<x.zA.length by omega);have cj:=zLG h hE hT hk (show k+1≤j by omega) h2;unfold c2Q c2E;show Fm φ _ _=Fm φ _ _↔_;rw[hmul _ _ cj ci,hmul _ _ ci (zA7 h hE hT hk p1),zOC h hE hT hE2 hT2 hF h1 (by omega),zOC h hE hT hE2 hT2 hF (by omega) h2,hsig _ p1,p2]
 have e3:Fm φ (x.zA.length-(k+1)) (sig (suf (exx D x m T) (k+1)) (lvl (exx D x m T) k) (lvl (exx D x m T) k).w)=Fm φ (x.zA.length-(k+1)) (lvl (exx D x m T) k).w↔sig (suf (exx D2 x m2 T2) (k+1)) (lvl (exx D2 x m2 T2) k) (lvl (exx D2 x m2 T2) k).w=(lvl (exx D2 x m2 T2) k).w:=by
  rw[hsig _ hwV,zWJ h hE hT hE2 hT2 hF hk]
 have e4:∀j,k+1≤j→j<x.zA.length→(c4Q (fun k a b=>Fm φ (x.zA.length-k) a=Fm φ (x.zA.length-k) b) (exx D x m T) k j↔c4E (exx D2 x m2 T2) k j):=fun j h1 h2=>by
  have hg:=zCL h hE hT h1 h2;unfold c4Q c4E;show Fm φ _ _=Fm φ _ _↔_;rw[hmul _ _ hwV (zNf h hE hT hk _ hg),hmul _ _ hg hwV,zKa h hE hT hE2 hT2 hF hk hmul _ hg,zUf h hE hT hE2 hT2 hF h1 h2,zWJ h hE hT hE2 hT2 hF hk,zBy h hE hT hk,zBy h hE2 hT2 hk]
 constructor
 ·intro g
  exact⟨fun j h1 h2=>(e1 j h1 h2).1 (g.c1 j h1 h2),fun i h1 hi j hij h2=>(e2 i j h1 (by omega) h2).1 (g.c2 i h1 hi j hij h2),e3.1 g.c3,fun j h1 h2=>(e4 j h1 h2).1 (g.c4 j h1 h2)⟩
 ·intro g
  exact⟨fun j h1 h2=>(e1 j h1 h2).2 (g.c1 j h1 h2),fun i h1 hi j hij h2=>(e2 i j h1 (by omega) h2).2 (g.c2 i h1 hi j hij h2),e3.2 g.c3,fun j h1 h2=>(e4 j h1 h2).2 (g.c4 j h1 h2)⟩
theorem zRV{m0:zH}(hM:Mv D x.zA.length m0 m)(hx:wR (suf x 0))(hr:zDZ x m2 D2):∃L,f_K ⟨x,m0,T⟩=some L∧L.length≤1000∧(∀r∈L,Row m.Prime D r)∧((∀r∈L,φ r=zeros D2)↔wR (suf (exx D2 x m2 T2) 0)):=by
 have hp:=hE.m.p.pos;have hp2:=hE2.m.p.pos;obtain⟨L,e,g⟩:=zWB h hE hT hM (Z:=fun r=>φ r=zeros D2) (Q:=fun k a b=>Fm φ (x.zA.length-k) a=Fm φ (x.zA.length-k) b) (fun k hk a b ha hb e=>by
  obtain⟨y,u,rfl,hy,hu,_,hyl⟩:=prV h hE hT hk ha;obtain⟨z,v,rfl,hz,hv,_,hzl⟩:=prV h hE hT hk hb;rw[Jm hyl,Jm hzl]at e;subst e;rw[K3 hyl,K3 hyl,zA8 hyl,zA8 hyl,List.append_cancel_left_eq];have ha:=zCG (p:=m.Prime) (D:=D) (r:=u) (s:=v) (k:=-1) hE.m.p;have hs:adv m.Prime D (sK m.Prime D u (-1) v) v=u:=by
   refine Eq.trans (zY (g:=fun j=>at0 u j) fun j hj=>?_) (uE hu.1).symm;have hr:=hu.2 j hj;rw[sK,yH hj,Int.emod_add_emod,show at0 u j+ -1*at0 v j+at0 v j=at0 u j from by omega,Kh (by omega) (by omega)]
  have hφ:=hF.add _ _ ha hv;rw[hs]at hφ;have hra:=hF.row _ ha;have hrv:=hF.row _ hv;constructor
  ·intro g
   rw[hφ,g,vT hrv]
  ·intro g
   rw[hφ,tF]at g;have:=(zTV (u:=φ v) hra (xL (p:=m.Prime) (D:=D2) (by omega))).1 (by rw[g,zA5 hrv]);exact this) hx
 refine⟨L,e,g.len,g.row,g.iff.trans ?_⟩;rw[zO3 h hE2 hT2 hr];exact⟨fun a k hk=>(zOD h hE hT hE2 hT2 hF hk).1 (a k hk),fun a k hk=>(zOD h hE hT hE2 hT2 hF hk).2 (a k hk)⟩
end
end Go.Pl
