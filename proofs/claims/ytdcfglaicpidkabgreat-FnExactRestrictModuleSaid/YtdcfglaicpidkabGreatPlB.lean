/- The program and the reference return the same modules restricted to submodules, for all arguments (FnExactRestrictModule). This file is a part of the proof. -/
import Derived.Test.YtdcfglaicpidkabGreatPlA
namespace Go.Pl
open Go Go.Ab Go.Wk Go.Pc
section
variable {p:Int} (hp:Prime p) {n:Nat} {out:Mx} {pv:Nat → Nat} (h:Red p n out pv) {u:List Int} {k q:Nat} (hu:Row p n u) (hk:k < n) (u1:at0 u k = 1) (ul:∀ j,j < k → at0 u j = 0) (up:∀ i,i < out.length → at0 u (pv i) = 0) (hq:q ≤ out.length) (q1:∀ i,i < q → pv i < k) (q2:∀ i,q ≤ i → i < out.length → k < pv i)
def oth (p:Int) (n:Nat) (out:Mx) (u:List Int) (k i:Nat):List Int:=addM p n (out.getD i []) (p - at0 (out.getD i []) k) u
def newR (p:Int) (n:Nat) (out:Mx) (u:List Int) (k q i:Nat):List Int:=if i < q then oth p n out u k i else if i = q then u else oth p n out u k (i - 1)
def newP (pv:Nat → Nat) (k q i:Nat):Nat:=if i < q then pv i else if i = q then k else pv (i - 1)
 include hp h hu hk u1 ul up hq q1 q2
theorem oth_at {i j:Nat} (hj:j < n):at0 (oth p n out u k i) j = (at0 (out.getD i []) j - at0 (out.getD i []) k * at0 u j) % p:=by
 have _:=hp;have _:=h;have _:=hu;have _:=hk;have _:=u1;have _:=ul;have _:=up;have _:=hq;have _:=q1;have _:=q2
 rw [oth,addM,mkv_at hj,show at0 (out.getD i []) j + (p - at0 (out.getD i []) k) * at0 u j = at0 (out.getD i []) j - at0 (out.getD i []) k * at0 u j + p * at0 u j from by rw [Int.sub_mul];omega,Int.add_mul_emod_self_left]
theorem oth_same {i j:Nat} (hi:i < out.length) (hj:j < n) (hz:at0 (out.getD i []) k = 0 ∨ at0 u j = 0):at0 (oth p n out u k i) j = ent out i j:=by
 rw [oth_at hp h hu hk u1 ul up hq q1 q2 hj]
 have:=(h.row i hi).2 j hj
 have e:at0 (out.getD i []) k * at0 u j = 0:=by rcases hz with g | g <;> rw [g] <;> simp
 rw [e,Int.sub_zero];exact Int.emod_eq_of_lt this.1 (by omega)
theorem oth_k {i:Nat}:at0 (oth p n out u k i) k = 0:=by
 rw [oth_at hp h hu hk u1 ul up hq q1 q2 hk,u1,Int.mul_one,Int.sub_self];rfl
theorem oth_low {i j:Nat} (hi:i < out.length) (hj:j < pv i) (hne:pv i ≠ k):at0 (oth p n out u k i) j = 0:=by
 have hlt:=h.lt i hi
 rcases Nat.lt_or_ge (pv i) k with g | g
 ·rw [oth_same hp h hu hk u1 ul up hq q1 q2 hi (by omega) (.inr (ul j (by omega)))];exact h.low i hi j hj
 ·have:=h.low i hi k (by omega)
  rw [oth_same hp h hu hk u1 ul up hq q1 q2 hi (by omega) (.inl this)];exact h.low i hi j hj
theorem pv_ne {i:Nat} (hi:i < out.length):pv i ≠ k:=by
 have _:=h;have _:=q1;have _:=q2
 have _:=hp;have _:=hu;have _:=hk;have _:=ul;have _:=hq
 intro e
 have:=up i hi
 rw [e,u1] at this;cases this
theorem new_cases {i:Nat} (hi:i < out.length + 1):(i = q ∧ newR p n out u k q i = u ∧ newP pv k q i = k) ∨ ∃ a,a < out.length ∧ (i < q ∧ a = i ∨ q < i ∧ i = a + 1) ∧ newR p n out u k q i = oth p n out u k a ∧ newP pv k q i = pv a:=by
 have _:=hp;have _:=h;have _:=hu;have _:=hk;have _:=u1;have _:=ul;have _:=up;have _:=q1;have _:=q2
 unfold newR newP
 rcases Nat.lt_trichotomy i q with g | g | g
 ·exact .inr ⟨i,by omega,.inl ⟨g,rfl⟩,by rw [if_pos g],by rw [if_pos g]⟩
 ·exact .inl ⟨g,by rw [if_neg (by omega),if_pos g],by rw [if_neg (by omega),if_pos g]⟩
 ·exact .inr ⟨i - 1,by omega,.inr ⟨g,by omega⟩,by rw [if_neg (by omega),if_neg (by omega)],by rw [if_neg (by omega),if_neg (by omega)]⟩
theorem insert_red:Red p n (mkR (out.length + 1) (newR p n out u k q)) (newP pv k q):=by
 have nc:=fun i hi => new_cases hp h hu hk u1 ul up hq q1 q2 (i:=i) hi
 have pn:=fun i hi => pv_ne hp h hu hk u1 ul up hq q1 q2 (i:=i) hi
 refine ⟨fun i hi => ?_,fun i hi => ?_,fun i hi => ?_,fun i hi j hj => ?_,fun i j hi hj hne => ?_,fun i j hij hj => ?_⟩ <;> rw [mkR_len] at *
 ·rw [mkR_get hi]
  rcases nc i hi with ⟨_,e,_⟩ | ⟨a,_,_,e,_⟩ <;> rw [e]
  ·exact hu
  ·exact addM_row hp
 ·rcases nc i hi with ⟨_,_,e⟩ | ⟨a,ha,_,_,e⟩ <;> rw [e]
  ·exact hk
  ·exact h.lt a ha
 ·rw [mkR_ent hi]
  rcases nc i hi with ⟨_,e1,e2⟩ | ⟨a,ha,_,e1,e2⟩ <;> rw [e1,e2]
  ·exact u1
  ·rw [oth_same hp h hu hk u1 ul up hq q1 q2 ha (h.lt a ha) (.inr (up a ha))];exact h.one a ha
 ·rw [mkR_ent hi]
  rcases nc i hi with ⟨_,e1,e2⟩ | ⟨a,ha,_,e1,e2⟩ <;> rw [e2] at hj <;> rw [e1]
  ·exact ul j hj
  ·exact oth_low hp h hu hk u1 ul up hq q1 q2 ha hj (pn a ha)
 ·rw [mkR_ent hj]
  rcases nc i hi with ⟨g1,_,e2⟩ | ⟨a,ha,ga,_,e2⟩ <;> rw [e2] <;> rcases nc j hj with ⟨g3,e3,_⟩ | ⟨b,hb,gb,e3,_⟩ <;> rw [e3]
  ·omega
  ·exact oth_k hp h hu hk u1 ul up hq q1 q2
  ·exact up a ha
  ·rw [oth_same hp h hu hk u1 ul up hq q1 q2 hb (h.lt a ha) (.inr (up a ha))]
   exact h.off a b ha hb (by omega)
 ·rcases nc i (by omega) with ⟨g1,_,e2⟩ | ⟨a,ha,ga,_,e2⟩ <;> rw [e2] <;> rcases nc j hj with ⟨g3,_,e4⟩ | ⟨b,hb,gb,_,e4⟩ <;> rw [e4]
  ·omega
  ·exact q2 b (by omega) hb
  ·exact q1 a (by omega)
  ·exact h.mono a b (by omega) hb
theorem insert_sp:(∀ i,i < out.length + 1 → Sp p n (out ++ [u]) (newR p n out u k q i)) ∧ (∀ i,i < out.length → Sp p n (mkR (out.length + 1) (newR p n out u k q)) (out.getD i [])) ∧ Sp p n (mkR (out.length + 1) (newR p n out u k q)) u:=by
 have hul:Sp p n (out ++ [u]) u:=by
  have:=sp_row (p:=p) (n:=n) (R:=out ++ [u]) (i:=out.length) (by simp)
  simpa [List.getD_eq_getElem?_getD] using this
 have hol:∀ i,i < out.length → Sp p n (out ++ [u]) (out.getD i []):=fun i hi => by
  have:=sp_row (p:=p) (n:=n) (R:=out ++ [u]) (i:=i) (by simp;omega)
  simpa [List.getD_eq_getElem?_getD,List.getElem?_append_left hi] using this
 have hoth:∀ i,i < out.length → Sp p n (out ++ [u]) (oth p n out u k i):=fun i hi =>
  sp_add (k:=p - at0 (out.getD i []) k) (hol i hi) hul fun j hj => by rw [oth,addM,mkv_at hj,Int.emod_emod]
 have hsu:Sp p n (mkR (out.length + 1) (newR p n out u k q)) u:=by
  have:=sp_mkR_row (p:=p) (n:=n) (m:=out.length + 1) (F:=newR p n out u k q) (i:=q) (by omega)
  rw [show newR p n out u k q q = u from by unfold newR;rw [if_neg (by omega),if_pos rfl]] at this
  exact this
 refine ⟨fun i hi => ?_,fun i hi => ?_,hsu⟩
 ·rcases new_cases hp h hu hk u1 ul up hq q1 q2 hi with ⟨_,e,_⟩ | ⟨a,ha,_,e,_⟩ <;> rw [e]
  ·exact hul
  ·exact hoth a ha
 ·have hi2:∃ b,b < out.length + 1 ∧ newR p n out u k q b = oth p n out u k i:=by
   rcases Nat.lt_or_ge i q with g | g
   ·exact ⟨i,by omega,by unfold newR;rw [if_pos g]⟩
   ·exact ⟨i + 1,by omega,by unfold newR;rw [if_neg (by omega),if_neg (by omega)];rfl⟩
  obtain ⟨b,hb,e⟩:=hi2
  have h1:=sp_mkR_row (p:=p) (n:=n) (m:=out.length + 1) (F:=newR p n out u k q) hb
  rw [e] at h1
  refine sp_add (k:=at0 (out.getD i []) k) h1 hsu fun j hj => ?_
  rw [oth_at hp h hu hk u1 ul up hq q1 q2 hj,Int.add_emod,Int.emod_emod,← Int.add_emod,show at0 (out.getD i []) j - at0 (out.getD i []) k * at0 u j + at0 (out.getD i []) k * at0 u j = at0 (out.getD i []) j from by omega]
theorem insert_loop (hn:n ≤ 100000) (hm:out.length ≤ 100000) {x:Int} :
  ((loopO (l1_spec_l02Reduce p (out,x) (k:Int) u) ([],false,0)).bind fun r32 => cond (!r32.2) ((appO r32.1 [u]).bind fun v33 => some v33) (some r32.1)) = some (mkR (out.length + 1) (newR p n out u k q)):=by
 have _:=u1;have _:=ul;have _:=up
 have h7:=hp.pos
 have ho:∀ i,i < out.length → f_spec_l02Add p (out.getD i []) (p - at0 (out.getD i []) k) u = some (oth p n out u k i) ∧ ixO (out.getD i []) (k:Int) = some (at0 (out.getD i []) k) ∧ 0 ≤ at0 (out.getD i []) k ∧ at0 (out.getD i []) k ≤ p - 1 ∧ f_spec_l02Lead (out.getD i []) = some (pv i:Int):=fun i hi => by
  have hr:=h.row i hi
  have hk2:=hr.2 k hk
  have hone:=h.one i hi
  have hlow:=h.low i hi
  simp only [ent] at hone hlow
  exact ⟨by rw [l02Add_spec hp hr hu ⟨by omega,by omega⟩ (by omega)];rfl,ixO_at (by rw [hr.1];exact hk),hk2.1,hk2.2,lead_is hr.1 (by omega) (h.lt i hi) hlow (by rw [hone];decide)⟩
 have hsn:∀ {m:Nat} {F:Nat → List Int},mkR m F ++ [F m] = mkR (m + 1) F:=fun {m F} => by simp [mkR,List.range_succ]
 have:=loopO_seq (body:=l1_spec_l02Reduce p (out,x) (k:Int) u) (r:=(if out.length ≤ q then (mkR out.length (newR p n out u k q),false) else (mkR (out.length + 1) (newR p n out u k q),true)))
  (fun j => if j ≤ q then (mkR j (newR p n out u k q),false,(j:Int)) else (mkR (j + 1) (newR p n out u k q),true,(j:Int))) out.length (fun j hj => by
   obtain ⟨a1,a2,a3,a4,a5⟩:=ho j hj
   have hrg:rng (p - at0 (out.getD j []) k) = some (p - at0 (out.getD j []) k):=rng_of (by omega) (by omega)
   rcases Nat.lt_trichotomy j q with g | g | g
   ·have hpj:=q1 j g
    rw [if_pos (by omega),if_pos (by omega)]
    unfold l1_spec_l02Reduce
    simp only
    rw [lt_t hj,cnd_t,Bool.not_false,cnd_t,ixO_d [] hj]
    simp only [bs,a5]
    rw [decide_eq_false (by omega),cnd_f,a2]
    simp only [bs,hrg,a1]
    rw [appO_of (by rw [mkR_len];simp;omega),bs,rng_of (by omega) (by omega),bs,cs]
    have:newR p n out u k q j = oth p n out u k j:=by unfold newR;rw [if_pos g]
    rw [← this,hsn]
   ·subst g
    have hpj:=q2 j (Nat.le_refl _) hj
    rw [if_pos (by omega),if_neg (by omega)]
    unfold l1_spec_l02Reduce
    simp only
    rw [lt_t hj,cnd_t,Bool.not_false,cnd_t,ixO_d [] hj]
    simp only [bs,a5]
    rw [decide_eq_true (by omega),cnd_t,appO_of (by rw [mkR_len];simp;omega),a2]
    simp only [bs,hrg,a1]
    have e1:newR p n out u k j j = u:=by unfold newR;rw [if_neg (by omega),if_pos rfl]
    have e2:newR p n out u k j (j + 1) = oth p n out u k j:=by unfold newR;rw [if_neg (by omega),if_neg (by omega)];rfl
    have e3:mkR j (newR p n out u k j) ++ [u] = mkR (j + 1) (newR p n out u k j):=by rw [← hsn,e1]
    rw [e3,appO_of (by rw [mkR_len];simp;omega),bs,rng_of (by omega) (by omega),bs,cs,← e2,hsn]
   ·rw [if_neg (by omega),if_neg (by omega)]
    unfold l1_spec_l02Reduce
    simp only
    rw [lt_t hj,cnd_t,Bool.not_true,cnd_f,ixO_d [] hj]
    simp only [bs,a2,hrg,a1]
    have e2:newR p n out u k q (j + 1) = oth p n out u k j:=by unfold newR;rw [if_neg (by omega),if_neg (by omega)];rfl
    rw [appO_of (by rw [mkR_len];simp;omega),bs,rng_of (by omega) (by omega),bs,cs,← e2,hsn]) (by
   by_cases g:out.length ≤ q
   ·rw [if_pos g,if_pos g]
    unfold l1_spec_l02Reduce
    simp only
    rw [lt_f,cnd_f]
   ·rw [if_neg g,if_neg g]
    unfold l1_spec_l02Reduce
    simp only
    rw [lt_f,cnd_f])
 rw [if_pos (Nat.zero_le _),show ((0:Nat):Int) = 0 from rfl,show mkR 0 (newR p n out u k q) = [] from rfl] at this
 rw [this,bs]
 by_cases g:out.length ≤ q
 ·have e1:newR p n out u k q out.length = u:=by unfold newR;rw [if_neg (by omega),if_pos (by omega)]
  rw [if_pos g]
  simp only
  rw [Bool.not_false,cnd_t,appO_of (by rw [mkR_len];simp;omega),bs]
  congr 1
  rw [← hsn,e1]
 ·rw [if_neg g]
  simp only
  rw [Bool.not_true,cnd_f]
end
end Go.Pl

namespace Go.Pl
open Go Go.Ab Go.Wk Go.Pc
theorem sp_sum {p:Int} {n:Nat} {R out:Mx} {cf:Nat → Int} (ho:∀ i,i < out.length → Sp p n R (out.getD i [])) {u:List Int} (hu:∀ j,j < n → at0 u j % p = (S out.length fun k => cf k * ent out k j) % p):Sp p n R u :=
 sp_trans ho ⟨cf,fun j hj => (hu j hj).symm⟩
theorem Red.len_le {p:Int} {n:Nat} {R:Mx} {pv:Nat → Nat} (h:Red p n R pv):R.length ≤ n:=by
 have key:∀ i,i < R.length → i ≤ pv i:=by
  intro i
  induction i with
  | zero => intro _;omega
  | succ i ih =>
   intro hi
   have h1:=ih (by omega)
   have h2:=h.mono i (i + 1) (by omega) hi
   omega
 rcases Nat.eq_zero_or_pos R.length with g | g
 ·omega
 ·have h1:=key (R.length - 1) (by omega)
  have h2:=h.lt (R.length - 1) (by omega)
  omega
theorem getD_snoc {xs:Mx} {v:List Int} {i:Nat} (h:i < xs.length):(xs ++ [v]).getD i [] = xs.getD i []:=by
 simp only [List.getD_eq_getElem?_getD,List.getElem?_append_left h]
theorem getD_last {xs:Mx} {v:List Int}:(xs ++ [v]).getD xs.length [] = v:=by simp [List.getD_eq_getElem?_getD]
section
variable {p:Int} (hp:Prime p) {n:Nat} (hn:n ≤ 100000)
 include hp hn
theorem scale_spec {w:List Int} (hw:Row p n w) {r:Int} (h0:0 ≤ r) (h1:r ≤ p - 1):f_spec_l02Scale p r w = some (mkv n fun j => (at0 w j * r) % p):=by
 have h7:=hp.pos
 unfold f_spec_l02Scale
 rw [hw.1,lenOk_nat (by omega),bs,l02Add_spec hp (z0_row (by omega)) hw ⟨by omega,by omega⟩ (by omega),bs]
 congr 1
 refine mkv_congr fun j hj => ?_
 rw [show at0 (z0 n) j = 0 from by simp [z0,at0,List.getD_eq_getElem?_getD,hj],Int.zero_add,Int.mul_comm]
variable {rows:Mx} (hm:rows.length ≤ 600000) (hr:∀ i,i < rows.length → Row p n (rows.getD i []))
 include hm hr
theorem reduce_specL:∃ R pv,f_spec_l02Reduce p rows = some R ∧ (Red p n R pv ∧ R.length ≤ rows.length) ∧ SpEq p n R rows:=by
 have h7:=hp.pos
 unfold f_spec_l02Reduce
 have main:=loopO_tot (body:=l2_spec_l02Reduce p rows) (s:=([],0)) (Q:=fun R => ∃ pv,(Red p n R pv ∧ R.length ≤ rows.length) ∧ SpEq p n R rows)
  (fun i s => ∃ (out:Mx) (pv:Nat → Nat),s = (out,(i:Int)) ∧ Red p n out pv ∧ SpEq p n out (rows.take i) ∧ out.length ≤ i ∧ i ≤ rows.length) rows.length (fun i s hi hI => ?_) (fun s hI => ?_) ⟨[],fun _ => 0,rfl,Red.empty,by rw [List.take_zero];exact SpEq.refl,Nat.zero_le _,Nat.zero_le _⟩
 ·obtain ⟨R,h1,pv,h2,h3⟩:=main
  rw [h1,bs]
  exact ⟨R,pv,rfl,h2,h3⟩
 ·obtain ⟨out,pv,rfl,h,hs,hl,_⟩:=hI
  have hon:out.length ≤ n:=h.len_le
  left
  have hv:=hr i hi
  have hw:=cl_row hp hn h hv out.length
  have hcl:=clear_spec hp hn h hv (by omega)
  have hpz:=cl_piv hp hn h hv out.length (Nat.le_refl _)
  obtain ⟨cf,hcf⟩:=cl_comb hp hn h hv out.length (Nat.le_refl _)
  obtain ⟨k,k1,k2,k3,k4⟩:=lead_spec hw.1 (by omega)
  have htk:rows.take (i + 1) = rows.take i ++ [rows.getD i []]:=by
   rw [List.take_succ_eq_append_getElem hi,List.getD_eq_getElem?_getD,List.getElem?_eq_getElem hi];rfl
  have hti:(rows.take i).length = i:=by rw [List.length_take];omega
  have hup:∀ u,Sp p n (rows.take i) u → Sp p n (rows.take (i + 1)) u:=fun u hu => sp_trans (fun a ha => by
   have:=sp_row (p:=p) (n:=n) (R:=rows.take (i + 1)) (i:=a) (by rw [htk,List.length_append];omega)
   rw [htk,getD_snoc ha,← htk] at this;exact this) hu
  have hvs:Sp p n (rows.take (i + 1)) (rows.getD i []):=by
   have:=sp_row (p:=p) (n:=n) (R:=rows.take (i + 1)) (i:=i) (by rw [htk,List.length_append,hti];simp)
   rw [htk] at this
   have e:(rows.take i ++ [rows.getD i []]).getD i [] = rows.getD i []:=by
    have:=getD_last (xs:=rows.take i) (v:=rows.getD i [])
    rw [hti] at this;exact this
   rw [e,← htk] at this;exact this
  by_cases hkn:k = n
  ·
   refine ⟨(out,((i + 1:Nat):Int)),?_,out,pv,rfl,h,⟨fun a ha => hup _ (hs.1 a ha),fun a ha => ?_⟩,by omega,by omega⟩
   ·unfold l2_spec_l02Reduce
    simp only
    rw [lt_t hi,cnd_t,ixO_d [] hi]
    simp only [bs,hcl,k2]
    rw [hw.1,beq_t (by omega),cnd_t,rng_of (by omega) (by omega),bs,cs]
   ·rw [htk,List.length_append,hti,List.length_singleton] at ha
    rw [htk]
    rcases Nat.lt_or_ge a i with g | g
    ·rw [getD_snoc (by omega)];exact hs.2 a (by omega)
    ·have:a = i:=by omega
     subst this
     have e:(rows.take a ++ [rows.getD a []]).getD a [] = rows.getD a []:=by
      have:=getD_last (xs:=rows.take a) (v:=rows.getD a [])
      rw [hti] at this;exact this
     rw [e]
     refine sp_sum (out:=out) (cf:=fun q => -1 * cf q) (fun a ha => sp_row ha) fun j hj => ?_
     have h1:=hcf j hj
     rw [k3 j (by omega)] at h1
     rw [S_congr (g:=fun q => -1 * (cf q * ent out q j)) (fun q _ => by rw [Int.mul_assoc]),S_mul']
     have h2:(at0 (rows.getD a []) j + S out.length fun q => cf q * ent out q j) % p = 0:=by rw [← h1];rfl
     rw [show at0 (rows.getD a []) j = (at0 (rows.getD a []) j + S out.length fun q => cf q * ent out q j) + -1 * (S out.length fun q => cf q * ent out q j) from by omega,Int.add_emod,h2,Int.zero_add,Int.emod_emod]
  ·have hk:k < n:=by omega
   have hwk:=hw.2 k hk
   have hne:=k4 hk
   obtain ⟨r,r1,r2,r3,r4⟩:=inv_spec hp (x:=at0 (cl p n out pv (rows.getD i []) out.length) k) (by omega) (by omega)
   have hsc:=scale_spec hp hn hw r2 r3
   have hu:Row p n (mkv n fun j => (at0 (cl p n out pv (rows.getD i []) out.length) j * r) % p):=⟨mkv_length _ _,fun j hj => by
    have e1:=Int.emod_nonneg (at0 (cl p n out pv (rows.getD i []) out.length) j * r) (show p ≠ 0 by omega)
    have e2:=Int.emod_lt_of_pos (at0 (cl p n out pv (rows.getD i []) out.length) j * r) (show 0 < p by omega)
    rw [mkv_at hj];omega⟩
   have ua:∀ j,j < n → at0 (mkv n fun j => (at0 (cl p n out pv (rows.getD i []) out.length) j * r) % p) j = (at0 (cl p n out pv (rows.getD i []) out.length) j * r) % p:=fun j hj => mkv_at hj
   generalize mkv n (fun j => (at0 (cl p n out pv (rows.getD i []) out.length) j * r) % p) = u at hsc hu ua
   have u1:at0 u k = 1:=by rw [ua k hk];exact r4
   have ul:∀ j,j < k → at0 u j = 0:=fun j hj => by rw [ua j (by omega),k3 j hj];simp
   have up:∀ a,a < out.length → at0 u (pv a) = 0:=fun a ha => by rw [ua _ (h.lt a ha),hpz a ha];simp
   obtain ⟨q,⟨hq,hq2⟩,hmin⟩:=least (p:=fun q => q ≤ out.length ∧ (q < out.length → k < pv q)) ⟨out.length,Nat.le_refl _,fun g => by omega⟩
   have q1:∀ a,a < q → pv a < k:=fun a ha => by
    have h1:¬ (k < pv a):=fun g => hmin a ha ⟨by omega,fun _ => g⟩
    have h2:pv a ≠ k:=fun e => by
     have:=up a (by omega)
     rw [e,u1] at this;cases this
    omega
   have q2:∀ a,q ≤ a → a < out.length → k < pv a:=fun a ha ha2 => by
    have h1:=hq2 (by omega)
    rcases Nat.lt_or_ge q a with g | g
    ·have:=h.mono q a g ha2;omega
    ·rw [show a = q from by omega];exact h1
   have hins:=insert_loop hp h hu hk u1 ul up hq q1 q2 hn (by omega) (x:=(i:Int))
   have hred:=insert_red hp h hu hk u1 ul up hq q1 q2
   obtain ⟨s1,s2,s3⟩:=insert_sp hp h hu hk u1 ul up hq q1 q2
   refine ⟨(mkR (out.length + 1) (newR p n out u k q),((i + 1:Nat):Int)),?_,_,_,rfl,hred,⟨fun a ha => ?_,fun a ha => ?_⟩,by rw [mkR_len];omega,by omega⟩
   ·unfold l2_spec_l02Reduce
    simp only
    rw [lt_t hi,cnd_t,ixO_d [] hi]
    simp only [bs,hcl,k2]
    rw [hw.1,beq_f (by omega),cnd_f,ixO_at (by rw [hw.1];exact hk)]
    simp only [bs,r1,hsc]
    cases hlo:loopO (l1_spec_l02Reduce p (out,(i:Int)) (k:Int) u) ([],false,0) with
    | none => rw [hlo] at hins;cases hins
    | some r32 =>
     rw [hlo,bs] at hins
     simp only [bs]
     obtain ⟨a1,a2⟩:=r32
     cases a2 with
     | true =>
      simp only [Bool.not_true,cnd_f] at hins ⊢
      rw [rng_of (by omega) (by omega),bs,cs,Option.some.inj hins]
     | false =>
      simp only [Bool.not_false,cnd_t] at hins ⊢
      cases hap:appO a1 [u] with
      | none => rw [hap] at hins;cases hins
      | some v33 =>
       rw [hap,bs] at hins
       simp only [bs]
       rw [rng_of (by omega) (by omega),bs,cs,Option.some.inj hins]
   ·rw [mkR_len] at ha
    rw [mkR_get ha]
    refine sp_trans (fun b hb => ?_) (s1 a ha)
    rw [List.length_append,List.length_singleton] at hb
    rcases Nat.lt_or_ge b out.length with g | g
    ·rw [getD_snoc g];exact hup _ (hs.1 b g)
    ·rw [show b = out.length from by omega,getD_last]
     have hwS:Sp p n (rows.take (i + 1)) (cl p n out pv (rows.getD i []) out.length):=by
      have hcS:Sp p n (rows.take (i + 1)) (mkv n fun j => S out.length fun k => cf k * ent out k j):=sp_sum (out:=out) (cf:=cf) (fun b hb => hup _ (hs.1 b hb)) fun j hj => by rw [mkv_at hj]
      refine sp_add (k:=1) hvs hcS fun j hj => ?_
      rw [hcf j hj,mkv_at hj,Int.one_mul]
     refine sp_add (k:=r) (sp_zero (u:=[]) fun j _ => by simp [at0]) hwS fun j hj => ?_
     rw [ua j hj,Int.emod_emod,show at0 ([]:List Int) j = 0 from by simp [at0],Int.zero_add,Int.mul_comm]
   ·rw [htk,List.length_append,hti,List.length_singleton] at ha
    rw [htk]
    rcases Nat.lt_or_ge a i with g | g
    ·rw [getD_snoc (by omega)]
     exact sp_trans s2 (hs.2 a (by omega))
    ·have hai:a = i:=by omega
     subst hai
     have e:(rows.take a ++ [rows.getD a []]).getD a [] = rows.getD a []:=by
      have:=getD_last (xs:=rows.take a) (v:=rows.getD a [])
      rw [hti] at this;exact this
     rw [e]
     have hwS:Sp p n (mkR (out.length + 1) (newR p n out u k q)) (cl p n out pv (rows.getD a []) out.length):=by
      refine sp_add (k:=at0 (cl p n out pv (rows.getD a []) out.length) k) (sp_zero (u:=[]) fun j _ => by simp [at0]) s3 fun j hj => ?_
      rw [ua j hj,show at0 ([]:List Int) j = 0 from by simp [at0],Int.zero_add]
      rw [Int.mul_emod,Int.emod_emod,← Int.mul_emod,← Int.mul_assoc,Int.mul_comm (at0 (cl p n out pv (rows.getD a []) out.length) k),Int.mul_assoc,Int.mul_emod,r4,Int.mul_one,Int.emod_emod]
     have hcS:Sp p n (mkR (out.length + 1) (newR p n out u k q)) (mkv n fun j => S out.length fun k => cf k * ent out k j):=sp_sum (out:=out) (cf:=cf) s2 fun j hj => by rw [mkv_at hj]
     refine sp_add (k:=-1) hwS hcS fun j hj => ?_
     rw [mkv_at hj,Int.add_emod,hcf j hj,← Int.add_emod]
     congr 1;omega
 ·obtain ⟨out,pv,rfl,h,hs,hl,_⟩:=hI
  refine ⟨out,?_,pv,⟨h,hl⟩,by rw [List.take_length] at hs;exact hs⟩
  unfold l2_spec_l02Reduce
  simp only
  rw [lt_f,cnd_f]
theorem reduce_spec:∃ R pv,f_spec_l02Reduce p rows = some R ∧ Red p n R pv ∧ SpEq p n R rows:=by
 obtain ⟨R,pv,h1,h2,h3⟩:=reduce_specL hp hn hm hr
 exact ⟨R,pv,h1,h2.1,h3⟩
theorem reduce_len {R:Mx} {pv:Nat → Nat} (h:Red p n R pv) (hs:SpEq p n R rows):R.length ≤ rows.length:=by
 have h7:=hp.pos
 obtain ⟨R',pv',_,h2,h3⟩:=reduce_specL hp hn hm hr
 rw [h.unique (by omega) h2.1 (hs.trans h3.symm)];exact h2.2
theorem reduce_both:∃ R pv,f_spec_l02Reduce p rows = some R ∧ f_impl_reduceRows p rows = some R ∧ Red p n R pv ∧ SpEq p n R rows:=by
 have h7:=hp.pos
 obtain ⟨R,pv,h1,h2,h3⟩:=reduce_spec hp hn hm hr
 obtain ⟨R',pv',g1,g2,g3⟩:=reduce_impl hp hn hm hr
 have e:=h2.unique (by omega) g2 (h3.trans g3.symm)
 exact ⟨R,pv,h1,by rw [e];exact g1,h2,h3⟩
end
end Go.Pl

namespace Go.Pl
open Go Go.Ab Go.Wk Go.Pc
theorem map_loop {β:Type} {body:List β × Int → Option ((List β × Int) ⊕ List β)} (n:Nat) (F:Nat → β) (h:∀ i acc,i < n → acc.length = i → body (acc,(i:Int)) = some (.inl (acc ++ [F i],((i + 1:Nat):Int)))) (he:∀ acc,body (acc,(n:Int)) = some (.inr acc)) :
  loopO body ([],0) = some ((List.range n).map F):=by
 have:=loopO_seq (body:=body) (r:=(List.range n).map F) (fun i => ((List.range i).map F,(i:Int))) n (fun i hi => by
  rw [h i _ hi (by simp),List.range_succ,List.map_append];rfl) (he _)
 exact this
end Go.Pl

namespace Go.Pl
open Go Go.Ab Go.Wk Go.Pc
abbrev gl {β:Type} (m:Nat) (F:Nat → β):List β:=(List.range m).map F
theorem gl_len {β:Type} {m:Nat} {F:Nat → β}:(gl m F).length = m:=by simp [gl]
theorem gl_ix {β:Type} {m:Nat} {F:Nat → β} {i:Nat} (h:i < m):ixO (gl m F) (i:Int) = some (F i):=by
 rw [ixO_get (by rw [gl_len];exact h)];simp [gl]
theorem gl_snoc {β:Type} {m:Nat} {F:Nat → β}:gl m F ++ [F m] = gl (m + 1) F:=by simp [gl,List.range_succ]
end Go.Pl

namespace Go.Pl
open Go Go.Ab Go.Wk Go.Pc
end Go.Pl

namespace Go.Pl
open Go Go.Ab Go.Wk Go.Pc
theorem sm_le {α:Type} {c:α → Nat} {b:Nat}:∀ {xs:List α},(∀ x ∈ xs,c x ≤ b) → sm c xs ≤ xs.length * b
 | [],_ => by simp [sm]
 | x :: xs,h => by
  have h1:=sm_le (xs:=xs) fun y hy => h y (by simp [hy])
  have h2:=h x (by simp)
  simp only [sm,List.length_cons,Nat.succ_mul];omega
end Go.Pl

namespace Go.Pl
open Go Go.Ab Go.Wk Go.Pc
def totP (x:SPresentation):Nat:=c1 x.Orders + sm c1 x.Powers + sm (sm c1) x.Conjugates
def markP (x:SPresentation) (k:Int):SPresentation:=⟨m1 k x.Orders,m2 (k + c1 x.Orders) x.Powers,m3 (k + c1 x.Orders + sm c1 x.Powers) x.Conjugates⟩
theorem totP_le {x:SPresentation} (h:SPres x):totP x ≤ 3145728:=by
 obtain ⟨h1,h2,h3⟩:=h
 have g2:=sm2_le (x:=x.Powers)
 have g3:=sm3_le (x:=x.Conjugates)
 simp only [S1] at h1
 simp only [S2] at h2
 simp only [S3] at h3
 simp only [totP];omega
theorem markPresentation_eq {x:SPresentation} {k:Int} (h:SPres x) (k0:0 ≤ k) (k1:k ≤ 1000000000):f_laws_markPresentation x k = some (k + totP x,markP x k):=by
 have ht:=totP_le h
 simp only [totP] at ht
 unfold f_laws_markPresentation
 rw [markInt64S h.1 k0 (by omega),bs,markInt64SS h.2.1 (by simp only;omega) (by simp only;omega),bs,markInt64SSS h.2.2 (by simp only;omega) (by simp only;omega),bs]
 simp only [totP,markP,Int.natCast_add,Int.add_assoc]
end Go.Pl

namespace Go.Pl
open Go Go.Ab Go.Wk Go.Pc
theorem own2_spec {xs:Mx} (h:xs.length ≤ 100000) (hl:∀ i,i < xs.length → (xs.getD i []).length ≤ 1000000):f_spec_l01Own2 xs = some xs:=by
 unfold f_spec_l01Own2
 rw [map_loop (body:=l1_spec_l01Own2 xs) xs.length (fun i => xs.getD i []) (fun i acc hi ha => by
  unfold l1_spec_l01Own2
  simp only
  rw [lt_t hi,cnd_t,ixO_d [] hi,bs,own_spec (hl i hi),bs,appO_of (by simp;omega),bs,rng_of (by omega) (by omega),bs,cs]) (fun acc => by
  unfold l1_spec_l01Own2
  simp only
  rw [lt_f,cnd_f]),bs]
 congr 1
 exact (mkR_eq rfl).symm
theorem product_rows {p:Int} (hp:Prime p) {D:Nat} (hD:D ≤ 3) {A B:Mx} (hl:A.length ≤ 1000) (hA:∀ i,i < A.length → Row p D (A.getD i [])) (hB:Mat p D B):f_spec_l02Product p A B (D:Int) = some (PM p D A B):=by
 unfold f_spec_l02Product
 have:=loopO_seq (body:=l1_spec_l02Product p A B (D:Int)) (r:=PM p D A B) (fun i => ((PM p D A B).take i,(i:Int))) A.length (fun i hi => by
  unfold l1_spec_l02Product
  simp only
  rw [lt_t hi,cnd_t,ixO_d [] (by omega),bs,times_spec hp (by omega) (hA i hi) hB,bs,appO_of (by rw [List.length_take,PM_length];simp;omega),bs,rng_of (by omega) (by omega),bs,cs,prod_take hp (by omega) (by omega)]) (by
  unfold l1_spec_l02Product
  simp only
  rw [lt_f,cnd_f,List.take_of_length_le (by rw [PM_length];omega)])
 rw [show ((0:Nat):Int) = 0 from rfl,List.take_zero] at this
 rw [this,bs]
theorem sp_mem {p:Int} {n:Nat} {R:Mx} {v:List Int} (h:v ∈ R):Sp p n R v:=by
 obtain ⟨i,hi,rfl⟩:=List.mem_iff_getElem.1 h
 have:=sp_row (p:=p) (n:=n) hi
 rwa [List.getD_eq_getElem?_getD,List.getElem?_eq_getElem hi] at this
theorem getD_mem {R:Mx} {i:Nat} (hi:i < R.length):R.getD i [] ∈ R:=by
 rw [List.getD_eq_getElem?_getD,List.getElem?_eq_getElem hi];exact List.getElem_mem hi
section
variable {n D:Nat} {m:SModule} (hm:MOk n m D) (hn:n ≤ 6)
 include hm hn
def spA (m:SModule) (D:Nat) (R:Mx):Nat → Mx
 | 0 => R
 | i + 1 => spA m D R i ++ PM m.Prime D R (m.Actions.getD i [])
theorem spA_len {R:Mx}:∀ i,(spA m D R i).length = R.length + i * R.length
 | 0 => by have _:=hm;have _:=hn;simp [spA]
 | i + 1 => by rw [spA,List.length_append,spA_len i,PM_length,Nat.succ_mul];omega
theorem spA_all {R:Mx} {P:List Int → Prop} (h0:∀ r ∈ R,P r) (h1:∀ r ∈ R,∀ i,i < n → P (rowM m.Prime D r (m.Actions.getD i []))):∀ i,i ≤ n → ∀ r ∈ spA m D R i,P r
 | 0,_,r,hr => by
  have _:=hm;have _:=hn
  exact h0 r hr
 | i + 1,hi,r,hr => by
  rw [spA,List.mem_append] at hr
  rcases hr with h | h
  ·exact spA_all h0 h1 i (by omega) r h
  ·obtain ⟨s,hs,rfl⟩:=List.mem_map.1 h
   exact h1 s hs i (by omega)
theorem spA_in {R:Mx}:∀ i,∀ r ∈ R,r ∈ spA m D R i
 | 0,_,h => by
  have _:=hm;have _:=hn
  exact h
 | i + 1,r,h => by rw [spA,List.mem_append];exact .inl (spA_in i r h)
end
end Go.Pl

namespace Go.Pl
open Go Go.Ab Go.Wk Go.Pc
theorem eqMatrix {x:SMatrix} (h:S2 x.Rows):f_laws_eqMatrix x x = some true:=by
 unfold f_laws_eqMatrix
 rw [bne_self_eq_false,cnd_f,bne_self_eq_false,cnd_f,eqInt64SS h,bs,beq_self_eq_true,Bool.not_true,cnd_f]
theorem markMatrix {x:SMatrix} {k:Int} (h:S2 x.Rows) (k0:0 ≤ k) (k1:k ≤ 1000000000):f_laws_markMatrix x k = some (k + sm c1 x.Rows,SMatrix.mk x.Prime x.Columns (m2 k x.Rows)):=by
 have g2:=sm2_le (x:=x.Rows)
 have h':=h
 simp only [S2] at h'
 unfold f_laws_markMatrix
 rw [markInt64SS h k0 (by omega),bs]
end Go.Pl

namespace Go.Pl
open Go Go.Ab Go.Wk Go.Pc
theorem index_impl {v:List Int} {k:Nat} (hl:v.length ≤ 1000000) (hk:k < v.length) (h0:∀ j,j < k → at0 v j = 0) (h1:at0 v k ≠ 0):f_slices_IndexFunc_int64_int64 v = some (k:Int):=by
 unfold f_slices_IndexFunc_int64_int64
 have:=loopO_seq (body:=l1_slices_IndexFunc_int64_int64 v) (r:=.inr (k:Int)) (fun i => (i:Int)) k (fun i hi => by
  unfold l1_slices_IndexFunc_int64_int64 f_impl_pivots_1
  rw [lt_t (by omega),cnd_t,ixO_at (by omega),bs,bs,h0 i hi,bne_self_eq_false,cnd_f,rng_of (by omega) (by omega),bs,cs]) (by
  unfold l1_slices_IndexFunc_int64_int64 f_impl_pivots_1
  rw [lt_t hk,cnd_t,ixO_at hk,bs,bs,bne_t h1,cnd_t])
 have e:loopO (l1_slices_IndexFunc_int64_int64 v) 0 = some (.inr (k:Int)):=this
 rw [e,bs]
section
variable {p:Int} (hp:Prime p) {n:Nat} (hn:n ≤ 100000) {R:Mx} {pv:Nat → Nat} (h:Red p n R pv) {v:List Int} (hv:Row p n v)
 include hp hn h
theorem pivots_impl (hm:R.length ≤ 100000):f_impl_pivots R = some (gl R.length fun i => (pv i:Int)):=by
 have h7:=hp.pos
 unfold f_impl_pivots
 rw [map_loop (body:=l1_impl_pivots R) R.length (fun i => (pv i:Int)) (fun i acc hi ha => by
  have hr:=h.row i hi
  have h1:=h.one i hi
  unfold l1_impl_pivots
  simp only
  rw [lt_t hi,cnd_t,ixO_d [] hi,bs,index_impl (k:=pv i) (by rw [hr.1];omega) (by rw [hr.1];exact h.lt i hi) (fun j hj => h.low i hi j hj) (by simp only [ent] at h1;omega),bs,appO_of (by simp;omega),bs,rng_of (by omega) (by omega),bs,cs]) (fun acc => by
  unfold l1_impl_pivots
  simp only
  rw [lt_f,cnd_f]),bs]
 include hv
theorem cl_neg {i:Nat} (hi:i < R.length):addM p n (cl p n R pv v i) (0 - at0 (cl p n R pv v i) (pv i)) (R.getD i []) = cl p n R pv v (i + 1):=by
 have _:=hp;have _:=hn;have _:=h;have _:=hv;have _:=hi
 rw [cl]
 refine mkv_congr fun j _ => ?_
 generalize at0 (cl p n R pv v i) (pv i) = a
 generalize at0 (R.getD i []) j = b
 rw [Int.sub_mul,Int.sub_mul,Int.zero_mul]
 have e:at0 (cl p n R pv v i) j + (p * b - a * b) = at0 (cl p n R pv v i) j + (0 - a * b) + p * b:=by omega
 rw [e,Int.add_mul_emod_self_left]
theorem remainder_impl {c:Int} (hm:R.length ≤ 100000):f_impl_remainderMod (SMatrix.mk p c R) v = some (cl p n R pv v R.length):=by
 have h7:=hp.pos
 have:=loopO_seq (body:=l1_impl_remainderMod (SMatrix.mk p c R) (gl R.length fun i => (pv i:Int))) (r:=cl p n R pv v R.length) (fun i => (cl p n R pv v i,(i:Int))) R.length (fun i hi => by
  have hr:=cl_row hp hn h hv i
  have ha:=hr.2 (pv i) (h.lt i hi)
  unfold l1_impl_remainderMod
  simp only
  rw [gl_len,lt_t hi,cnd_t,gl_ix hi,bs,ixO_d [] hi,bs,ixO_at (by rw [hr.1];exact h.lt i hi),bs,rng_of (by omega) (by omega),bs,addM_impl hp hr (h.row i hi) (by omega) (by omega),bs,rng_of (by omega) (by omega),bs,cs,cl_neg hp hn h hv hi]) (by
  unfold l1_impl_remainderMod
  simp only
  rw [gl_len,lt_f,cnd_f])
 unfold f_impl_remainderMod
 rw [clone_impl (by rw [hv.1];omega),bs]
 simp only
 rw [pivots_impl hp hn h hm,bs]
 have e:loopO (l1_impl_remainderMod (SMatrix.mk p c R) (gl R.length fun i => (pv i:Int))) (v,0) = some (cl p n R pv v R.length):=this
 rw [e,bs]
theorem cl_zero:(∀ j,j < n → at0 (cl p n R pv v R.length) j = 0) ↔ Sp p n R v:=by
 have h7:=hp.pos
 obtain ⟨cf,hcf⟩:=cl_comb hp hn h hv R.length (Nat.le_refl _)
 have hr:=cl_row hp hn h hv R.length
 have hs:Sp p n R (mkv n fun j => S R.length fun k => cf k * ent R k j):=⟨cf,fun j hj => by rw [mkv_at hj]⟩
 constructor
 ·intro h0
  refine sp_add (v:=mkv n fun _ => 0) (w:=mkv n fun j => S R.length fun k => cf k * ent R k j) (k:=-1) (sp_zero fun j hj => by rw [mkv_at hj];rfl) hs fun j hj => ?_
  have h1:=hcf j hj
  rw [h0 j hj] at h1
  rw [mkv_at hj,mkv_at hj]
  generalize (S R.length fun k => cf k * ent R k j) = s at h1 ⊢
  have h2:(at0 v j + s) % p = 0:=by rw [← h1];rfl
  have h3:(at0 v j - (0 + -1 * s)) % p = 0:=by rw [← h2];congr 1;omega
  exact Int.emod_eq_emod_iff_emod_sub_eq_zero.2 h3
 ·intro hsp j hj
  have h1:Sp p n R (cl p n R pv v R.length):=sp_add (k:=1) hsp hs fun j hj => by rw [hcf j hj,mkv_at hj,Int.one_mul]
  have h2:=h.expand h1 j hj
  rw [S_congr (g:=fun _ => 0) (fun i hi => by rw [cl_piv hp hn h hv R.length (Nat.le_refl _) i hi,Int.zero_mul]),S_zero] at h2
  have h3:=hr.2 j hj
  rw [Int.emod_eq_of_lt h3.1 (by omega)] at h2
  rw [h2];rfl
end
end Go.Pl

namespace Go.Pl
open Go Go.Ab Go.Wk Go.Pc
section
variable {p:Int} (hp:1 < p) {n:Nat} {R R':Mx} {pv pv':Nat → Nat} (h:Red p n R pv) (h':Red p n R' pv') (hs:∀ i,i < R.length → Sp p n R' (R.getD i []))
 include hp h h' hs
theorem Red.lt_of {i i2 k k2:Nat} (hii:i < i2) (hi2:i2 < R.length) (hk:k < R'.length) (e:pv' k = pv i) (e2:pv' k2 = pv i2):k < k2:=by
 have _:=hp;have _:=hs
 have h1:=h.mono i i2 hii hi2
 refine Classical.byContradiction fun hn => ?_
 rcases Nat.lt_or_ge k2 k with g | g
 ·have:=h'.mono k2 k g hk;omega
 ·have:k = k2:=by omega
  subst this;omega
theorem Red.low_in:∀ i,i < R.length → ∃ k,k < R'.length ∧ pv' k = pv i ∧ i ≤ k:=by
 intro i
 induction i with
 | zero => intro hi;obtain ⟨k,hk,e⟩:=h.piv_in hp h' hs hi;exact ⟨k,hk,e,by omega⟩
 | succ i ih =>
  intro hi
  obtain ⟨k,hk,e,hik⟩:=ih (by omega)
  obtain ⟨k2,hk2,e2⟩:=h.piv_in hp h' hs hi
  have:=h.lt_of hp h' hs (show i < i + 1 by omega) hi hk e e2
  exact ⟨k2,hk2,e2,by omega⟩
theorem Red.high_in:∀ d i,i + d + 1 = R.length → ∃ k,k + d < R'.length ∧ pv' k = pv i:=by
 intro d
 induction d with
 | zero => intro i hi;obtain ⟨k,hk,e⟩:=h.piv_in hp h' hs (i:=i) (by omega);exact ⟨k,by omega,e⟩
 | succ d ih =>
  intro i hi
  obtain ⟨k2,hk2,e2⟩:=ih (i + 1) (by omega)
  obtain ⟨k,hk,e⟩:=h.piv_in hp h' hs (i:=i) (by omega)
  have:=h.lt_of hp h' hs (show i < i + 1 by omega) (by omega) hk e e2
  exact ⟨k,by omega,e⟩
theorem Red.le_of:R.length ≤ R'.length:=by
 rcases Nat.eq_zero_or_pos R.length with g | g
 ·omega
 ·obtain ⟨k,hk,_,hik⟩:=h.low_in hp h' hs (R.length - 1) (by omega)
  omega
theorem Red.eq_of (hl:R.length = R'.length):R = R':=by
 have hpv:∀ i,i < R.length → pv' i = pv i:=fun i hi => by
  obtain ⟨k,hk,e,hik⟩:=h.low_in hp h' hs i hi
  obtain ⟨k2,hk2,e2⟩:=h.high_in hp h' hs (R.length - 1 - i) i (by omega)
  have h1:k2 ≤ i:=by omega
  rcases Nat.lt_or_ge k2 k with g | g
  ·have:=h'.mono k2 k g hk;omega
  ·have:k = i:=by omega
   subst this;exact e
 refine mx_ext (D:=R.length) rfl hl.symm fun i hi => ?_
 have hi':i < R'.length:=by omega
 have r1:=h.row i hi
 have r2:=h'.row i hi'
 rw [mkv_eq r1.1,mkv_eq r2.1]
 refine mkv_congr fun j hj => ?_
 have h1:=h'.expand (hs i hi) j hj
 rw [S_one (k:=i) hi' (fun k hk hne => by
  have h3:=h.off k i (by omega) hi (Ne.symm hne)
  simp only [ent] at h3
  rw [hpv k (by omega),h3,Int.zero_mul])] at h1
 have h4:=h.one i hi
 simp only [ent] at h4
 rw [hpv i hi,h4,Int.one_mul] at h1
 have b1:=r1.2 j hj
 have b2:=r2.2 j hj
 simp only [ent] at h1
 rwa [Int.emod_eq_of_lt b1.1 (by omega),Int.emod_eq_of_lt b2.1 (by omega)] at h1
end
end Go.Pl

namespace Go.Pl
open Go Go.Ab Go.Wk Go.Pc
def Inv (m:SModule) (n D:Nat) (R:Mx):Prop:=∀ r ∈ R,∀ i,i < n → Sp m.Prime D R (rowM m.Prime D r (m.Actions.getD i []))
section
variable {n D:Nat} {m:SModule} (hm:MOk n m D) (hn:n ≤ 6)
 include hm hn
theorem spA_mem {R:Mx} {r:List Int} (hr:r ∈ R) {i:Nat}:∀ j,i < j → rowM m.Prime D r (m.Actions.getD i []) ∈ spA m D R j
 | 0,h => by
  have _:=hm;have _:=hn
  omega
 | j + 1,h => by
  rw [spA,List.mem_append]
  by_cases e:i = j
  ·subst e;exact .inr (List.mem_map.2 ⟨r,hr,rfl⟩)
  ·exact .inl (spA_mem hr j (by omega))
theorem spin_step {R:Mx} {pv:Nat → Nat} (hR:Red m.Prime D R pv):∃ R2 pv2,Red m.Prime D R2 pv2 ∧ R.length ≤ R2.length ∧ (R2.length = R.length ↔ Inv m n D R) ∧ l2_spec_l21Spin m R = if R2.length = R.length then some (.inr R) else some (.inl R2):=by
 have h7:=hm.p.pos
 have h3:=hm.d3
 have hRl:R.length ≤ D:=hR.len_le
 have hrow:∀ r ∈ R,Row m.Prime D r:=fun r h => by
  obtain ⟨i,hi,rfl⟩:=List.mem_iff_getElem.1 h
  have:=hR.row i hi
  rwa [List.getD_eq_getElem?_getD,List.getElem?_eq_getElem hi] at this
 have hin:(loopO (l1_spec_l21Spin m R) (R,0)) = some (spA m D R n):=by
  have:=loopO_seq (body:=l1_spec_l21Spin m R) (r:=spA m D R n) (fun i => (spA m D R i,(i:Int))) n (fun i hi => by
   have hl:=spA_len hm hn (R:=R) i
   have hl2:i * R.length ≤ 6 * 3:=Nat.mul_le_mul (by omega) (by omega)
   unfold l1_spec_l21Spin
   simp only
   rw [hm.len,lt_t hi,cnd_t,ixO_d [] (by rw [hm.len];exact hi),bs,hm.d,product_rows hm.p h3 (by omega) hR.row (hm.mat i hi),bs,appO_of (by rw [hl,PM_length];omega),bs,rng_of (by omega) (by omega),bs,cs];rfl) (by
   unfold l1_spec_l21Spin
   simp only
   rw [hm.len,lt_f,cnd_f])
  exact this
 have hl:=spA_len hm hn (R:=R) n
 have hl2:n * R.length ≤ 6 * 3:=Nat.mul_le_mul (by omega) (by omega)
 have hrows:=spA_all hm hn (R:=R) (P:=Row m.Prime D) hrow (fun r _ i _ => rowM_row (by omega)) n (Nat.le_refl _)
 obtain ⟨R2,pv2,g1,_,g3,g4⟩:=reduce_both hm.p (n:=D) (by omega) (rows:=spA m D R n) (by omega) fun i hi => hrows _ (getD_mem hi)
 have hsub:∀ i,i < R.length → Sp m.Prime D R2 (R.getD i []):=fun i hi => g4.iff.2 (sp_mem (spA_in hm hn n _ (getD_mem hi)))
 refine ⟨R2,pv2,g3,hR.le_of (by omega) g3 hsub,⟨fun hlen => ?_,fun hI => ?_⟩,?_⟩
 ·have hu:=hR.eq_of (by omega) g3 hsub hlen.symm
  intro r hr i hi
  rw [hu]
  exact g4.iff.2 (sp_mem (hu ▸ spA_mem hm hn hr n hi))
 ·have hin2:∀ r ∈ spA m D R n,Sp m.Prime D R r:=spA_all hm hn (R:=R) (P:=Sp m.Prime D R) (fun r h => sp_mem h) (fun r h i hi => hI r h i hi) n (Nat.le_refl _)
  have:=g3.le_of (by omega) hR fun i hi => sp_trans (fun j hj => hin2 _ (getD_mem hj)) (g4.1 i hi)
  have:=hR.le_of (by omega) g3 hsub
  omega
 ·unfold l2_spec_l21Spin
  rw [own2_spec (by omega) (fun i hi => by rw [(hR.row i hi).1];omega),bs,hin,bs,g1,bs]
  by_cases e:R2.length = R.length
  ·rw [if_pos e,e];simp only [beq_self_eq_true,cnd_t]
  ·rw [if_neg e,show ((R2.length:Int) == (R.length:Int)) = false from by simp;omega,cnd_f]
theorem spin_any:∀ (d:Nat) (R:Mx) (pv:Nat → Nat),Red m.Prime D R pv → D - R.length ≤ d → ∃ W,loopO (l2_spec_l21Spin m) R = some W ∧ R.length ≤ W.length ∧ (W.length = R.length ↔ Inv m n D R):=by
 intro d
 induction d with
 | zero =>
  intro R pv hR hd
  have hRl:R.length ≤ D:=hR.len_le
  obtain ⟨R2,pv2,g1,g2,g3,g4⟩:=spin_step hm hn hR
  have h2:R2.length ≤ D:=g1.len_le
  have e:R2.length = R.length:=by omega
  rw [if_pos e] at g4
  exact ⟨R,by rw [loopO_eq,g4],Nat.le_refl _,⟨fun _ => g3.1 e,fun _ => rfl⟩⟩
 | succ d ih =>
  intro R pv hR hd
  obtain ⟨R2,pv2,g1,g2,g3,g4⟩:=spin_step hm hn hR
  by_cases e:R2.length = R.length
  ·rw [if_pos e] at g4
   exact ⟨R,by rw [loopO_eq,g4],Nat.le_refl _,⟨fun _ => g3.1 e,fun _ => rfl⟩⟩
  ·rw [if_neg e] at g4
   obtain ⟨W,w1,w2,_⟩:=ih R2 pv2 g1 (by omega)
   exact ⟨W,by rw [loopO_eq,g4];exact w1,by omega,⟨fun h => by omega,fun hI => absurd (g3.2 hI) e⟩⟩
end
end Go.Pl

namespace Go.Pl
open Go Go.Ab Go.Wk Go.Pc
theorem at0_app {u v:List Int} {j:Nat}:at0 (u ++ v) j = if j < u.length then at0 u j else at0 v (j - u.length):=by
 simp only [at0,List.getD_eq_getElem?_getD]
 split
 ·next h => rw [List.getElem?_append_left h]
 ·next h => rw [List.getElem?_append_right (by omega)]
theorem at0_drop {v:List Int} {c j:Nat}:at0 (v.drop c) j = at0 v (c + j):=by
 simp only [at0,List.getD_eq_getElem?_getD,List.getElem?_drop]
theorem at0_take {v:List Int} {c j:Nat} (h:j < c):at0 (v.take c) j = at0 v j:=by
 simp only [at0,List.getD_eq_getElem?_getD,List.getElem?_take,if_pos h]
theorem gl_getD {F:Nat → List Int} {m i:Nat} (h:i < m):(gl m F).getD i [] = F i:=by simp [gl,List.getD_eq_getElem?_getD,h]
def ur (N i:Nat):List Int:=mkv N fun j => if j = i then 1 else 0
def wd (N:Nat) (A:Mx):Mx:=gl N fun i => A.getD i [] ++ ur N i
section
variable {p:Int} (hp:1 < p) {c N:Nat} {A:Mx} (hA:∀ i,i < N → Row p c (A.getD i []))
 include hA
theorem wd_len:(wd N A).length = N:=by
 have _:=hA
 exact gl_len
theorem wd_left {i j:Nat} (hi:i < N) (hj:j < c):ent (wd N A) i j = ent A i j:=by
 rw [ent,wd,gl_getD hi,at0_app,(hA i hi).1,if_pos hj]
theorem wd_right {i l:Nat} (hi:i < N) (hl:l < N):ent (wd N A) i (c + l) = if l = i then 1 else 0:=by
 rw [ent,wd,gl_getD hi,at0_app,(hA i hi).1,if_neg (by omega),Nat.add_sub_cancel_left,ur,mkv_at hl]
 include hp
theorem wd_row {i:Nat} (hi:i < N):Row p (c + N) ((wd N A).getD i []):=by
 refine ⟨by rw [wd,gl_getD hi,List.length_append,(hA i hi).1,ur,mkv_length],fun j hj => ?_⟩
 rcases Nat.lt_or_ge j c with g | g
 ·have:=(hA i hi).2 j g
  have e:=wd_left hA hi g
  simp only [ent] at e
  rw [e];exact this
 ·have e:=wd_right hA (l:=j - c) hi (by omega)
  rw [show c + (j - c) = j from by omega] at e
  simp only [ent] at e
  rw [e]
  split <;> omega
variable {W:Mx} {pv:Nat → Nat} (hW:Red p (c + N) W pv) (hs:SpEq p (c + N) W (wd N A))
 include hW
def nul (c t:Nat) (W:Mx):Mx:=gl (W.length - t) fun i => (W.getD (t + i) []).drop c
 omit hp hA hW in
theorem nul_ent {t i j:Nat} (hi:t + i < W.length):ent (nul c t W) i j = ent W (t + i) (c + j):=by
  rw [ent,nul,gl_getD (by omega),at0_drop]
variable {t:Nat} (ht:t ≤ W.length) (h1:∀ i,i < t → pv i < c) (h2:∀ i,t ≤ i → i < W.length → c ≤ pv i)
 include ht h1 h2
theorem nul_red:Red p N (nul c t W) (fun i => pv (t + i) - c):=by
 have _:=hp;have _:=hA;have _:=h1;have _:=ht
 have hl:(nul c t W).length = W.length - t:=gl_len
 have hpc:∀ i,i < W.length - t → c ≤ pv (t + i):=fun i hi => h2 (t + i) (by omega) (by omega)
 refine ⟨fun i hi => ?_,fun i hi => ?_,fun i hi => ?_,fun i hi j hj => ?_,fun i k hi hk hne => ?_,fun i j hij hj => ?_⟩
 ·rw [hl] at hi
  have hr:=hW.row (t + i) (by omega)
  refine ⟨by rw [nul,gl_getD hi,List.length_drop,hr.1];omega,fun j hj => ?_⟩
  have:=hr.2 (c + j) (by omega)
  rw [nul,gl_getD hi,at0_drop];exact this
 ·rw [hl] at hi
  have:=hW.lt (t + i) (by omega)
  have:=hpc i hi
  omega
 ·rw [hl] at hi
  rw [nul_ent (by omega),show c + (pv (t + i) - c) = pv (t + i) from by have:=hpc i hi;omega]
  exact hW.one _ (by omega)
 ·rw [hl] at hi
  rw [nul_ent (by omega)]
  exact hW.low _ (by omega) _ (by omega)
 ·rw [hl] at hi hk
  rw [nul_ent (by omega),show c + (pv (t + i) - c) = pv (t + i) from by have:=hpc i hi;omega]
  exact hW.off _ _ (by omega) (by omega) (by omega)
 ·rw [hl] at hj
  have:=hW.mono (t + i) (t + j) (by omega) (by omega)
  have:=hpc i (by omega)
  omega
 include hs
end
end Go.Pl

namespace Go.Pl
open Go Go.Ab Go.Wk Go.Pc
def IsMx (u:SMatrix):Prop:=Prime u.Prime ∧ ∃ C:Nat,C ≤ 8 ∧ u.Columns = (C:Int) ∧ u.Rows.length ≤ 8 ∧ ∀ i,i < u.Rows.length → Row u.Prime C (u.Rows.getD i [])
theorem isMx_impl {u:SMatrix}:IsB (f_impl_IsMatrix u) (IsMx u):=by
 unfold f_impl_IsMatrix
 rcases prime_impl u.Prime with ⟨h1,h2⟩ | ⟨h1,h2⟩
 ·rw [h1,bs,Bool.not_true,cnd_f]
  rcases inside_impl u.Columns 0 8 with ⟨h3,h4⟩ | ⟨h3,h4⟩
  ·obtain ⟨C,hC⟩:∃ C:Nat,u.Columns = (C:Int):=⟨u.Columns.toNat,by omega⟩
   rw [h3,bs,Bool.not_true,cnd_f]
   by_cases hl:u.Rows.length ≤ 8
   ·rw [decide_eq_false (by omega),cnd_f]
    refine (all_fn (body:=l1_impl_IsMatrix u) u.Rows.length (fun i => Row u.Prime C (u.Rows.getD i [])) rfl (fun i hi _ => ?_) ?_).iff ⟨fun g => ⟨h2,C,by omega,hC,hl,g⟩,fun ⟨_,C',_,e,_,g⟩ => by
     have:C' = C:=by omega
     rw [← this];exact g⟩
    ·refine one_chk (vector_impl h2 (D:=C) (by omega)) (by omega) ?_
     unfold l1_impl_IsMatrix
     rw [lt_t hi,cnd_t,ixO_d [] hi,bs,hC]
    ·unfold l1_impl_IsMatrix
     rw [lt_f,cnd_f]
   ·rw [decide_eq_true (by omega),cnd_t]
    exact .inr ⟨rfl,fun ⟨_,_,_,_,g,_⟩ => hl g⟩
  ·rw [h3,bs,Bool.not_false,cnd_t]
   exact .inr ⟨rfl,fun ⟨_,C,g1,g2,_⟩ => h4 (by omega)⟩
 ·rw [h1,bs,Bool.not_false,cnd_t]
  exact .inr ⟨rfl,fun g => h2 g.1⟩
theorem isMx_spec {u:SMatrix}:IsB (f_spec_IsMatrix u) (IsMx u):=by
 unfold f_spec_IsMatrix
 rcases prime_spec u.Prime with ⟨h1,h2⟩ | ⟨h1,h2⟩
 ·rw [h1,bs,Bool.not_true,cnd_f]
  rcases inside_spec u.Columns 0 8 with ⟨h3,h4⟩ | ⟨h3,h4⟩
  ·obtain ⟨C,hC⟩:∃ C:Nat,u.Columns = (C:Int):=⟨u.Columns.toNat,by omega⟩
   rw [h3,bs,Bool.not_true,cnd_f]
   by_cases hl:u.Rows.length ≤ 8
   ·rw [decide_eq_false (by omega),cnd_f]
    refine (all_fn (body:=l1_spec_IsMatrix u) u.Rows.length (fun i => Row u.Prime C (u.Rows.getD i [])) rfl (fun i hi _ => ?_) ?_).iff ⟨fun g => ⟨h2,C,by omega,hC,hl,g⟩,fun ⟨_,C',_,e,_,g⟩ => by
     have:C' = C:=by omega
     rw [← this];exact g⟩
    ·refine one_chk (vector_spec h2 (D:=C) (by omega)) (by omega) ?_
     unfold l1_spec_IsMatrix
     rw [lt_t hi,cnd_t,ixO_d [] hi,bs,hC]
    ·unfold l1_spec_IsMatrix
     rw [lt_f,cnd_f]
   ·rw [decide_eq_true (by omega),cnd_t]
    exact .inr ⟨rfl,fun ⟨_,_,_,_,g,_⟩ => hl g⟩
  ·rw [h3,bs,Bool.not_false,cnd_t]
   exact .inr ⟨rfl,fun ⟨_,C,g1,g2,_⟩ => h4 (by omega)⟩
 ·rw [h1,bs,Bool.not_false,cnd_t]
  exact .inr ⟨rfl,fun g => h2 g.1⟩
def IsSs (u:SMatrix):Prop:=Prime u.Prime ∧ ∃ (C:Nat) (pv:Nat → Nat),C ≤ 8 ∧ u.Columns = (C:Int) ∧ Red u.Prime C u.Rows pv
theorem IsSs.mx {u:SMatrix} (h:IsSs u):IsMx u:=by
 obtain ⟨h1,C,pv,h2,h3,h4⟩:=h
 exact ⟨h1,C,h2,h3,by have:=h4.len_le;omega,h4.row⟩
theorem Row.len {p:Int} {n:Nat} {R:Mx} (h:∀ i,i < R.length → Row p n (R.getD i [])):∀ r ∈ R,r.length = n:=fun r hr => by
 obtain ⟨i,hi,rfl⟩:=List.mem_iff_getElem.1 hr
 have:=(h i hi).1
 rwa [List.getD_eq_getElem?_getD,List.getElem?_eq_getElem hi] at this
theorem subspace_impl {u:SMatrix}:IsB (f_impl_IsSubspace u) (IsSs u):=by
 unfold f_impl_IsSubspace
 rcases isMx_impl (u:=u) with ⟨h1,h2⟩ | ⟨h1,h2⟩
 ·obtain ⟨g1,C,g2,g3,g4,g5⟩:=h2
  obtain ⟨R,pv,r1,r2,r3,r4⟩:=reduce_both g1 (n:=C) (by omega) (rows:=u.Rows) (by omega) g5
  have hRl:R.length ≤ C:=r3.len_le
  rw [h1,bs,cnd_t]
  unfold f_impl_reduced f_impl_spanOf
  rw [r2]
  simp only [bs]
  rw [sameRows_impl (by omega) (fun r hr => by rw [Row.len r3.row r hr];omega)]
  simp only [bs]
  refine IsB.of_bool ⟨fun e => ?_,fun ⟨_,C',pv',_,e2,e3⟩ => ?_⟩
  ·have e:R = u.Rows:=by simpa using e
   exact ⟨g1,C,pv,g2,g3,e ▸ r3⟩
  ·obtain rfl:C' = C:=by omega
   have:=g1.pos
   have:=r3.unique (by omega) e3 r4
   simp [this]
 ·rw [h1,bs,cnd_f]
  exact .inr ⟨rfl,fun g => h2 g.mx⟩
theorem subspace_spec {u:SMatrix}:IsB (f_spec_IsSubspace u) (IsSs u):=by
 unfold f_spec_IsSubspace
 rcases isMx_spec (u:=u) with ⟨h1,h2⟩ | ⟨h1,h2⟩
 ·obtain ⟨g1,C,g2,g3,g4,g5⟩:=h2
  obtain ⟨R,pv,r1,r2,r3,r4⟩:=reduce_both g1 (n:=C) (by omega) (rows:=u.Rows) (by omega) g5
  have hRl:R.length ≤ C:=r3.len_le
  rw [h1,bs,cnd_t,r1]
  simp only [bs]
  rw [same2_spec (by omega) (fun r hr => by rw [Row.len r3.row r hr];omega)]
  simp only [bs]
  refine IsB.of_bool ⟨fun e => ?_,fun ⟨_,C',pv',_,e2,e3⟩ => ?_⟩
  ·have e:R = u.Rows:=by simpa using e
   exact ⟨g1,C,pv,g2,g3,e ▸ r3⟩
  ·obtain rfl:C' = C:=by omega
   have:=g1.pos
   have:=r3.unique (by omega) e3 r4
   simp [this]
 ·rw [h1,bs,cnd_f]
  exact .inr ⟨rfl,fun g => h2 g.mx⟩
theorem isZeroG_impl {v:List Int} (hl:v.length ≤ 1000000):IsB (f_impl_isZero v) (∀ i,i < v.length → at0 v i = 0):=by
 refine all_fn v.length (fun i => at0 v i = 0) rfl (fun i hi _ => ?_) ?_
 ·refine one_chk (o:=some (at0 v i == 0)) (IsB.of_bool (by simp)) (by omega) ?_
  unfold l1_impl_isZero
  rw [lt_t hi,cnd_t,ixO_at hi,bs,bs];rfl
 ·unfold l1_impl_isZero
  rw [lt_f,cnd_f]
theorem productR_impl {p:Int} (hp:Prime p) {D:Nat} (hD:D ≤ 3) {A B:Mx} {q:Int} (hl:A.length ≤ 1000) (hA:∀ i,i < A.length → Row p D (A.getD i [])) (hB:Mat p D B):f_impl_product (SMatrix.mk p q A) (SMatrix.mk p (D:Int) B) = some (SMatrix.mk p (D:Int) (PM p D A B)):=by
 unfold f_impl_product
 have:=loopO_seq (body:=l1_impl_product (SMatrix.mk p q A) (SMatrix.mk p (D:Int) B)) (r:=PM p D A B) (fun i => ((PM p D A B).take i,(i:Int))) A.length (fun i hi => by
  unfold l1_impl_product
  simp only
  rw [lt_t hi,cnd_t,ixO_d [] (by omega),bs,vectorTimes_impl hp (by omega) (hA i hi) hB rfl,bs,appO_of (by rw [List.length_take,PM_length];simp;omega),bs,rng_of (by omega) (by omega),bs,cs,prod_take hp (by omega) (by omega)]) (by
  unfold l1_impl_product
  simp only
  rw [lt_f,cnd_f,List.take_of_length_le (by rw [PM_length];omega)])
 rw [show ((0:Nat):Int) = 0 from rfl,List.take_zero] at this
 rw [this,bs]
section
variable {n D:Nat} {m:SModule} (hm:MOk n m D) (hn:n ≤ 6)
 include hm
def Fit (m:SModule) (D:Nat) (u:SMatrix):Prop:=u.Prime = m.Prime ∧ u.Columns = (D:Int) ∧ ∃ pv,Red m.Prime D u.Rows pv
theorem fit_iff {u:SMatrix}:(IsSs u ∧ u.Prime = m.Prime ∧ u.Columns = m.Dim) ↔ Fit m D u:=by
 have h3:=hm.d3
 have hd:=hm.d
 constructor
 ·rintro ⟨⟨_,C,pv,_,g2,g3⟩,e1,e2⟩
  obtain rfl:C = D:=by omega
  exact ⟨e1,g2,pv,e1 ▸ g3⟩
 ·rintro ⟨e1,e2,pv,e3⟩
  exact ⟨⟨e1 ▸ hm.p,D,pv,by omega,e2,e1 ▸ e3⟩,e1,by omega⟩
theorem fit_impl {u:SMatrix}:IsB (f_impl_fitsModule m u) (Fit m D u):=by
 refine IsB.iff ?_ (fit_iff hm)
 unfold f_impl_fitsModule
 rcases subspace_impl (u:=u) with ⟨h1,h2⟩ | ⟨h1,h2⟩
 ·rw [h1,bs,cnd_t]
  by_cases e1:u.Prime = m.Prime
  ·rw [beq_t e1,cnd_t]
   by_cases e2:u.Columns = m.Dim
   ·rw [beq_t e2];exact .inl ⟨rfl,h2,e1,e2⟩
   ·rw [show (u.Columns == m.Dim) = false from by simpa using e2];exact .inr ⟨rfl,fun g => e2 g.2.2⟩
  ·rw [show (u.Prime == m.Prime) = false from by simpa using e1,cnd_f];exact .inr ⟨rfl,fun g => e1 g.2.1⟩
 ·rw [h1,bs,cnd_f];exact .inr ⟨rfl,fun g => h2 g.1⟩
theorem fit_spec {u:SMatrix}:IsB (f_spec_l21Space m u) (Fit m D u):=by
 refine IsB.iff ?_ (fit_iff hm)
 unfold f_spec_l21Space
 rcases subspace_spec (u:=u) with ⟨h1,h2⟩ | ⟨h1,h2⟩
 ·rw [h1,bs,cnd_t]
  by_cases e1:u.Prime = m.Prime
  ·rw [beq_t e1,cnd_t]
   by_cases e2:u.Columns = m.Dim
   ·rw [beq_t e2];exact .inl ⟨rfl,h2,e1,e2⟩
   ·rw [show (u.Columns == m.Dim) = false from by simpa using e2];exact .inr ⟨rfl,fun g => e2 g.2.2⟩
  ·rw [show (u.Prime == m.Prime) = false from by simpa using e1,cnd_f];exact .inr ⟨rfl,fun g => e1 g.2.1⟩
 ·rw [h1,bs,cnd_f];exact .inr ⟨rfl,fun g => h2 g.1⟩
 include hn
theorem invRows_iff {R:Mx}:(∀ i,i < n → ∀ k,k < R.length → Sp m.Prime D R (rowM m.Prime D (R.getD k []) (m.Actions.getD i []))) ↔ Inv m n D R:=by
 have _:=hm;have _:=hn
 constructor
 ·intro h r hr i hi
  obtain ⟨k,hk,rfl⟩:=List.mem_iff_getElem.1 hr
  have:=h i hi k hk
  rwa [List.getD_eq_getElem?_getD,List.getElem?_eq_getElem hk] at this
 ·intro h i hi k hk
  exact h _ (getD_mem hk) i hi
theorem isSub_impl {u:SMatrix} (hu:Fit m D u):IsB (f_impl_isSubmodule m u) (Inv m n D u.Rows):=by
 obtain ⟨e1,e2,pv,hR⟩:=hu
 have h7:=hm.p.pos
 have h3:=hm.d3
 have hRl:u.Rows.length ≤ D:=hR.len_le
 have hu:u = SMatrix.mk m.Prime (D:Int) u.Rows:=by rw [← e1,← e2]
 refine IsB.iff ?_ (invRows_iff hm hn)
 refine all_fn (body:=l2_impl_isSubmodule m u) n (fun i => ∀ k,k < u.Rows.length → Sp m.Prime D u.Rows (rowM m.Prime D (u.Rows.getD k []) (m.Actions.getD i []))) rfl (fun i hi _ => ?_) ?_
 ·unfold l2_impl_isSubmodule
  rw [hm.len,lt_t hi,cnd_t,actionAt_impl hm hn hi,bs]
  have hpr:f_impl_product u (SMatrix.mk m.Prime (D:Int) (m.Actions.getD i [])) = some (SMatrix.mk m.Prime (D:Int) (PM m.Prime D u.Rows (m.Actions.getD i []))):=by
   conv => lhs;rw [hu]
   exact productR_impl hm.p h3 (by omega) hR.row (hm.mat i hi)
  rw [hpr,bs]
  have hin:=chk (body:=l1_impl_isSubmodule u (SMatrix.mk m.Prime (D:Int) (PM m.Prime D u.Rows (m.Actions.getD i [])))) u.Rows.length 0 (Nat.zero_le _) (fun k => Sp m.Prime D u.Rows (rowM m.Prime D (u.Rows.getD k []) (m.Actions.getD i []))) (fun _ => false) (fun k _ hk _ => by
   have hw:Row m.Prime D (rowM m.Prime D (u.Rows.getD k []) (m.Actions.getD i [])):=rowM_row (by omega)
   have hcl:=cl_row hm.p (by omega) hR hw u.Rows.length
   refine one_chk ((isZeroG_impl (by rw [hcl.1];omega)).iff (by rw [hcl.1];exact cl_zero hm.p (by omega) hR hw)) (by omega) ?_
   unfold l1_impl_isSubmodule
   simp only
   rw [PM_length,lt_t hk,cnd_t,ixO_d [] (by rw [PM_length];exact hk),bs,PM_get hk]
   conv => lhs;rw [hu]
   rw [remainder_impl hm.p (by omega) hR hw (by omega),bs]) (by
   unfold l1_impl_isSubmodule
   simp only
   rw [PM_length,lt_f,cnd_f])
  rcases hin with ⟨g1,g2⟩ | ⟨k,_,hk,g1,g2⟩
  ·left
   rw [show ((0:Nat):Int) = 0 from rfl] at g1
   rw [g1,bs]
   simp only
   rw [rng_of (by omega) (by omega),bs,cs]
   exact ⟨rfl,fun k hk => g2 k (Nat.zero_le _) hk⟩
  ·right
   rw [show ((0:Nat):Int) = 0 from rfl] at g1
   rw [g1,bs]
   exact ⟨rfl,fun g => g2 (g k hk)⟩
 ·unfold l2_impl_isSubmodule
  rw [hm.len,lt_f,cnd_f]
theorem reduce_id {R:Mx} {pv:Nat → Nat} (hR:Red m.Prime D R pv):f_spec_l02Reduce m.Prime R = some R ∧ f_impl_reduceRows m.Prime R = some R:=by
 have _:=hn
 have h7:=hm.p.pos
 have h3:=hm.d3
 have hRl:R.length ≤ D:=hR.len_le
 obtain ⟨R2,pv2,r1,r2,r3,r4⟩:=reduce_both hm.p (n:=D) (by omega) (rows:=R) (by omega) hR.row
 rw [← r3.unique (by omega) hR r4]
 rw [← r3.unique (by omega) hR r4] at r1 r2
 exact ⟨r1,r2⟩
theorem isSub_spec {u:SMatrix} (hu:Fit m D u):IsB (f_spec_l21Sub m u.Rows) (Inv m n D u.Rows):=by
 obtain ⟨e1,e2,pv,hR⟩:=hu
 obtain ⟨W,w1,w2,w3⟩:=spin_any hm hn D u.Rows pv hR (by omega)
 unfold f_spec_l21Sub f_spec_l21Spin
 rw [(reduce_id hm hn hR).1,bs,w1]
 simp only [bs]
 exact IsB.of_bool (by rw [← w3];simp;omega)
end
end Go.Pl

namespace Go.Pl
open Go Go.Ab Go.Wk Go.Pc
def VMat (x:SMatrix):Prop:=VI x.Prime ∧ VI x.Columns ∧ VL (VL VI) x.Rows
theorem szMatrix {x:SMatrix} {b:Int} (h:VMat x) (b0:0 ≤ b) (b1:b ≤ 1048576):f_laws_szMatrix x b = some (szR (c2 x.Rows) b):=by
 unfold f_laws_szMatrix
 rw [szInt64SS h.2.2 b0 b1,bs]
 by_cases g:szR (c2 x.Rows) b < 0
 ·rw [decide_eq_true g,cnd_t]
  unfold szR at g ⊢
  split
  ·next h1 => rw [if_pos h1] at g;omega
  ·rfl
 ·rw [decide_eq_false g,cnd_f]
theorem toMatrix {x:SMatrix} (h:S2 x.Rows):f_laws_toMatrix x = some x:=by
 unfold f_laws_toMatrix
 rw [toInt64SS h,bs]
end Go.Pl

namespace Go.Pl
open Go Go.Ab Go.Wk Go.Pc
end Go.Pl

namespace Go.Pl
open Go Go.Ab Go.Wk Go.Pc
structure Nul (p:Int) (c N:Nat) (A W:Mx) (pv:Nat → Nat) (t:Nat):Prop where
 row:∀ i,i < N → Row p c (A.getD i [])
 len:A.length = N
 red:Red p (c + N) W pv
 sp:SpEq p (c + N) W (wd N A)
 le:t ≤ W.length
 lo:∀ i,i < t → pv i < c
 hi:∀ i,t ≤ i → i < W.length → c ≤ pv i
section
variable {p:Int} (hp:Prime p) {c N:Nat} (hcN:c + N ≤ 100000) {A W:Mx} {pv:Nat → Nat} {t:Nat}
 include hp hcN
variable (h:Nul p c N A W pv t)
 include h
theorem Nul.nred:Red p N (nul c t W) (fun i => pv (t + i) - c):=by
 have _:=hcN
 have h7:=hp.pos
 exact nul_red (by omega) h.row h.red h.le h.lo h.hi
theorem Nul.full:W.length = N:=by
 have h7:=hp.pos
 have g1:W.length ≤ (wd N A).length:=reduce_len hp (n:=c + N) hcN (by rw [wd_len h.row];omega) (fun i hi => wd_row (by omega) h.row (by rwa [wd_len h.row] at hi)) h.red h.sp
 rw [wd_len h.row] at g1
 have hl:(gl W.length fun i => (W.getD i []).drop c).length = W.length:=gl_len
 have hR:∀ i,i < W.length → Row p N ((gl W.length fun i => (W.getD i []).drop c).getD i []):=fun i hi => by
  have hr:=h.red.row i hi
  rw [gl_getD hi]
  refine ⟨by rw [List.length_drop,hr.1];omega,fun j hj => ?_⟩
  rw [at0_drop];exact hr.2 (c + j) (by omega)
 obtain ⟨R3,pv3,_,_,g3,g4⟩:=reduce_both hp (n:=N) (by omega) (rows:=gl W.length fun i => (W.getD i []).drop c) (by omega) (by rw [hl];exact hR)
 have g5:=reduce_len hp (n:=N) (by omega) (by omega) (by rw [hl];exact hR) g3 g4
 have hul:(gl N (ur N)).length = N:=gl_len
 have hent:∀ i j,i < N → j < N → ent (gl N (ur N)) i j = if j = i then 1 else 0:=fun i j hi hj => by rw [ent,gl_getD hi,ur,mkv_at hj]
 have hid:Red p N (gl N (ur N)) (fun i => i):=by
  refine ⟨fun i hi => ?_,fun i hi => by omega,fun i hi => ?_,fun i hi j hj => ?_,fun i k hi hk hne => ?_,fun i j hij hj => hij⟩
  ·rw [hul] at hi
   rw [gl_getD hi]
   refine ⟨mkv_length _ _,fun j hj => ?_⟩
   rw [ur,mkv_at hj]
   split <;> omega
  ·rw [hul] at hi
   rw [hent i i hi hi,if_pos rfl]
  ·rw [hul] at hi
   rw [hent i j hi (by omega),if_neg (by omega)]
  ·rw [hul] at hi hk
   rw [hent k i hk hi,if_neg (Ne.symm hne)]
 have g6:=hid.le_of (by omega) g3 (fun i hi => by
  rw [hul] at hi
  refine g4.iff.2 ?_
  obtain ⟨cf,hcf⟩:=h.sp.2 i (by rw [wd_len h.row];exact hi)
  refine ⟨cf,fun j hj => ?_⟩
  have h1:=hcf (c + j) (by omega)
  have h2:=wd_right h.row hi hj
  simp only [ent] at h2
  rw [h2] at h1
  have h3:=hent i j hi hj
  simp only [ent] at h3
  rw [h3,hl,← h1]
  exact congrArg (· % p) (S_congr fun k hk => by rw [ent,gl_getD hk,at0_drop]))
 omega
 omit h in
theorem unitG_spec {N:Nat} (hN:N ≤ 100000):f_spec_l02Unit (N:Int) = some (gl N (ur N)):=by
  have _:=hp;have _:=hcN
  unfold f_spec_l02Unit
  rw [map_loop (body:=l1_spec_l02Unit (N:Int)) N (ur N) (fun i acc hi ha => by
    unfold l1_spec_l02Unit
    simp only
    rw [lt_t hi,cnd_t,lenOk_nat (by omega),bs,ixO_nat,List.getElem?_replicate,if_pos hi,bs,Int.toNat_natCast,mkv_zero,mkv_set,appO_of (by simp;omega),bs,rng_of (by omega) (by omega),bs,cs];rfl) (fun acc => by
    unfold l1_spec_l02Unit
    simp only
    rw [lt_f,cnd_f]),bs]
 omit h in
theorem wide_spec (hr:∀ i,i < N → Row p c (A.getD i [])) (hl:A.length = N):f_spec_l02Wide p A = f_spec_l02Reduce p (wd N A):=by
  unfold f_spec_l02Wide
  rw [hl,unitG_spec hp hcN (by omega),bs,map_loop (body:=l1_spec_l02Wide A (gl N (ur N))) N (fun i => A.getD i [] ++ ur N i) (fun i acc hi ha => by
    unfold l1_spec_l02Wide
    simp only
    rw [hl,lt_t hi,cnd_t,ixO_d [] (by omega),bs,own_spec (by rw [(hr i hi).1];omega),bs,gl_ix hi,bs,appO_of (by rw [(hr i hi).1,ur,mkv_length];omega),bs,appO_of (by simp;omega),bs,rng_of (by omega) (by omega),bs,cs]) (fun acc => by
    unfold l1_spec_l02Wide
    simp only
    rw [hl,lt_f,cnd_f]),bs]
  show (f_spec_l02Reduce p (wd N A)).bind _ = _
  cases f_spec_l02Reduce p (wd N A) <;> rfl
theorem null_loop:loopO (l1_spec_l02Null (c:Int) W) ([],0) = some (nul c t W):=by
 have hf:=h.full hp hcN
 have hle:=h.le
 have:=loopO_seq (body:=l1_spec_l02Null (c:Int) W) (r:=nul c t W) (fun i => (gl (i - t) (fun k => (W.getD (t + k) []).drop c),(i:Int))) W.length (fun i hi => by
  have hr:=h.red.row i hi
  have h1:=h.red.one i hi
  have hlt:=h.red.lt i hi
  have hlead:=lead_is (n:=c + N) hr.1 (by omega) hlt (h.red.low i hi) (by simp only [ent] at h1;omega)
  unfold l1_spec_l02Null
  simp only
  rw [lt_t hi,cnd_t,ixO_d [] hi,bs,hlead,bs]
  rcases Nat.lt_or_ge i t with g | g
  ·have:=h.lo i g
   rw [decide_eq_false (by omega),cnd_f,rng_of (by omega) (by omega),bs,cs,show i - t = 0 from by omega,show i + 1 - t = 0 from by omega]
  ·have:=h.hi i g hi
   have e:sliceO (W.getD i []) (c:Int) ((W.getD i []).length:Int) = some ((W.getD i []).drop c):=by
    unfold sliceO
    rw [if_pos ⟨by omega,by rw [hr.1];omega,by omega⟩,Int.toNat_natCast,Int.toNat_natCast,List.take_of_length_le (by rw [List.length_drop];omega)]
   rw [decide_eq_true (by omega),cnd_t,bs,e,bs,own_spec (by rw [List.length_drop,hr.1];omega),bs,appO_of (by rw [gl_len];simp;omega),bs,rng_of (by omega) (by omega),bs,cs,show i + 1 - t = (i - t) + 1 from by omega,← gl_snoc,show t + (i - t) = i from by omega]) (by
  unfold l1_spec_l02Null
  simp only
  rw [lt_f,cnd_f];rfl)
 rw [show 0 - t = 0 from by omega] at this
 exact this
end
end Go.Pl

namespace Go.Pl
open Go Go.Ab Go.Wk Go.Pc
end Go.Pl

namespace Go.Pl
open Go Go.Ab Go.Wk Go.Pc
end Go.Pl

namespace Go.Pl
open Go Go.Ab Go.Wk Go.Pc
end Go.Pl

namespace Go.Pl
open Go Go.Ab Go.Wk Go.Pc
theorem mats_small {D n:Nat} {F:Nat → Mx} (hD:D ≤ 3) (hn:n ≤ 6) (h:∀ i,i < n → (F i).length = D ∧ ∀ r ∈ F i,r.length = D):S3 (gl n F):=by
 have hl:(gl n F).length = n:=gl_len
 have h1:sm c2 (gl n F) ≤ (gl n F).length * 12:=sm_le fun x hx => by
  obtain ⟨i,hi,rfl⟩:=List.mem_map.1 hx
  obtain ⟨g1,g2⟩:=h i (List.mem_range.1 hi)
  have:=sm_le (c:=c1) (b:=3) (xs:=F i) fun r hr => by rw [c1,g2 r hr];exact hD
  simp only [c2];omega
 simp only [S3,c3];omega
end Go.Pl

namespace Go.Pl
open Go Go.Ab Go.Wk Go.Pc
theorem reduce_same {p:Int} (hp:Prime p) {n:Nat} (hn:n ≤ 100000) {R:Mx} {pv:Nat → Nat} (h:Red p n R pv):f_spec_l02Reduce p R = some R ∧ f_impl_reduceRows p R = some R:=by
 have h7:=hp.pos
 have hl:R.length ≤ n:=h.len_le
 obtain ⟨R2,pv2,r1,r2,r3,r4⟩:=reduce_both hp hn (rows:=R) (by omega) h.row
 have e:=r3.unique (by omega) h r4
 rw [e] at r1 r2
 exact ⟨r1,r2⟩
end Go.Pl

namespace Go.Pl
open Go Go.Ab Go.Wk Go.Pc
end Go.Pl

namespace Go.Pl
open Go Go.Ab Go.Wk Go.Pc
theorem cl_same {p:Int} {n:Nat} {R R':Mx} {pv:Nat → Nat} {v:List Int}:∀ i,(∀ k,k < i → R.getD k [] = R'.getD k []) → cl p n R pv v i = cl p n R' pv v i
 | 0,_ => rfl
 | i + 1,h => by
  rw [cl,cl,cl_same i fun k hk => h k (by omega),h i (by omega)]
theorem Red.sub {p:Int} {n:Nat} {R:Mx} {pv:Nat → Nat} (h:Red p n R pv) {t:Nat} (ht:t ≤ R.length):Red p n (gl t fun i => R.getD i []) pv:=by
 have hl:(gl t fun i => R.getD i []).length = t:=gl_len
 have he:∀ i j,i < t → ent (gl t fun i => R.getD i []) i j = ent R i j:=fun i j hi => by rw [ent,gl_getD hi]
 refine ⟨fun i hi => ?_,fun i hi => h.lt i (by omega),fun i hi => ?_,fun i hi j hj => ?_,fun i k hi hk hne => ?_,fun i j hij hj => h.mono i j hij (by omega)⟩
 ·rw [hl] at hi
  rw [gl_getD hi];exact h.row i (by omega)
 ·rw [hl] at hi
  rw [he _ _ hi];exact h.one i (by omega)
 ·rw [hl] at hi
  rw [he _ _ hi];exact h.low i (by omega) j hj
 ·rw [hl] at hi hk
  rw [he _ _ hk];exact h.off i k (by omega) (by omega) hne
section
variable {p:Int} (hp:Prime p) {c:Nat} {U:Mx} {pv:Nat → Nat} (hU:Red p c U pv)
 include hp hU
theorem wd_red:Red p (c + U.length) (wd U.length U) pv:=by
 have h7:=hp.pos
 have hl:(wd U.length U).length = U.length:=gl_len
 refine ⟨fun i hi => ?_,fun i hi => ?_,fun i hi => ?_,fun i hi j hj => ?_,fun i k hi hk hne => ?_,fun i j hij hj => hU.mono i j hij (by omega)⟩
 ·rw [hl] at hi
  exact wd_row (by omega) hU.row hi
 ·have:=hU.lt i (by omega);omega
 ·rw [hl] at hi
  rw [wd_left hU.row hi (hU.lt i hi)];exact hU.one i hi
 ·rw [hl] at hi
  have:=hU.lt i hi
  rw [wd_left hU.row hi (by omega)];exact hU.low i hi j hj
 ·rw [hl] at hi hk
  rw [wd_left hU.row hk (hU.lt i hi)];exact hU.off i k hi hk hne
theorem solve_in (hn:c + U.length ≤ 100000) {b:List Int} (hb:Row p c b) (hs:Sp p c U b) :
  (∀ j,j < c → at0 (cl p (c + U.length) (wd U.length U) pv (b ++ List.replicate U.length 0) U.length) j = 0) ∧
  ∀ l,l < U.length → at0 (cl p (c + U.length) (wd U.length U) pv (b ++ List.replicate U.length 0) U.length) (c + l) = (0 - at0 b (pv l)) % p:=by
 have h7:=hp.pos
 have hW:=wd_red hp hU
 have hl:(wd U.length U).length = U.length:=gl_len
 have hv1:∀ j,j < c → at0 (b ++ List.replicate U.length (0:Int)) j = at0 b j:=fun j hj => by rw [at0_app,if_pos (by rw [hb.1];exact hj)]
 have hv2:∀ l,l < U.length → at0 (b ++ List.replicate U.length (0:Int)) (c + l) = 0:=fun l hl => by
  rw [at0_app,if_neg (by rw [hb.1];omega),hb.1,Nat.add_sub_cancel_left]
  simp [at0,List.getD_eq_getElem?_getD,hl]
 have hv:Row p (c + U.length) (b ++ List.replicate U.length 0):=by
  refine ⟨by rw [List.length_append,hb.1,List.length_replicate],fun j hj => ?_⟩
  rcases Nat.lt_or_ge j c with g | g
  ·rw [hv1 j g];exact hb.2 j g
  ·obtain ⟨l,rfl⟩:∃ l,j = c + l:=⟨j - c,by omega⟩
   rw [hv2 l (by omega)];omega
 obtain ⟨cf,hcf⟩:=cl_comb hp hn hW hv U.length (by omega)
 have hpz:=cl_piv hp hn hW hv U.length (by omega)
 have hrow:=cl_row hp hn hW hv U.length
 rw [hl] at hcf
 have hk:∀ k,k < U.length → (at0 b (pv k) + cf k) % p = 0:=fun k hk => by
  have hlt:=hU.lt k hk
  have h1:=hcf (pv k) (by omega)
  rw [hpz k hk,hv1 _ hlt,S_one (k:=k) hk (fun i hi hne => by rw [wd_left hU.row hi hlt,hU.off k i hk hi hne,Int.mul_zero]),wd_left hU.row hk hlt,hU.one k hk,Int.mul_one] at h1
  rw [← h1];rfl
 constructor
 ·intro j hj
  have h1:=hcf j (by omega)
  have hx:=hU.expand hs j hj
  have h2:(at0 b j + S U.length fun k => cf k * ent (wd U.length U) k j) % p = (S U.length fun k => (at0 b (pv k) + cf k) * ent U k j) % p:=by
   have e:(S U.length fun k => (at0 b (pv k) + cf k) * ent U k j) = (S U.length fun k => at0 b (pv k) * ent U k j) + S U.length fun k => cf k * ent U k j:=by
    rw [← S_add];exact S_congr fun k _ => by rw [Int.add_mul]
   rw [e,S_congr (f:=fun k => cf k * ent (wd U.length U) k j) (g:=fun k => cf k * ent U k j) (fun k hk => by rw [wd_left hU.row hk hj])]
   rw [Int.add_emod,hx,← Int.add_emod]
  have h3:(S U.length fun k => (at0 b (pv k) + cf k) * ent U k j) % p = 0:=by
   rw [S_mod (g:=fun _ => 0) (fun k hk' => by rw [Int.mul_emod,hk k hk',Int.zero_mul]),S_zero];rfl
  have h4:=hrow.2 j (by omega)
  rw [hv1 j hj,h2,h3,Int.emod_eq_of_lt h4.1 (by omega)] at h1
  exact h1
 ·intro l hl'
  have h1:=hcf (c + l) (by omega)
  have h4:=hrow.2 (c + l) (by omega)
  rw [hv2 l hl',Int.zero_add,S_one (k:=l) hl' (fun i hi hne => by rw [wd_right hU.row hi hl',if_neg (Ne.symm hne),Int.mul_zero]),wd_right hU.row hl' hl',if_pos rfl,Int.mul_one,Int.emod_eq_of_lt h4.1 (by omega)] at h1
  rw [h1]
  have h2:=hk l hl'
  refine Int.emod_eq_emod_iff_emod_sub_eq_zero.2 ?_
  rw [← h2];congr 1;omega
end
end Go.Pl

namespace Go.Pl
open Go Go.Ab Go.Wk Go.Pc
end Go.Pl

namespace Go.Pl
open Go Go.Ab Go.Wk Go.Pc
theorem zeros_app {b:List Int} {N:Nat} (h:b.length + N ≤ 1000000):appzO b (N:Int) (0:Int) = some (b ++ List.replicate N 0):=by
 unfold appzO
 rw [if_pos ⟨by omega,by rw [Int.toNat_natCast];omega⟩,Int.toNat_natCast]
section
variable {p:Int} (hp:Prime p) {c N:Nat} (hcN:c + N ≤ 100000) {A W:Mx} {pv:Nat → Nat} {t:Nat} (h:Nul p c N A W pv t)
 include hp hcN h
def sy (p:Int) (c N:Nat) (W:Mx) (pv:Nat → Nat) (b:List Int) (t:Nat):List Int:=cl p (c + N) W pv (b ++ List.replicate N 0) t
def sx (p:Int) (c N:Nat) (W:Mx) (pv:Nat → Nat) (b:List Int) (t:Nat):List Int:=mkv N fun j => (0 - at0 (sy p c N W pv b t) (c + j)) % p
theorem rhs_row {b:List Int} (hb:Row p c b):Row p (c + N) (b ++ List.replicate N 0):=by
 have _:=hcN;have _:=h
 have h7:=hp.pos
 refine ⟨by rw [List.length_append,hb.1,List.length_replicate],fun j hj => ?_⟩
 rw [at0_app,hb.1]
 split
 ·next g => exact hb.2 j g
 ·next g =>
  have:at0 (List.replicate N (0:Int)) (j - c) = 0:=by simp [at0,List.getD_eq_getElem?_getD,show j - c < N by omega]
  rw [this];omega
theorem sy_row {b:List Int} (hb:Row p c b) (t:Nat):Row p (c + N) (sy p c N W pv b t):=cl_row hp hcN h.red (rhs_row hp hcN h hb) t
theorem sx_row {b:List Int}:Row p N (sx p c N W pv b t):=by
 have _:=hcN;have _:=h
 have h7:=hp.pos
 refine ⟨mkv_length _ _,fun j hj => ?_⟩
 rw [sx,mkv_at hj]
 have e1:=Int.emod_nonneg (0 - at0 (sy p c N W pv b t) (c + j)) (show p ≠ 0 by omega)
 have e2:=Int.emod_lt_of_pos (0 - at0 (sy p c N W pv b t) (c + j)) (show 0 < p by omega)
 omega
theorem take_slice {y:List Int} (hy:y.length = c + N):sliceO y 0 (c:Int) = some (y.take c):=by
 have _:=hp;have _:=hcN;have _:=h
 unfold sliceO
 rw [if_pos ⟨by omega,by omega,by omega⟩,Int.toNat_natCast,show (0:Int).toNat = 0 from rfl,List.drop_zero,Nat.sub_zero]
theorem drop_slice {y:List Int} (hy:y.length = c + N):sliceO y (c:Int) ((c + N:Nat):Int) = some (y.drop c):=by
 have _:=hp;have _:=hcN;have _:=h
 unfold sliceO
 rw [if_pos ⟨by omega,by omega,by omega⟩,Int.toNat_natCast,Int.toNat_natCast,List.take_of_length_le (by rw [List.length_drop];omega)]
theorem left_loop:loopO (l1_spec_l02Solve (c:Int) W) ([],0) = some (gl t fun i => W.getD i []):=by
 have hf:=h.full hp hcN
 have hle:=h.le
 have:=loopO_seq (body:=l1_spec_l02Solve (c:Int) W) (r:=gl t fun i => W.getD i []) (fun i => (gl (min i t) (fun i => W.getD i []),(i:Int))) W.length (fun i hi => by
  have hr:=h.red.row i hi
  have h1:=h.red.one i hi
  have hlt:=h.red.lt i hi
  have hlead:=lead_is (n:=c + N) hr.1 (by omega) hlt (h.red.low i hi) (by simp only [ent] at h1;omega)
  unfold l1_spec_l02Solve
  simp only
  rw [lt_t hi,cnd_t,ixO_d [] hi,bs,hlead,bs]
  rcases Nat.lt_or_ge i t with g | g
  ·have:=h.lo i g
   rw [decide_eq_true (by omega),cnd_t,bs,appO_of (by rw [gl_len];simp;omega),bs,rng_of (by omega) (by omega),bs,cs,Nat.min_eq_left (by omega),Nat.min_eq_left (by omega:i + 1 ≤ t),gl_snoc]
  ·have:=h.hi i g hi
   rw [decide_eq_false (by omega),cnd_f,rng_of (by omega) (by omega),bs,cs,Nat.min_eq_right g,Nat.min_eq_right (by omega:t ≤ i + 1)]) (by
  unfold l1_spec_l02Solve
  simp only
  rw [lt_f,cnd_f,Nat.min_eq_right hle])
 rw [Nat.zero_min] at this
 exact this
theorem scale_same {b:List Int}:(mkv N fun j => (at0 ((sy p c N W pv b t).drop c) j * (p - 1)) % p) = sx p c N W pv b t:=by
 have _:=hp;have _:=hcN;have _:=h
 refine mkv_congr fun j hj => ?_
 rw [at0_drop]
 generalize at0 (sy p c N W pv b t) (c + j) = a
 have e:a * (p - 1) = (0 - a) + p * a:=by rw [Int.mul_sub,Int.mul_comm a p];omega
 rw [e,Int.add_mul_emod_self_left]
theorem solve_spec (h2:f_spec_l02Reduce p (wd N A) = some W) {b:List Int} (hb:Row p c b):f_spec_l02Solve p A (c:Int) b = (f_spec_l01Zero ((sy p c N W pv b t).take c)).bind fun r13 => cond (!r13) (some ([],false)) (some (cl p N (nul c t W) (fun i => pv (t + i) - c) (sx p c N W pv b t) (nul c t W).length,true)):=by
 have h7:=hp.pos
 have hr:=h.row
 have hl:=h.len
 have hf:=h.full hp hcN
 have hle:=h.le
 have hy:=sy_row hp hcN h hb t
 have hK:=h.nred hp hcN
 have hKl:(nul c t W).length ≤ N:=hK.len_le
 have hx:=sx_row hp hcN h (b:=b)
 have hleft:cl p (c + N) (gl t fun i => W.getD i []) pv (b ++ List.replicate N 0) (gl t fun i => W.getD i []).length = sy p c N W pv b t:=by
  rw [gl_len,sy]
  exact cl_same t fun k hk => gl_getD hk
 have hnull:f_spec_l02Null p A (c:Int) = some (nul c t W):=by
  unfold f_spec_l02Null
  rw [wide_spec hp hcN hr hl,h2,bs,null_loop hp hcN h,bs]
 have hdl:Row p N ((sy p c N W pv b t).drop c):=by
  refine ⟨by rw [List.length_drop,hy.1];omega,fun j hj => ?_⟩
  rw [at0_drop];exact hy.2 _ (by omega)
 have hgl:(gl t fun i => W.getD i []).length = t:=gl_len
 unfold f_spec_l02Solve
 rw [wide_spec hp hcN hr hl,h2,bs,own_spec (by rw [hb.1];omega),bs,hl,zeros_app (by rw [hb.1];omega),bs,left_loop hp hcN h,bs,clear_spec hp hcN (h.red.sub hle) (rhs_row hp hcN h hb) (by omega),bs,hleft,take_slice hp hcN h hy.1,bs,rng_of (by omega) (by omega),bs,hy.1,drop_slice hp hcN h hy.1,bs,scale_spec hp (by omega) hdl (by omega) (by omega),bs,hnull,bs,scale_same hp hcN h,clear_spec hp (by omega) hK hx (by omega),bs]
end
end Go.Pl

namespace Go.Pl
open Go Go.Ab Go.Wk Go.Pc
section
variable {p:Int} (hp:Prime p) {c:Nat} {U:Mx} {pv:Nat → Nat} (hU:Red p c U pv) (hn:c + U.length ≤ 100000)
 include hp hU hn
theorem red_nul:Nul p c U.length U (wd U.length U) pv U.length:=by
 have _:=hn
 have hl:(wd U.length U).length = U.length:=gl_len
 exact ⟨hU.row,rfl,wd_red hp hU,SpEq.refl,by omega,fun i hi => hU.lt i hi,fun i h1 h2 => by omega⟩
theorem restrict_solve {b:List Int} (hb:Row p c b) (hs:Sp p c U b):f_spec_l02Solve p U (c:Int) b = some (mkv U.length fun l => at0 b (pv l),true):=by
 have h7:=hp.pos
 have h:=red_nul hp hU hn
 have hl:(wd U.length U).length = U.length:=gl_len
 have hy:=sy_row hp hn h hb U.length
 obtain ⟨z1,z2⟩:=solve_in hp hU hn hb hs
 have hnul:nul c U.length (wd U.length U) = []:=by rw [nul,hl,Nat.sub_self];rfl
 have hx:sx p c U.length (wd U.length U) pv b U.length = mkv U.length fun l => at0 b (pv l):=mkv_congr fun l hl' => by
  have e:=z2 l hl'
  have hbl:=hb.2 (pv l) (hU.lt l hl')
  rw [sy,e]
  have e2:(0 - (0 - at0 b (pv l)) % p) % p = (0 - (0 - at0 b (pv l))) % p:=by
   rw [Int.sub_emod,Int.emod_emod,← Int.sub_emod]
  rw [e2,show (0 - (0 - at0 b (pv l))) = at0 b (pv l) from by omega]
  exact Int.emod_eq_of_lt hbl.1 (by omega)
 have htl:((sy p c U.length (wd U.length U) pv b U.length).take c).length = c:=by rw [List.length_take,hy.1];omega
 have hz:f_spec_l01Zero ((sy p c U.length (wd U.length U) pv b U.length).take c) = some true:=by
  rcases zero_spec (v:=(sy p c U.length (wd U.length U) pv b U.length).take c) (by omega) with ⟨g,_⟩ | ⟨_,g⟩
  ·exact g
  ·refine absurd (fun i hi => ?_) g
   rw [htl] at hi
   rw [at0_take hi];exact z1 i hi
 rw [solve_spec hp hn h (reduce_same hp hn (wd_red hp hU)).1 hb,hz,bs,Bool.not_true,cnd_f,hnul,hx]
 rfl
end
def rsM (p:Int) (D N:Nat) (U:Mx) (pv:Nat → Nat) (A:Mx):Mx:=gl N fun k => mkv N fun l => at0 (rowM p D (U.getD k []) A) (pv l)
section
variable {n D:Nat} {m:SModule} (hm:MOk n m D) (hn:n ≤ 6) {U:Mx} {pv:Nat → Nat} (hU:Red m.Prime D U pv) (hI:Inv m n D U)
 include hm hn hU hI
theorem restrict_spec {u:SMatrix} (hu:u.Rows = U):loopO (l2_spec_RestrictModule m u) ([],0) = some (gl n fun i => rsM m.Prime D U.length U pv (m.Actions.getD i [])):=by
 have h7:=hm.p.pos
 have h3:=hm.d3
 have hUl:U.length ≤ D:=hU.len_le
 refine map_loop n (fun i => rsM m.Prime D U.length U pv (m.Actions.getD i [])) (fun i acc hi ha => ?_) (fun acc => ?_)
 ·have hin:=map_loop (body:=l1_spec_RestrictModule m u (acc,(i:Int))) U.length (fun k => mkv U.length fun l => at0 (rowM m.Prime D (U.getD k []) (m.Actions.getD i [])) (pv l)) (fun k z hk hz => by
   unfold l1_spec_RestrictModule
   simp only
   rw [hu,lt_t hk,cnd_t,ixO_d [] hk,bs,ixO_d [] (by rw [hm.len];exact hi),bs,hm.d,times_spec hm.p (by omega) (hU.row k hk) (hm.mat i hi),bs,restrict_solve hm.p hU (by omega) (rowM_row (by omega)) (hI _ (getD_mem hk) i hi),bs]
   simp only
   rw [appO_of (by simp;omega),bs,rng_of (by omega) (by omega),bs,cs]) (fun z => by
   unfold l1_spec_RestrictModule
   simp only
   rw [hu,lt_f,cnd_f])
  unfold l2_spec_RestrictModule
  simp only
  rw [hm.len,lt_t hi,cnd_t,hin,bs,appO_of (by simp;omega),bs,rng_of (by omega) (by omega),bs,cs]
  rfl
 ·unfold l2_spec_RestrictModule
  simp only
  rw [hm.len,lt_f,cnd_f]
theorem restrict_impl {x:SPresentation} (hx:x.Orders.length = n):loopO (l3_impl_RestrictModule x m (SMatrix.mk m.Prime (D:Int) U)) ([],0) = some (gl n fun i => rsM m.Prime D U.length U pv (m.Actions.getD i [])):=by
 have _:=hI
 have h7:=hm.p.pos
 have h3:=hm.d3
 have hUl:U.length ≤ D:=hU.len_le
 refine map_loop n (fun i => rsM m.Prime D U.length U pv (m.Actions.getD i [])) (fun i acc hi ha => ?_) (fun acc => ?_)
 ·have hpl:(PM m.Prime D U (m.Actions.getD i [])).length = U.length:=PM_length
  have hin:=map_loop (body:=l2_impl_RestrictModule (SMatrix.mk m.Prime (D:Int) U) (SMatrix.mk m.Prime (D:Int) (PM m.Prime D U (m.Actions.getD i [])))) U.length (fun k => mkv U.length fun l => at0 (rowM m.Prime D (U.getD k []) (m.Actions.getD i [])) (pv l)) (fun k z hk hz => by
   have hr:=rowM_row (p:=m.Prime) (D:=D) (r:=U.getD k []) (B:=m.Actions.getD i []) (by omega)
   have hl:=map_loop (body:=l1_impl_RestrictModule (rowM m.Prime D (U.getD k []) (m.Actions.getD i [])) (gl U.length fun i => (pv i:Int))) U.length (fun l => at0 (rowM m.Prime D (U.getD k []) (m.Actions.getD i [])) (pv l)) (fun l w hl hw => by
    unfold l1_impl_RestrictModule
    simp only
    rw [gl_len,lt_t hl,cnd_t,gl_ix hl,bs,ixO_at (by rw [hr.1];exact hU.lt l hl),bs,appO_of (by simp;omega),bs,rng_of (by omega) (by omega),bs,cs]) (fun w => by
    unfold l1_impl_RestrictModule
    simp only
    rw [gl_len,lt_f,cnd_f])
   unfold l2_impl_RestrictModule
   simp only
   rw [hpl,lt_t hk,cnd_t,ixO_d [] (by rw [hpl];exact hk),bs,PM_get hk,pivots_impl hm.p (by omega) hU (by omega),bs,hl,bs,appO_of (by simp;omega),bs,rng_of (by omega) (by omega),bs,cs]
   rfl) (fun z => by
   unfold l2_impl_RestrictModule
   simp only
   rw [hpl,lt_f,cnd_f])
  unfold l3_impl_RestrictModule
  simp only
  rw [hx,lt_t hi,cnd_t,actionAt_impl hm hn hi,bs,productR_impl hm.p h3 (by omega) hU.row (hm.mat i hi),bs,hin,bs,appO_of (by simp;omega),bs,rng_of (by omega) (by omega),bs,cs]
  rfl
 ·unfold l3_impl_RestrictModule
  simp only
  rw [hx,lt_f,cnd_f]
end
theorem RestrictModule_agree {x:SPresentation} {m:SModule} {u:SMatrix} (hx:SPres x) (hm:SMod m) (_hu:S2 u.Rows):∃ g k,f_spec_RestrictModule x m u = some (g,k) ∧ f_impl_RestrictModule x m u = some (g,k) ∧ SMod g:=by
 have hl:x.Orders.length ≤ 1048576:=hx.1
 have hml:=S3.len hm
 have hnil:SMod (SModule.mk 0 0 []):=by simp [SMod,S3,c3,sm]
 unfold f_spec_RestrictModule f_impl_RestrictModule
 rcases (IsModule_spec (m:=m) hl).both (isModule_impl (m:=m) hl hml) with ⟨s1,i1,hM⟩ | ⟨s1,i1,hM⟩
 ·obtain ⟨hc,D,hD,_⟩:=hM
  have h6:=hc.1.os.1
  have h3:=hD.d3
  simp only [s1,i1,bs,Bool.not_true,cnd_f]
  rcases (fit_spec hD (u:=u)).both (fit_impl hD (u:=u)) with ⟨s2,i2,hF⟩ | ⟨s2,i2,hF⟩
  ·simp only [s2,i2,bs,Bool.not_true,cnd_f]
   rcases (isSub_spec hD h6 hF).both (isSub_impl hD h6 hF) with ⟨s3,i3,hI⟩ | ⟨s3,i3,_⟩
   ·by_cases h0:u.Rows.length = 0
    ·have e0:((u.Rows.length:Int) == 0) = true:=beq_t (by omega)
     simp only [s3,bs,Bool.not_true,cnd_f,e0,cnd_t]
     exact ⟨_,_,rfl,rfl,hnil⟩
    ·have e0:((u.Rows.length:Int) == 0) = false:=beq_f (by omega)
     obtain ⟨e1,e2,pv,hR⟩:=hF
     have hUl:u.Rows.length ≤ D:=hR.len_le
     have hu:u = SMatrix.mk m.Prime (D:Int) u.Rows:=by rw [← e1,← e2]
     have ei:loopO (l3_impl_RestrictModule x m u) ([],0) = some (gl x.Orders.length fun i => rsM m.Prime D u.Rows.length u.Rows pv (m.Actions.getD i [])):=by
      conv => lhs;rw [hu]
      exact restrict_impl hD h6 hR hI rfl
     simp only [s3,i3,bs,Bool.not_true,cnd_f,e0,restrict_spec hD h6 hR hI rfl,ei]
     refine ⟨_,_,rfl,rfl,mats_small (D:=u.Rows.length) (by omega) h6 fun i _ => ⟨gl_len,fun r hr => ?_⟩⟩
     obtain ⟨k,_,rfl⟩:=List.mem_map.1 hr
     exact mkv_length _ _
   ·by_cases h0:u.Rows.length = 0
    ·have e0:((u.Rows.length:Int) == 0) = true:=beq_t (by omega)
     simp only [s3,bs,Bool.not_false,cnd_t,e0]
     exact ⟨_,_,rfl,rfl,hnil⟩
    ·have e0:((u.Rows.length:Int) == 0) = false:=beq_f (by omega)
     simp only [s3,i3,bs,Bool.not_false,cnd_t,cnd_f,e0]
     exact ⟨_,_,rfl,rfl,hnil⟩
  ·simp only [s2,i2,bs,Bool.not_false,cnd_t]
   exact ⟨_,_,rfl,rfl,hnil⟩
 ·simp only [s1,i1,bs,Bool.not_false,cnd_t]
  exact ⟨_,_,rfl,rfl,hnil⟩
theorem law_RestrictModule (x0:SPresentation) (x1:SModule) (x2:SMatrix) (v0:VPres x0) (v1:VMod x1) (v2:VMat x2)
  (h:SPres x0 → SMod x1 → S2 x2.Rows → ∃ g k,f_spec_RestrictModule x0 x1 x2 = some (g,k) ∧ f_impl_RestrictModule x0 x1 x2 = some (g,k) ∧ SMod g):f_laws_FnExactRestrictModule x0 x1 x2 = some true:=by
 unfold f_laws_FnExactRestrictModule
 rw [szPresentation v0 (by decide) (by decide),bs]
 rcases sz_case (c:=cPres x0) (b:=1048576) (by decide) (by decide) with e | ⟨e,a0,b0,w0⟩ <;> rw [e]
 ·rfl
 rw [cnd_f,szModule v1 a0 b0,bs]
 rcases sz_case (c:=cMod x1) a0 b0 with e | ⟨e,a1,b1,w1⟩ <;> rw [e]
 ·rfl
 rw [cnd_f,szMatrix v2 a1 b1,bs]
 rcases sz_case (c:=c2 x2.Rows) a1 b1 with e | ⟨e,a2,b2,w2⟩ <;> rw [e]
 ·rfl
 have s0:SPres x0:=SPres.of w0
 have s1:SMod x1:=SMod.of w1
 have s2:S2 x2.Rows:=w2
 obtain ⟨g,k,hs,hi,sg⟩:=h s0 s1 s2
 have t0:=totP_le s0
 have q1:=sm3_le (x:=x1.Actions)
 have w1':=w1
 simp only [cMod] at w1'
 have q2:=sm2_le (x:=x2.Rows)
 have qg:=sm3_le (x:=g.Actions)
 have sg':=sg
 simp only [SMod,S3] at sg'
 rw [cnd_f,toPresentation s0,bs,toModule s1,bs,toMatrix s2,bs]
 simp only [bs]
 rw [hs,bs,hi,bs]
 simp only
 rw [eqModule sg,bs]
 simp only [Bool.not_true,cnd_f,bne_self_eq_false]
 rw [eqPresentation s0,bs,Bool.not_true,cnd_f,eqModule s1,bs,Bool.not_true,cnd_f,eqMatrix s2,bs,Bool.not_true,cnd_f,markPresentation_eq s0 (by decide) (by decide),bs]
 simp only
 rw [markModule s1 (by omega) (by omega),bs]
 simp only
 rw [markMatrix s2 (by omega) (by omega),bs]
 simp only
 rw [decide_eq_false (by omega),cnd_f,bs,Bool.not_true,cnd_f]
 rw [markModule sg (by decide) (by decide),bs]
 simp only
 rw [heldModule sg (by decide) (by decide),bs,decide_eq_false (by omega),cnd_f,bne_self_eq_false,cnd_f,bs]
 simp only
 rw [eqModule sg,bs,Bool.not_true,cnd_f,bne_self_eq_false,cnd_f,bs,decide_eq_false (by omega),cnd_f,bne_self_eq_false,cnd_f]
theorem RestrictModule_plain (x0:SPresentation) (x1:SModule) (x2:SMatrix) (v0:VPres x0) (v1:VMod x1) (v2:VMat x2):f_laws_FnExactRestrictModule x0 x1 x2 = some true :=
 law_RestrictModule x0 x1 x2 v0 v1 v2 RestrictModule_agree
end Go.Pl
