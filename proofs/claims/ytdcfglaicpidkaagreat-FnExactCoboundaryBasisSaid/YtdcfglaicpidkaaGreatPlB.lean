/- The program and the reference return the same bases of coboundaries, for all arguments (FnExactCoboundaryBasis). This file is a part of the proof. -/
import Derived.Test.YtdcfglaicpidkaaGreatPlA
namespace Go.Pl
open Go Go.Ab Go.Wk Go.Pc
theorem lead_spec {v:List Int} {n:Nat} (hl:v.length = n) (hn:n ≤ 1000000):∃ k:Nat,k ≤ n ∧ f_spec_l02Lead v = some (k:Int) ∧ (∀ j,j < k → at0 v j = 0) ∧ (k < n → at0 v k ≠ 0):=by
 unfold f_spec_l02Lead
 rcases chk (body:=l1_spec_l02Lead v) n 0 (Nat.zero_le _) (fun i => at0 v i = 0) (fun i => (i:Int)) (fun i _ hi _ => by
   unfold l1_spec_l02Lead
   rw [hl,lt_t hi,cnd_t,ixO_at (by omega),bs]
   by_cases h:at0 v i = 0
   ·rw [bne_f h,cnd_f,rng_of (by omega) (by omega),bs,cs];exact .inl ⟨rfl,h⟩
   ·rw [bne_t h,cnd_t];exact .inr ⟨rfl,h⟩) (by
   unfold l1_spec_l02Lead
   rw [hl,lt_f,cnd_f]) with ⟨h1,h2⟩ | ⟨i,_,hi,h1,h2⟩
 ·rw [show ((0:Nat):Int) = 0 from rfl] at h1
  rw [h1,bs]
  exact ⟨n,Nat.le_refl _,by simp only [hl],fun j hj => h2 j (Nat.zero_le _) hj,fun h => by omega⟩
 ·rw [show ((0:Nat):Int) = 0 from rfl] at h1
  rw [h1,bs]
  obtain ⟨k,⟨hk1,hk2⟩,hmin⟩:=least (p:=fun k => k < n ∧ at0 v k ≠ 0) ⟨i,hi,h2⟩
  have hz:∀ j,j < k → at0 v j = 0:=fun j hj => Classical.byContradiction fun h => hmin j hj ⟨by omega,h⟩
  have hki:k = i:=by
   have hloop:∀ q,q ≤ k → loopO (l1_spec_l02Lead v) ((k - q:Nat):Int) = some (.inr (k:Int)):=by
    intro q
    induction q with
    | zero =>
     intro _
     rw [loopO_eq]
     have e:l1_spec_l02Lead v ((k - 0:Nat):Int) = some (.inr (.inr (k:Int))):=by
      unfold l1_spec_l02Lead
      rw [show k - 0 = k from rfl,hl,lt_t hk1,cnd_t,ixO_at (by omega),bs,bne_t hk2,cnd_t]
     rw [e]
    | succ q ih =>
     intro hq
     rw [loopO_eq]
     have e:l1_spec_l02Lead v ((k - (q + 1):Nat):Int) = some (.inl ((k - q:Nat):Int)):=by
      unfold l1_spec_l02Lead
      rw [hl,lt_t (by omega),cnd_t,ixO_at (by omega),bs,bne_f (hz _ (by omega)),cnd_f,rng_of (by omega) (by omega),bs,cs,show k - (q + 1) + 1 = k - q from by omega]
     rw [e];exact ih (by omega)
   have:=hloop k (Nat.le_refl _)
   rw [Nat.sub_self,show ((0:Nat):Int) = 0 from rfl,h1] at this
   have:=Sum.inr.inj (Option.some.inj this)
   omega
  exact ⟨i,by omega,rfl,by rw [← hki];exact hz,fun _ => h2⟩
theorem lead_is {v:List Int} {n k:Nat} (hl:v.length = n) (hn:n ≤ 1000000) (hk:k < n) (h0:∀ j,j < k → at0 v j = 0) (h1:at0 v k ≠ 0):f_spec_l02Lead v = some (k:Int):=by
 obtain ⟨q,q1,q2,q3,q4⟩:=lead_spec hl hn
 have:q = k:=by
  rcases Nat.lt_trichotomy q k with g | g | g
  ·exact absurd (h0 q g) (q4 (by omega))
  ·exact g
  ·exact absurd (q3 k g) h1
 rw [q2,this]
theorem inv_spec {p x:Int} (hp:Prime p) (h0:1 ≤ x) (h1:x ≤ p - 1):∃ r,f_spec_l01Inv x p = some r ∧ 0 ≤ r ∧ r ≤ p - 1 ∧ (x * r) % p = 1:=by
 have h7:=hp.pos
 have hx:∃ k:Nat,1 ≤ k ∧ (k:Int) < p ∧ (x * (k:Int)) % p = 1:=by
  obtain ⟨r,_,r1,r2,r3⟩:=inverse_impl hp h0 h1
  refine ⟨r.toNat,?_,by omega,by rw [Int.toNat_of_nonneg r1];exact r3⟩
  rcases Int.lt_or_eq_of_le r1 with g | g
  ·omega
  ·rw [← g] at r3;simp at r3
 obtain ⟨k,⟨k1,k2,k3⟩,hmin⟩:=least hx
 have body:∀ i:Nat,1 ≤ i → (i:Int) < p → l1_spec_l01Inv x p (i:Int) = cond ((x * (i:Int)) % p == 1) (some (.inr (.inr (i:Int)))) (some (.inl ((i + 1:Nat):Int))):=fun i hi hip => by
  have a3:=Int.mul_nonneg (show 0 ≤ x by omega) (show 0 ≤ (i:Int) by omega)
  have a4:=mulk_small hp (k:=(i:Int)) ⟨by omega,by omega⟩ (b:=x) ⟨by omega,h1⟩
  rw [Int.mul_comm] at a4
  unfold l1_spec_l01Inv
  rw [decide_eq_true hip,cnd_t,mod_spec hp (by omega) (by omega),bs,Int.emod_eq_of_lt (by omega) (by omega),rng_of (by omega) (by omega),bs]
  unfold remO
  rw [if_neg (by omega),bs,Int.tmod_eq_emod_of_nonneg a3]
  by_cases hh:(x * (i:Int)) % p = 1
  ·rw [beq_t hh,cnd_t,cnd_t]
  ·rw [beq_f hh,cnd_f,cnd_f,rng_of (by omega) (by omega),bs,cs]
 have hloop:∀ q,q + 1 ≤ k → loopO (l1_spec_l01Inv x p) ((k - q:Nat):Int) = some (.inr (k:Int)):=by
  intro q
  induction q with
  | zero =>
   intro _
   rw [loopO_eq,show k - 0 = k from rfl,body k k1 k2,beq_t k3,cnd_t]
  | succ q ih =>
   intro hq
   have hne:(x * ((k - (q + 1):Nat):Int)) % p ≠ 1:=fun h => hmin (k - (q + 1)) (by omega) ⟨by omega,by omega,h⟩
   rw [loopO_eq,body _ (by omega) (by omega),beq_f hne,cnd_f,show k - (q + 1) + 1 = k - q from by omega]
   exact ih (by omega)
 have:=hloop (k - 1) (by omega)
 rw [show k - (k - 1) = 1 from by omega,show ((1:Nat):Int) = 1 from rfl] at this
 refine ⟨(k:Int),?_,by omega,by omega,k3⟩
 unfold f_spec_l01Inv
 rw [this,bs]
section
variable {p:Int} (hp:Prime p) {n:Nat} (hn:n ≤ 100000)
 include hp hn
theorem addM_p {r s:List Int} (hr:Row p n r):addM p n r p s = r:=by
 have _:=hp
 have _:=hn
 conv => rhs;rw [mkv_eq hr.1]
 refine mkv_congr fun j hj => ?_
 have:=hr.2 j hj
 rw [Int.add_mul_emod_self_left];exact Int.emod_eq_of_lt this.1 (by omega)
def cl (p:Int) (n:Nat) (out:Mx) (pv:Nat → Nat) (v:List Int):Nat → List Int
 | 0 => v
 | i + 1 => addM p n (cl p n out pv v i) (p - at0 (cl p n out pv v i) (pv i)) (out.getD i [])
variable {out:Mx} {pv:Nat → Nat} (h:Red p n out pv) {v:List Int} (hv:Row p n v)
 include h hv
theorem cl_row:∀ i,Row p n (cl p n out pv v i):=by
 have _:=hn
 have _:=h
 intro i
 cases i with
 | zero => exact hv
 | succ i => exact addM_row hp
theorem cl_piv:∀ i,i ≤ out.length → ∀ k,k < i → at0 (cl p n out pv v i) (pv k) = 0:=by
 have _:=hn;have _:=hv
 have h7:=hp.pos
 intro i
 induction i with
 | zero => intro _ k hk;omega
 | succ i ih =>
  intro hi k hk
  have hlt:=h.lt k (by omega)
  rw [cl,addM,mkv_at hlt]
  rcases Nat.lt_or_ge k i with g | g
  ·have h1:=ih (by omega) k g
   have h2:=h.off k i (by omega) (by omega) (by omega)
   simp only [ent] at h2
   rw [h1,h2];simp
  ·have hki:k = i:=by omega
   subst hki
   have h2:=h.one k (by omega)
   simp only [ent] at h2
   rw [h2,Int.mul_one,show at0 (cl p n out pv v k) (pv k) + (p - at0 (cl p n out pv v k) (pv k)) = p from by omega,Int.emod_self]
theorem cl_comb:∀ i,i ≤ out.length → ∃ cf:Nat → Int,∀ j,j < n → at0 (cl p n out pv v i) j % p = (at0 v j + S out.length fun k => cf k * ent out k j) % p:=by
 have _:=hp;have _:=h;have _:=hv
 have _:=hn
 intro i
 induction i with
 | zero => intro _;exact ⟨fun _ => 0,fun j _ => by rw [S_congr (g:=fun _ => 0) (fun i _ => by simp),S_zero,Int.add_zero];rfl⟩
 | succ i ih =>
  intro hi
  obtain ⟨cf,hcf⟩:=ih (by omega)
  refine ⟨fun k => cf k + (if k = i then p - at0 (cl p n out pv v i) (pv i) else 0),fun j hj => ?_⟩
  have e1:(S out.length fun k => (cf k + (if k = i then p - at0 (cl p n out pv v i) (pv i) else 0)) * ent out k j) = (S out.length fun k => cf k * ent out k j) + (p - at0 (cl p n out pv v i) (pv i)) * ent out i j:=by
   rw [S_congr (g:=fun k => cf k * ent out k j + (if k = i then p - at0 (cl p n out pv v i) (pv i) else 0) * ent out k j) (fun k _ => by rw [Int.add_mul]),S_add,S_one (f:=fun k => (if k = i then p - at0 (cl p n out pv v i) (pv i) else 0) * ent out k j) (k:=i) (by omega) (fun k _ hk => by simp [hk])]
   simp
  rw [e1,cl,addM,mkv_at hj,Int.emod_emod,← Int.add_assoc,Int.add_emod,hcf j hj,← Int.add_emod]
theorem clear_spec (hm:out.length ≤ 100000):f_spec_l02Clear p out v = some (cl p n out pv v out.length):=by
 have h7:=hp.pos
 unfold f_spec_l02Clear
 rw [own_spec (by rw [hv.1];omega),bs]
 have:=loopO_seq (body:=l1_spec_l02Clear p out) (r:=cl p n out pv v out.length) (fun i => (cl p n out pv v i,(i:Int))) out.length (fun i hi => by
  have hr:=cl_row hp hn h hv i
  have ho:=h.row i hi
  have hlt:=h.lt i hi
  have hone:=h.one i hi
  have hlow:=h.low i hi
  simp only [ent] at hone hlow
  have he:=hr.2 (pv i) hlt
  unfold l1_spec_l02Clear
  simp only
  rw [lt_t hi,cnd_t,ixO_d [] hi,bs,lead_is ho.1 (by omega) hlt hlow (by rw [hone];decide),bs,hr.1,lt_t hlt,cnd_t,ixO_at (by rw [hr.1];exact hlt),bs]
  by_cases hz:at0 (cl p n out pv v i) (pv i) = 0
  ·rw [bne_f hz,cnd_f,rng_of (by omega) (by omega),bs,cs,cl,hz,Int.sub_zero,addM_p hp hn hr]
  ·rw [bne_t hz,cnd_t,bs,rng_of (by omega) (by omega),bs,bs,l02Add_spec hp hr ho ⟨by omega,by omega⟩ (by omega),bs,rng_of (by omega) (by omega),bs,cs]
   rfl) (by
  unfold l1_spec_l02Clear
  simp only
  rw [lt_f,cnd_f])
 rw [show ((0:Nat):Int) = 0 from rfl] at this
 simp only [cl] at this
 rw [this,bs]
end
end Go.Pl

namespace Go.Pl
open Go Go.Ab Go.Wk Go.Pc
section
variable {p:Int} (hp:Prime p) {n:Nat} {out:Mx} {pv:Nat → Nat} (h:Red p n out pv) {u:List Int} {k q:Nat} (hu:Row p n u) (hk:k < n) (u1:at0 u k = 1) (ul:∀ j,j < k → at0 u j = 0) (up:∀ i,i < out.length → at0 u (pv i) = 0) (hq:q ≤ out.length) (q1:∀ i,i < q → pv i < k) (q2:∀ i,q ≤ i → i < out.length → k < pv i)
def oth (p:Int) (n:Nat) (out:Mx) (u:List Int) (k i:Nat):List Int:=addM p n (out.getD i []) (p - at0 (out.getD i []) k) u
def newR (p:Int) (n:Nat) (out:Mx) (u:List Int) (k q i:Nat):List Int:=if i < q then oth p n out u k i else if i = q then u else oth p n out u k (i - 1)
def newP (pv:Nat → Nat) (k q i:Nat):Nat:=if i < q then pv i else if i = q then k else pv (i - 1)
 include hp h hu hk u1 ul up hq q1 q2
theorem oth_at {i j:Nat} (hj:j < n):at0 (oth p n out u k i) j = (at0 (out.getD i []) j - at0 (out.getD i []) k * at0 u j) % p:=by
 have _:=hp;have _:=h;have _:=hu;have _:=hk;have _:=u1;have _:=ul;have _:=up;have _:=hq;have _:=q1;have _:=q2
 rw [oth,addM,mkv_at hj,show at0 (out.getD i []) j + (p - at0 (out.getD i []) k) * at0 u j = at0 (out.getD i []) j - at0 (out.getD i []) k * at0 u j + p * at0 u j from by rw [Int.sub_mul];omega,Int.add_mul_emod_self_left]
theorem oth_same {i j:Nat} (hi:i < out.length) (hj:j < n) (hz:at0 (out.getD i []) k = 0 ∨ at0 u j = 0):at0 (oth p n out u k i) j = ent out i j:=by
 rw [oth_at hp h hu hk u1 ul up hq q1 q2 hj]
 have:=(h.row i hi).2 j hj
 have e:at0 (out.getD i []) k * at0 u j = 0:=by rcases hz with g | g <;> rw [g] <;> simp
 rw [e,Int.sub_zero];exact Int.emod_eq_of_lt this.1 (by omega)
theorem oth_k {i:Nat}:at0 (oth p n out u k i) k = 0:=by
 rw [oth_at hp h hu hk u1 ul up hq q1 q2 hk,u1,Int.mul_one,Int.sub_self];rfl
theorem oth_low {i j:Nat} (hi:i < out.length) (hj:j < pv i) (hne:pv i ≠ k):at0 (oth p n out u k i) j = 0:=by
 have hlt:=h.lt i hi
 rcases Nat.lt_or_ge (pv i) k with g | g
 ·rw [oth_same hp h hu hk u1 ul up hq q1 q2 hi (by omega) (.inr (ul j (by omega)))];exact h.low i hi j hj
 ·have:=h.low i hi k (by omega)
  rw [oth_same hp h hu hk u1 ul up hq q1 q2 hi (by omega) (.inl this)];exact h.low i hi j hj
theorem pv_ne {i:Nat} (hi:i < out.length):pv i ≠ k:=by
 have _:=h;have _:=q1;have _:=q2
 have _:=hp;have _:=hu;have _:=hk;have _:=ul;have _:=hq
 intro e
 have:=up i hi
 rw [e,u1] at this;cases this
theorem new_cases {i:Nat} (hi:i < out.length + 1):(i = q ∧ newR p n out u k q i = u ∧ newP pv k q i = k) ∨ ∃ a,a < out.length ∧ (i < q ∧ a = i ∨ q < i ∧ i = a + 1) ∧ newR p n out u k q i = oth p n out u k a ∧ newP pv k q i = pv a:=by
 have _:=hp;have _:=h;have _:=hu;have _:=hk;have _:=u1;have _:=ul;have _:=up;have _:=q1;have _:=q2
 unfold newR newP
 rcases Nat.lt_trichotomy i q with g | g | g
 ·exact .inr ⟨i,by omega,.inl ⟨g,rfl⟩,by rw [if_pos g],by rw [if_pos g]⟩
 ·exact .inl ⟨g,by rw [if_neg (by omega),if_pos g],by rw [if_neg (by omega),if_pos g]⟩
 ·exact .inr ⟨i - 1,by omega,.inr ⟨g,by omega⟩,by rw [if_neg (by omega),if_neg (by omega)],by rw [if_neg (by omega),if_neg (by omega)]⟩
theorem insert_red:Red p n (mkR (out.length + 1) (newR p n out u k q)) (newP pv k q):=by
 have nc:=fun i hi => new_cases hp h hu hk u1 ul up hq q1 q2 (i:=i) hi
 have pn:=fun i hi => pv_ne hp h hu hk u1 ul up hq q1 q2 (i:=i) hi
 refine ⟨fun i hi => ?_,fun i hi => ?_,fun i hi => ?_,fun i hi j hj => ?_,fun i j hi hj hne => ?_,fun i j hij hj => ?_⟩ <;> rw [mkR_len] at *
 ·rw [mkR_get hi]
  rcases nc i hi with ⟨_,e,_⟩ | ⟨a,_,_,e,_⟩ <;> rw [e]
  ·exact hu
  ·exact addM_row hp
 ·rcases nc i hi with ⟨_,_,e⟩ | ⟨a,ha,_,_,e⟩ <;> rw [e]
  ·exact hk
  ·exact h.lt a ha
 ·rw [mkR_ent hi]
  rcases nc i hi with ⟨_,e1,e2⟩ | ⟨a,ha,_,e1,e2⟩ <;> rw [e1,e2]
  ·exact u1
  ·rw [oth_same hp h hu hk u1 ul up hq q1 q2 ha (h.lt a ha) (.inr (up a ha))];exact h.one a ha
 ·rw [mkR_ent hi]
  rcases nc i hi with ⟨_,e1,e2⟩ | ⟨a,ha,_,e1,e2⟩ <;> rw [e2] at hj <;> rw [e1]
  ·exact ul j hj
  ·exact oth_low hp h hu hk u1 ul up hq q1 q2 ha hj (pn a ha)
 ·rw [mkR_ent hj]
  rcases nc i hi with ⟨g1,_,e2⟩ | ⟨a,ha,ga,_,e2⟩ <;> rw [e2] <;> rcases nc j hj with ⟨g3,e3,_⟩ | ⟨b,hb,gb,e3,_⟩ <;> rw [e3]
  ·omega
  ·exact oth_k hp h hu hk u1 ul up hq q1 q2
  ·exact up a ha
  ·rw [oth_same hp h hu hk u1 ul up hq q1 q2 hb (h.lt a ha) (.inr (up a ha))]
   exact h.off a b ha hb (by omega)
 ·rcases nc i (by omega) with ⟨g1,_,e2⟩ | ⟨a,ha,ga,_,e2⟩ <;> rw [e2] <;> rcases nc j hj with ⟨g3,_,e4⟩ | ⟨b,hb,gb,_,e4⟩ <;> rw [e4]
  ·omega
  ·exact q2 b (by omega) hb
  ·exact q1 a (by omega)
  ·exact h.mono a b (by omega) hb
theorem insert_sp:(∀ i,i < out.length + 1 → Sp p n (out ++ [u]) (newR p n out u k q i)) ∧ (∀ i,i < out.length → Sp p n (mkR (out.length + 1) (newR p n out u k q)) (out.getD i [])) ∧ Sp p n (mkR (out.length + 1) (newR p n out u k q)) u:=by
 have hul:Sp p n (out ++ [u]) u:=by
  have:=sp_row (p:=p) (n:=n) (R:=out ++ [u]) (i:=out.length) (by simp)
  simpa [List.getD_eq_getElem?_getD] using this
 have hol:∀ i,i < out.length → Sp p n (out ++ [u]) (out.getD i []):=fun i hi => by
  have:=sp_row (p:=p) (n:=n) (R:=out ++ [u]) (i:=i) (by simp;omega)
  simpa [List.getD_eq_getElem?_getD,List.getElem?_append_left hi] using this
 have hoth:∀ i,i < out.length → Sp p n (out ++ [u]) (oth p n out u k i):=fun i hi =>
  sp_add (k:=p - at0 (out.getD i []) k) (hol i hi) hul fun j hj => by rw [oth,addM,mkv_at hj,Int.emod_emod]
 have hsu:Sp p n (mkR (out.length + 1) (newR p n out u k q)) u:=by
  have:=sp_mkR_row (p:=p) (n:=n) (m:=out.length + 1) (F:=newR p n out u k q) (i:=q) (by omega)
  rw [show newR p n out u k q q = u from by unfold newR;rw [if_neg (by omega),if_pos rfl]] at this
  exact this
 refine ⟨fun i hi => ?_,fun i hi => ?_,hsu⟩
 ·rcases new_cases hp h hu hk u1 ul up hq q1 q2 hi with ⟨_,e,_⟩ | ⟨a,ha,_,e,_⟩ <;> rw [e]
  ·exact hul
  ·exact hoth a ha
 ·have hi2:∃ b,b < out.length + 1 ∧ newR p n out u k q b = oth p n out u k i:=by
   rcases Nat.lt_or_ge i q with g | g
   ·exact ⟨i,by omega,by unfold newR;rw [if_pos g]⟩
   ·exact ⟨i + 1,by omega,by unfold newR;rw [if_neg (by omega),if_neg (by omega)];rfl⟩
  obtain ⟨b,hb,e⟩:=hi2
  have h1:=sp_mkR_row (p:=p) (n:=n) (m:=out.length + 1) (F:=newR p n out u k q) hb
  rw [e] at h1
  refine sp_add (k:=at0 (out.getD i []) k) h1 hsu fun j hj => ?_
  rw [oth_at hp h hu hk u1 ul up hq q1 q2 hj,Int.add_emod,Int.emod_emod,← Int.add_emod,show at0 (out.getD i []) j - at0 (out.getD i []) k * at0 u j + at0 (out.getD i []) k * at0 u j = at0 (out.getD i []) j from by omega]
theorem insert_loop (hn:n ≤ 100000) (hm:out.length ≤ 100000) {x:Int} :
  ((loopO (l1_spec_l02Reduce p (out,x) (k:Int) u) ([],false,0)).bind fun r32 => cond (!r32.2) ((appO r32.1 [u]).bind fun v33 => some v33) (some r32.1)) = some (mkR (out.length + 1) (newR p n out u k q)):=by
 have _:=u1;have _:=ul;have _:=up
 have h7:=hp.pos
 have ho:∀ i,i < out.length → f_spec_l02Add p (out.getD i []) (p - at0 (out.getD i []) k) u = some (oth p n out u k i) ∧ ixO (out.getD i []) (k:Int) = some (at0 (out.getD i []) k) ∧ 0 ≤ at0 (out.getD i []) k ∧ at0 (out.getD i []) k ≤ p - 1 ∧ f_spec_l02Lead (out.getD i []) = some (pv i:Int):=fun i hi => by
  have hr:=h.row i hi
  have hk2:=hr.2 k hk
  have hone:=h.one i hi
  have hlow:=h.low i hi
  simp only [ent] at hone hlow
  exact ⟨by rw [l02Add_spec hp hr hu ⟨by omega,by omega⟩ (by omega)];rfl,ixO_at (by rw [hr.1];exact hk),hk2.1,hk2.2,lead_is hr.1 (by omega) (h.lt i hi) hlow (by rw [hone];decide)⟩
 have hsn:∀ {m:Nat} {F:Nat → List Int},mkR m F ++ [F m] = mkR (m + 1) F:=fun {m F} => by simp [mkR,List.range_succ]
 have:=loopO_seq (body:=l1_spec_l02Reduce p (out,x) (k:Int) u) (r:=(if out.length ≤ q then (mkR out.length (newR p n out u k q),false) else (mkR (out.length + 1) (newR p n out u k q),true)))
  (fun j => if j ≤ q then (mkR j (newR p n out u k q),false,(j:Int)) else (mkR (j + 1) (newR p n out u k q),true,(j:Int))) out.length (fun j hj => by
   obtain ⟨a1,a2,a3,a4,a5⟩:=ho j hj
   have hrg:rng (p - at0 (out.getD j []) k) = some (p - at0 (out.getD j []) k):=rng_of (by omega) (by omega)
   rcases Nat.lt_trichotomy j q with g | g | g
   ·have hpj:=q1 j g
    rw [if_pos (by omega),if_pos (by omega)]
    unfold l1_spec_l02Reduce
    simp only
    rw [lt_t hj,cnd_t,Bool.not_false,cnd_t,ixO_d [] hj]
    simp only [bs,a5]
    rw [decide_eq_false (by omega),cnd_f,a2]
    simp only [bs,hrg,a1]
    rw [appO_of (by rw [mkR_len];simp;omega),bs,rng_of (by omega) (by omega),bs,cs]
    have:newR p n out u k q j = oth p n out u k j:=by unfold newR;rw [if_pos g]
    rw [← this,hsn]
   ·subst g
    have hpj:=q2 j (Nat.le_refl _) hj
    rw [if_pos (by omega),if_neg (by omega)]
    unfold l1_spec_l02Reduce
    simp only
    rw [lt_t hj,cnd_t,Bool.not_false,cnd_t,ixO_d [] hj]
    simp only [bs,a5]
    rw [decide_eq_true (by omega),cnd_t,appO_of (by rw [mkR_len];simp;omega),a2]
    simp only [bs,hrg,a1]
    have e1:newR p n out u k j j = u:=by unfold newR;rw [if_neg (by omega),if_pos rfl]
    have e2:newR p n out u k j (j + 1) = oth p n out u k j:=by unfold newR;rw [if_neg (by omega),if_neg (by omega)];rfl
    have e3:mkR j (newR p n out u k j) ++ [u] = mkR (j + 1) (newR p n out u k j):=by rw [← hsn,e1]
    rw [e3,appO_of (by rw [mkR_len];simp;omega),bs,rng_of (by omega) (by omega),bs,cs,← e2,hsn]
   ·rw [if_neg (by omega),if_neg (by omega)]
    unfold l1_spec_l02Reduce
    simp only
    rw [lt_t hj,cnd_t,Bool.not_true,cnd_f,ixO_d [] hj]
    simp only [bs,a2,hrg,a1]
    have e2:newR p n out u k q (j + 1) = oth p n out u k j:=by unfold newR;rw [if_neg (by omega),if_neg (by omega)];rfl
    rw [appO_of (by rw [mkR_len];simp;omega),bs,rng_of (by omega) (by omega),bs,cs,← e2,hsn]) (by
   by_cases g:out.length ≤ q
   ·rw [if_pos g,if_pos g]
    unfold l1_spec_l02Reduce
    simp only
    rw [lt_f,cnd_f]
   ·rw [if_neg g,if_neg g]
    unfold l1_spec_l02Reduce
    simp only
    rw [lt_f,cnd_f])
 rw [if_pos (Nat.zero_le _),show ((0:Nat):Int) = 0 from rfl,show mkR 0 (newR p n out u k q) = [] from rfl] at this
 rw [this,bs]
 by_cases g:out.length ≤ q
 ·have e1:newR p n out u k q out.length = u:=by unfold newR;rw [if_neg (by omega),if_pos (by omega)]
  rw [if_pos g]
  simp only
  rw [Bool.not_false,cnd_t,appO_of (by rw [mkR_len];simp;omega),bs]
  congr 1
  rw [← hsn,e1]
 ·rw [if_neg g]
  simp only
  rw [Bool.not_true,cnd_f]
end
end Go.Pl

namespace Go.Pl
open Go Go.Ab Go.Wk Go.Pc
theorem sp_sum {p:Int} {n:Nat} {R out:Mx} {cf:Nat → Int} (ho:∀ i,i < out.length → Sp p n R (out.getD i [])) {u:List Int} (hu:∀ j,j < n → at0 u j % p = (S out.length fun k => cf k * ent out k j) % p):Sp p n R u :=
 sp_trans ho ⟨cf,fun j hj => (hu j hj).symm⟩
theorem Red.len_le {p:Int} {n:Nat} {R:Mx} {pv:Nat → Nat} (h:Red p n R pv):R.length ≤ n:=by
 have key:∀ i,i < R.length → i ≤ pv i:=by
  intro i
  induction i with
  | zero => intro _;omega
  | succ i ih =>
   intro hi
   have h1:=ih (by omega)
   have h2:=h.mono i (i + 1) (by omega) hi
   omega
 rcases Nat.eq_zero_or_pos R.length with g | g
 ·omega
 ·have h1:=key (R.length - 1) (by omega)
  have h2:=h.lt (R.length - 1) (by omega)
  omega
theorem getD_snoc {xs:Mx} {v:List Int} {i:Nat} (h:i < xs.length):(xs ++ [v]).getD i [] = xs.getD i []:=by
 simp only [List.getD_eq_getElem?_getD,List.getElem?_append_left h]
theorem getD_last {xs:Mx} {v:List Int}:(xs ++ [v]).getD xs.length [] = v:=by simp [List.getD_eq_getElem?_getD]
section
variable {p:Int} (hp:Prime p) {n:Nat} (hn:n ≤ 100000)
 include hp hn
theorem scale_spec {w:List Int} (hw:Row p n w) {r:Int} (h0:0 ≤ r) (h1:r ≤ p - 1):f_spec_l02Scale p r w = some (mkv n fun j => (at0 w j * r) % p):=by
 have h7:=hp.pos
 unfold f_spec_l02Scale
 rw [hw.1,lenOk_nat (by omega),bs,l02Add_spec hp (z0_row (by omega)) hw ⟨by omega,by omega⟩ (by omega),bs]
 congr 1
 refine mkv_congr fun j hj => ?_
 rw [show at0 (z0 n) j = 0 from by simp [z0,at0,List.getD_eq_getElem?_getD,hj],Int.zero_add,Int.mul_comm]
variable {rows:Mx} (hm:rows.length ≤ 600000) (hr:∀ i,i < rows.length → Row p n (rows.getD i []))
 include hm hr
theorem reduce_specL:∃ R pv,f_spec_l02Reduce p rows = some R ∧ (Red p n R pv ∧ R.length ≤ rows.length) ∧ SpEq p n R rows:=by
 have h7:=hp.pos
 unfold f_spec_l02Reduce
 have main:=loopO_tot (body:=l2_spec_l02Reduce p rows) (s:=([],0)) (Q:=fun R => ∃ pv,(Red p n R pv ∧ R.length ≤ rows.length) ∧ SpEq p n R rows)
  (fun i s => ∃ (out:Mx) (pv:Nat → Nat),s = (out,(i:Int)) ∧ Red p n out pv ∧ SpEq p n out (rows.take i) ∧ out.length ≤ i ∧ i ≤ rows.length) rows.length (fun i s hi hI => ?_) (fun s hI => ?_) ⟨[],fun _ => 0,rfl,Red.empty,by rw [List.take_zero];exact SpEq.refl,Nat.zero_le _,Nat.zero_le _⟩
 ·obtain ⟨R,h1,pv,h2,h3⟩:=main
  rw [h1,bs]
  exact ⟨R,pv,rfl,h2,h3⟩
 ·obtain ⟨out,pv,rfl,h,hs,hl,_⟩:=hI
  have hon:out.length ≤ n:=h.len_le
  left
  have hv:=hr i hi
  have hw:=cl_row hp hn h hv out.length
  have hcl:=clear_spec hp hn h hv (by omega)
  have hpz:=cl_piv hp hn h hv out.length (Nat.le_refl _)
  obtain ⟨cf,hcf⟩:=cl_comb hp hn h hv out.length (Nat.le_refl _)
  obtain ⟨k,k1,k2,k3,k4⟩:=lead_spec hw.1 (by omega)
  have htk:rows.take (i + 1) = rows.take i ++ [rows.getD i []]:=by
   rw [List.take_succ_eq_append_getElem hi,List.getD_eq_getElem?_getD,List.getElem?_eq_getElem hi];rfl
  have hti:(rows.take i).length = i:=by rw [List.length_take];omega
  have hup:∀ u,Sp p n (rows.take i) u → Sp p n (rows.take (i + 1)) u:=fun u hu => sp_trans (fun a ha => by
   have:=sp_row (p:=p) (n:=n) (R:=rows.take (i + 1)) (i:=a) (by rw [htk,List.length_append];omega)
   rw [htk,getD_snoc ha,← htk] at this;exact this) hu
  have hvs:Sp p n (rows.take (i + 1)) (rows.getD i []):=by
   have:=sp_row (p:=p) (n:=n) (R:=rows.take (i + 1)) (i:=i) (by rw [htk,List.length_append,hti];simp)
   rw [htk] at this
   have e:(rows.take i ++ [rows.getD i []]).getD i [] = rows.getD i []:=by
    have:=getD_last (xs:=rows.take i) (v:=rows.getD i [])
    rw [hti] at this;exact this
   rw [e,← htk] at this;exact this
  by_cases hkn:k = n
  ·
   refine ⟨(out,((i + 1:Nat):Int)),?_,out,pv,rfl,h,⟨fun a ha => hup _ (hs.1 a ha),fun a ha => ?_⟩,by omega,by omega⟩
   ·unfold l2_spec_l02Reduce
    simp only
    rw [lt_t hi,cnd_t,ixO_d [] hi]
    simp only [bs,hcl,k2]
    rw [hw.1,beq_t (by omega),cnd_t,rng_of (by omega) (by omega),bs,cs]
   ·rw [htk,List.length_append,hti,List.length_singleton] at ha
    rw [htk]
    rcases Nat.lt_or_ge a i with g | g
    ·rw [getD_snoc (by omega)];exact hs.2 a (by omega)
    ·have:a = i:=by omega
     subst this
     have e:(rows.take a ++ [rows.getD a []]).getD a [] = rows.getD a []:=by
      have:=getD_last (xs:=rows.take a) (v:=rows.getD a [])
      rw [hti] at this;exact this
     rw [e]
     refine sp_sum (out:=out) (cf:=fun q => -1 * cf q) (fun a ha => sp_row ha) fun j hj => ?_
     have h1:=hcf j hj
     rw [k3 j (by omega)] at h1
     rw [S_congr (g:=fun q => -1 * (cf q * ent out q j)) (fun q _ => by rw [Int.mul_assoc]),S_mul']
     have h2:(at0 (rows.getD a []) j + S out.length fun q => cf q * ent out q j) % p = 0:=by rw [← h1];rfl
     rw [show at0 (rows.getD a []) j = (at0 (rows.getD a []) j + S out.length fun q => cf q * ent out q j) + -1 * (S out.length fun q => cf q * ent out q j) from by omega,Int.add_emod,h2,Int.zero_add,Int.emod_emod]
  ·have hk:k < n:=by omega
   have hwk:=hw.2 k hk
   have hne:=k4 hk
   obtain ⟨r,r1,r2,r3,r4⟩:=inv_spec hp (x:=at0 (cl p n out pv (rows.getD i []) out.length) k) (by omega) (by omega)
   have hsc:=scale_spec hp hn hw r2 r3
   have hu:Row p n (mkv n fun j => (at0 (cl p n out pv (rows.getD i []) out.length) j * r) % p):=⟨mkv_length _ _,fun j hj => by
    have e1:=Int.emod_nonneg (at0 (cl p n out pv (rows.getD i []) out.length) j * r) (show p ≠ 0 by omega)
    have e2:=Int.emod_lt_of_pos (at0 (cl p n out pv (rows.getD i []) out.length) j * r) (show 0 < p by omega)
    rw [mkv_at hj];omega⟩
   have ua:∀ j,j < n → at0 (mkv n fun j => (at0 (cl p n out pv (rows.getD i []) out.length) j * r) % p) j = (at0 (cl p n out pv (rows.getD i []) out.length) j * r) % p:=fun j hj => mkv_at hj
   generalize mkv n (fun j => (at0 (cl p n out pv (rows.getD i []) out.length) j * r) % p) = u at hsc hu ua
   have u1:at0 u k = 1:=by rw [ua k hk];exact r4
   have ul:∀ j,j < k → at0 u j = 0:=fun j hj => by rw [ua j (by omega),k3 j hj];simp
   have up:∀ a,a < out.length → at0 u (pv a) = 0:=fun a ha => by rw [ua _ (h.lt a ha),hpz a ha];simp
   obtain ⟨q,⟨hq,hq2⟩,hmin⟩:=least (p:=fun q => q ≤ out.length ∧ (q < out.length → k < pv q)) ⟨out.length,Nat.le_refl _,fun g => by omega⟩
   have q1:∀ a,a < q → pv a < k:=fun a ha => by
    have h1:¬ (k < pv a):=fun g => hmin a ha ⟨by omega,fun _ => g⟩
    have h2:pv a ≠ k:=fun e => by
     have:=up a (by omega)
     rw [e,u1] at this;cases this
    omega
   have q2:∀ a,q ≤ a → a < out.length → k < pv a:=fun a ha ha2 => by
    have h1:=hq2 (by omega)
    rcases Nat.lt_or_ge q a with g | g
    ·have:=h.mono q a g ha2;omega
    ·rw [show a = q from by omega];exact h1
   have hins:=insert_loop hp h hu hk u1 ul up hq q1 q2 hn (by omega) (x:=(i:Int))
   have hred:=insert_red hp h hu hk u1 ul up hq q1 q2
   obtain ⟨s1,s2,s3⟩:=insert_sp hp h hu hk u1 ul up hq q1 q2
   refine ⟨(mkR (out.length + 1) (newR p n out u k q),((i + 1:Nat):Int)),?_,_,_,rfl,hred,⟨fun a ha => ?_,fun a ha => ?_⟩,by rw [mkR_len];omega,by omega⟩
   ·unfold l2_spec_l02Reduce
    simp only
    rw [lt_t hi,cnd_t,ixO_d [] hi]
    simp only [bs,hcl,k2]
    rw [hw.1,beq_f (by omega),cnd_f,ixO_at (by rw [hw.1];exact hk)]
    simp only [bs,r1,hsc]
    cases hlo:loopO (l1_spec_l02Reduce p (out,(i:Int)) (k:Int) u) ([],false,0) with
    | none => rw [hlo] at hins;cases hins
    | some r32 =>
     rw [hlo,bs] at hins
     simp only [bs]
     obtain ⟨a1,a2⟩:=r32
     cases a2 with
     | true =>
      simp only [Bool.not_true,cnd_f] at hins ⊢
      rw [rng_of (by omega) (by omega),bs,cs,Option.some.inj hins]
     | false =>
      simp only [Bool.not_false,cnd_t] at hins ⊢
      cases hap:appO a1 [u] with
      | none => rw [hap] at hins;cases hins
      | some v33 =>
       rw [hap,bs] at hins
       simp only [bs]
       rw [rng_of (by omega) (by omega),bs,cs,Option.some.inj hins]
   ·rw [mkR_len] at ha
    rw [mkR_get ha]
    refine sp_trans (fun b hb => ?_) (s1 a ha)
    rw [List.length_append,List.length_singleton] at hb
    rcases Nat.lt_or_ge b out.length with g | g
    ·rw [getD_snoc g];exact hup _ (hs.1 b g)
    ·rw [show b = out.length from by omega,getD_last]
     have hwS:Sp p n (rows.take (i + 1)) (cl p n out pv (rows.getD i []) out.length):=by
      have hcS:Sp p n (rows.take (i + 1)) (mkv n fun j => S out.length fun k => cf k * ent out k j):=sp_sum (out:=out) (cf:=cf) (fun b hb => hup _ (hs.1 b hb)) fun j hj => by rw [mkv_at hj]
      refine sp_add (k:=1) hvs hcS fun j hj => ?_
      rw [hcf j hj,mkv_at hj,Int.one_mul]
     refine sp_add (k:=r) (sp_zero (u:=[]) fun j _ => by simp [at0]) hwS fun j hj => ?_
     rw [ua j hj,Int.emod_emod,show at0 ([]:List Int) j = 0 from by simp [at0],Int.zero_add,Int.mul_comm]
   ·rw [htk,List.length_append,hti,List.length_singleton] at ha
    rw [htk]
    rcases Nat.lt_or_ge a i with g | g
    ·rw [getD_snoc (by omega)]
     exact sp_trans s2 (hs.2 a (by omega))
    ·have hai:a = i:=by omega
     subst hai
     have e:(rows.take a ++ [rows.getD a []]).getD a [] = rows.getD a []:=by
      have:=getD_last (xs:=rows.take a) (v:=rows.getD a [])
      rw [hti] at this;exact this
     rw [e]
     have hwS:Sp p n (mkR (out.length + 1) (newR p n out u k q)) (cl p n out pv (rows.getD a []) out.length):=by
      refine sp_add (k:=at0 (cl p n out pv (rows.getD a []) out.length) k) (sp_zero (u:=[]) fun j _ => by simp [at0]) s3 fun j hj => ?_
      rw [ua j hj,show at0 ([]:List Int) j = 0 from by simp [at0],Int.zero_add]
      rw [Int.mul_emod,Int.emod_emod,← Int.mul_emod,← Int.mul_assoc,Int.mul_comm (at0 (cl p n out pv (rows.getD a []) out.length) k),Int.mul_assoc,Int.mul_emod,r4,Int.mul_one,Int.emod_emod]
     have hcS:Sp p n (mkR (out.length + 1) (newR p n out u k q)) (mkv n fun j => S out.length fun k => cf k * ent out k j):=sp_sum (out:=out) (cf:=cf) s2 fun j hj => by rw [mkv_at hj]
     refine sp_add (k:=-1) hwS hcS fun j hj => ?_
     rw [mkv_at hj,Int.add_emod,hcf j hj,← Int.add_emod]
     congr 1;omega
 ·obtain ⟨out,pv,rfl,h,hs,hl,_⟩:=hI
  refine ⟨out,?_,pv,⟨h,hl⟩,by rw [List.take_length] at hs;exact hs⟩
  unfold l2_spec_l02Reduce
  simp only
  rw [lt_f,cnd_f]
theorem reduce_spec:∃ R pv,f_spec_l02Reduce p rows = some R ∧ Red p n R pv ∧ SpEq p n R rows:=by
 obtain ⟨R,pv,h1,h2,h3⟩:=reduce_specL hp hn hm hr
 exact ⟨R,pv,h1,h2.1,h3⟩
theorem reduce_both:∃ R pv,f_spec_l02Reduce p rows = some R ∧ f_impl_reduceRows p rows = some R ∧ Red p n R pv ∧ SpEq p n R rows:=by
 have h7:=hp.pos
 obtain ⟨R,pv,h1,h2,h3⟩:=reduce_spec hp hn hm hr
 obtain ⟨R',pv',g1,g2,g3⟩:=reduce_impl hp hn hm hr
 have e:=h2.unique (by omega) g2 (h3.trans g3.symm)
 exact ⟨R,pv,h1,by rw [e];exact g1,h2,h3⟩
end
end Go.Pl

namespace Go.Pl
open Go Go.Ab Go.Wk Go.Pc
theorem map_loop {β:Type} {body:List β × Int → Option ((List β × Int) ⊕ List β)} (n:Nat) (F:Nat → β) (h:∀ i acc,i < n → acc.length = i → body (acc,(i:Int)) = some (.inl (acc ++ [F i],((i + 1:Nat):Int)))) (he:∀ acc,body (acc,(n:Int)) = some (.inr acc)) :
  loopO body ([],0) = some ((List.range n).map F):=by
 have:=loopO_seq (body:=body) (r:=(List.range n).map F) (fun i => ((List.range i).map F,(i:Int))) n (fun i hi => by
  rw [h i _ hi (by simp),List.range_succ,List.map_append];rfl) (he _)
 exact this
theorem flat_spec {xs:Mx} (hx:xs.length ≤ 100000) (hf:xs.flatten.length ≤ 1000000):f_spec_l22Flat xs = some xs.flatten:=by
 unfold f_spec_l22Flat
 have:=loopO_seq (body:=l1_spec_l22Flat xs) (r:=xs.flatten) (fun i => ((xs.take i).flatten,(i:Int))) xs.length (fun i hi => by
  have h1:=flat_take hi
  have h2:=flat_le (xs:=xs) (i + 1)
  have h3:=congrArg List.length h1
  rw [List.length_append] at h3
  unfold l1_spec_l22Flat
  simp only
  rw [lt_t hi,cnd_t,ixO_d [] hi,bs,appO_of (by omega),bs,rng_of (by omega) (by omega),bs,cs,h1]) (by
  unfold l1_spec_l22Flat
  simp only
  rw [lt_f,cnd_f,List.take_length])
 rw [show ((0:Nat):Int) = 0 from rfl,List.take_zero] at this
 simp only [List.flatten_nil] at this
 rw [this,bs]
theorem row_iff {p:Int} {L:Nat} {v:List Int}:Row p L v ↔ v.length = L ∧ ∀ a ∈ v,0 ≤ a ∧ a ≤ p - 1:=by
 constructor
 ·rintro ⟨h1,h2⟩
  refine ⟨h1,fun a ha => ?_⟩
  obtain ⟨i,hi,rfl⟩:=List.mem_iff_getElem.1 ha
  have:=h2 i (by omega)
  simpa [at0,List.getD_eq_getElem?_getD,List.getElem?_eq_getElem hi] using this
 ·rintro ⟨h1,h2⟩
  refine ⟨h1,fun i hi => ?_⟩
  have:=h2 v[i] (List.getElem_mem (by omega))
  simpa [at0,List.getD_eq_getElem?_getD,List.getElem?_eq_getElem (show i < v.length by omega)] using this
theorem Red.small {p:Int} {n:Nat} {R:Mx} {pv:Nat → Nat} (h:Red p n R pv) (hn:n ≤ 900):S2 R:=by
 have hl:=h.len_le
 have key:∀ xs:Mx,(∀ r ∈ xs,r.length = n) → sm c1 xs = xs.length * n:=fun xs => by
  induction xs with
  | nil => intro _;simp [sm]
  | cons x xs ih =>
   intro hx
   have:=ih fun r hr => hx r (by simp [hr])
   have:=hx x (by simp)
   simp only [sm,c1,List.length_cons,Nat.add_mul];omega
 have:=key R fun r hr => by
  obtain ⟨i,hi,rfl⟩:=List.mem_iff_getElem.1 hr
  have:=(h.row i hi).1
  simpa [List.getD_eq_getElem?_getD,List.getElem?_eq_getElem hi] using this
 have h2:R.length * n ≤ 900 * 900:=Nat.mul_le_mul (by omega) hn
 simp only [S2,c2];omega
def unitv (D k:Nat):List Int:=mkv D fun j => if j = k then 1 else 0
theorem unitv_row {p:Int} {D k:Nat} (hp:2 ≤ p):Row p D (unitv D k):=⟨mkv_length _ _,fun i hi => by
 rw [unitv,mkv_at hi];split <;> omega⟩
theorem unitVector_impl {D k:Nat} (hk:k < D) (hD:D ≤ 1000000):f_impl_unitVector (D:Int) (k:Int) = some (unitv D k):=by
 unfold f_impl_unitVector
 rw [lenOk_nat (by omega),bs,ixO_at (by simp;exact hk),bs,Int.toNat_natCast]
 congr 1
 rw [mkv_zero,mkv_set,unitv]
end Go.Pl

namespace Go.Pl
open Go Go.Ab Go.Wk Go.Pc
abbrev gl {β:Type} (m:Nat) (F:Nat → β):List β:=(List.range m).map F
theorem gl_len {β:Type} {m:Nat} {F:Nat → β}:(gl m F).length = m:=by simp [gl]
theorem gl_snoc {β:Type} {m:Nat} {F:Nat → β}:gl m F ++ [F m] = gl (m + 1) F:=by simp [gl,List.range_succ]
end Go.Pl

namespace Go.Pl
open Go Go.Ab Go.Wk Go.Pc
end Go.Pl

namespace Go.Pl
open Go Go.Ab Go.Wk Go.Pc
end Go.Pl

namespace Go.Pl
open Go Go.Ab Go.Wk Go.Pc
def totP (x:SPresentation):Nat:=c1 x.Orders + sm c1 x.Powers + sm (sm c1) x.Conjugates
def markP (x:SPresentation) (k:Int):SPresentation:=⟨m1 k x.Orders,m2 (k + c1 x.Orders) x.Powers,m3 (k + c1 x.Orders + sm c1 x.Powers) x.Conjugates⟩
theorem totP_le {x:SPresentation} (h:SPres x):totP x ≤ 3145728:=by
 obtain ⟨h1,h2,h3⟩:=h
 have g2:=sm2_le (x:=x.Powers)
 have g3:=sm3_le (x:=x.Conjugates)
 simp only [S1] at h1
 simp only [S2] at h2
 simp only [S3] at h3
 simp only [totP];omega
theorem markPresentation_eq {x:SPresentation} {k:Int} (h:SPres x) (k0:0 ≤ k) (k1:k ≤ 1000000000):f_laws_markPresentation x k = some (k + totP x,markP x k):=by
 have ht:=totP_le h
 simp only [totP] at ht
 unfold f_laws_markPresentation
 rw [markInt64S h.1 k0 (by omega),bs,markInt64SS h.2.1 (by simp only;omega) (by simp only;omega),bs,markInt64SSS h.2.2 (by simp only;omega) (by simp only;omega),bs]
 simp only [totP,markP,Int.natCast_add,Int.add_assoc]
end Go.Pl

namespace Go.Pl
open Go Go.Ab Go.Wk Go.Pc
end Go.Pl

namespace Go.Pl
open Go Go.Ab Go.Wk Go.Pc
end Go.Pl

namespace Go.Pl
open Go Go.Ab Go.Wk Go.Pc
end Go.Pl

namespace Go.Pl
open Go Go.Ab Go.Wk Go.Pc
end Go.Pl

namespace Go.Pl
open Go Go.Ab Go.Wk Go.Pc
end Go.Pl

namespace Go.Pl
open Go Go.Ab Go.Wk Go.Pc
theorem at0_drop {v:List Int} {c j:Nat}:at0 (v.drop c) j = at0 v (c + j):=by
 simp only [at0,List.getD_eq_getElem?_getD,List.getElem?_drop]
theorem at0_take {v:List Int} {c j:Nat} (h:j < c):at0 (v.take c) j = at0 v j:=by
 simp only [at0,List.getD_eq_getElem?_getD,List.getElem?_take,if_pos h]
theorem gl_getD {F:Nat → List Int} {m i:Nat} (h:i < m):(gl m F).getD i [] = F i:=by simp [gl,List.getD_eq_getElem?_getD,h]
end Go.Pl

namespace Go.Pl
open Go Go.Ab Go.Wk Go.Pc
end Go.Pl

namespace Go.Pl
open Go Go.Ab Go.Wk Go.Pc
end Go.Pl

namespace Go.Pl
open Go Go.Ab Go.Wk Go.Pc
end Go.Pl

namespace Go.Pl
open Go Go.Ab Go.Wk Go.Pc
end Go.Pl

namespace Go.Pl
open Go Go.Ab Go.Wk Go.Pc
end Go.Pl

namespace Go.Pl
open Go Go.Ab Go.Wk Go.Pc
end Go.Pl

namespace Go.Pl
open Go Go.Ab Go.Wk Go.Pc
end Go.Pl

namespace Go.Pl
open Go Go.Ab Go.Wk Go.Pc
end Go.Pl

namespace Go.Pl
open Go Go.Ab Go.Wk Go.Pc
end Go.Pl

namespace Go.Pl
open Go Go.Ab Go.Wk Go.Pc
theorem parts_len {α:Type} {F:α → List Int} {D:Nat}:∀ (L:List α),(∀ q ∈ L,(F q).length = D) → ((L.map F).flatten).length = L.length * D
 | [],_ => by simp
 | y :: L,h => by
  have:=parts_len L fun q hq => h q (by simp [hq])
  have:=h y (by simp)
  simp only [List.map_cons,List.flatten_cons,List.length_append,List.length_cons,Nat.succ_mul];omega
def prows {α:Type} (N:Nat) (F:Nat → α → List Int) (L:List α):Mx:=gl N fun k => (L.map (F k)).flatten
section
variable {α:Type} {p:Int} {N D:Nat} {F:Nat → α → List Int} (hF:∀ k,k < N → ∀ q,Row p D (F k q))
 include hF
theorem prows_row (L:List α):∀ k,k < N → Row p (L.length * D) ((prows N F L).getD k []):=by
 intro k hk
 rw [prows,gl_getD hk]
 refine row_iff.2 ⟨parts_len L fun q _ => (hF k hk q).1,fun v hv => ?_⟩
 obtain ⟨r,h1,h2⟩:=List.mem_flatten.1 hv
 obtain ⟨q,_,rfl⟩:=List.mem_map.1 h1
 exact (row_iff.1 (hF k hk q)).2 v h2
end
def cutM (n D:Nat) (v:List Int):Mx:=gl n fun i => mkv D fun j => at0 v (i * D + j)
theorem cut_part {v:List Int} {D a:Nat} (h:a + D ≤ v.length):(v.drop a).take D = mkv D fun j => at0 v (a + j):=by
 have hl:((v.drop a).take D).length = D:=by rw [List.length_take,List.length_drop];omega
 rw [mkv_eq hl]
 exact mkv_congr fun j hj => by rw [at0_take hj,at0_drop]
theorem cut_slice {v:List Int} {D a:Nat} (h:a + D ≤ v.length):sliceO v (a:Int) ((a + D:Nat):Int) = some (mkv D fun j => at0 v (a + j)):=by
 unfold sliceO
 rw [if_pos ⟨by omega,by omega,by omega⟩,Int.toNat_natCast,Int.toNat_natCast,Nat.add_sub_cancel_left,cut_part h]
theorem cut_ok {p:Int} {n D:Nat} {v:List Int} (hv:Row p (n * D) v):VOk n p D (cutM n D v):=by
 refine ⟨gl_len,fun i hi => ?_⟩
 rw [cutM,gl_getD hi]
 refine ⟨mkv_length _ _,fun j hj => ?_⟩
 rw [mkv_at hj]
 have:i * D + D ≤ n * D:=by
  have:=Nat.mul_le_mul_right D (show i + 1 ≤ n by omega)
  rw [Nat.succ_mul] at this;exact this
 exact hv.2 _ (by omega)
end Go.Pl

namespace Go.Pl
open Go Go.Ab Go.Wk Go.Pc
end Go.Pl

namespace Go.Pl
open Go Go.Ab Go.Wk Go.Pc
theorem part_le {n D i:Nat} (hi:i < n):i * D + D ≤ n * D:=by
 have:=Nat.mul_le_mul_right D (show i + 1 ≤ n by omega)
 rw [Nat.succ_mul] at this;exact this
theorem split_impl {n D:Nat} (hD:1 ≤ D) {v:List Int} (hl:v.length = n * D) (hs:n * D ≤ 100000):f_impl_split v (D:Int) = some (cutM n D v):=by
 have hn:n ≤ n * D:=Nat.le_mul_of_pos_right n hD
 have:=loopO_seq (body:=l1_impl_split v (D:Int)) (r:=cutM n D v) (fun i => (gl i fun i => mkv D fun j => at0 v (i * D + j),((i * D:Nat):Int))) n (fun i hi => by
  have h1:=part_le (D:=D) hi
  unfold l1_impl_split
  simp only
  rw [decide_eq_true (by omega),cnd_t,← Int.natCast_add,rng_of (by omega) (by omega),bs,cut_slice (by omega),bs,clone_impl (by rw [mkv_length];omega),bs,appO_of (by rw [gl_len];simp;omega),bs,bs,gl_snoc,← Nat.succ_mul]) (by
  unfold l1_impl_split
  simp only
  rw [decide_eq_false (by omega),cnd_f];rfl)
 unfold f_impl_split
 rw [show ((0 * D:Nat):Int) = 0 from by simp] at this
 have e:loopO (l1_impl_split v (D:Int)) ([],0) = some (cutM n D v):=this
 rw [e,bs]
theorem cut_spec {n D:Nat} (hD:1 ≤ D) (hD3:D ≤ 1000) {v:List Int} (hl:v.length = n * D) (hs:n * D ≤ 100000):f_spec_l22Cut v (D:Int) = some (cutM n D v):=by
 have hn:n ≤ n * D:=Nat.le_mul_of_pos_right n hD
 have:=loopO_seq (body:=l1_spec_l22Cut v (D:Int)) (r:=cutM n D v) (fun i => (gl i fun i => mkv D fun j => at0 v (i * D + j),((i * D:Nat):Int))) n (fun i hi => by
  have h1:=part_le (D:=D) hi
  unfold l1_spec_l22Cut
  simp only
  rw [← Int.natCast_add,rng_of (by omega) (by omega),bs,decide_eq_true (by omega),cnd_t,bs,cut_slice (by omega),bs,own_spec (by rw [mkv_length];omega),bs,appO_of (by rw [gl_len];simp;omega),bs,bs,gl_snoc,← Nat.succ_mul]) (by
  unfold l1_spec_l22Cut
  simp only
  rw [← Int.natCast_add,rng_of (by omega) (by omega),bs,decide_eq_false (by omega),cnd_f];rfl)
 unfold f_spec_l22Cut
 rw [show ((0 * D:Nat):Int) = 0 from by simp] at this
 have e:loopO (l1_spec_l22Cut v (D:Int)) ([],0) = some (cutM n D v):=this
 rw [e,bs]
section
variable {x:SPresentation} (h:Pres x) {m:SModule} {D:Nat} (hm:MOk x.Orders.length m D)
 include h hm
section
variable {vals:Mx} (hv:VOk x.Orders.length m.Prime D vals)
 include hv
theorem delta_spec:f_spec_l23Delta x m vals = some ((relsN x).map (dfc m D vals)):=by
 have h6:=h.os.1
 have h7:=hm.p.pos
 have h3:=hm.d3
 have hpl:=h.pl
 have hcl:=h.cl
 have hz:=z0_row (p:=m.Prime) (D:=D) (by omega)
 unfold f_spec_l23Delta
 rw [hm.d,lenOk_nat (by omega),bs]
 have e1:=map_loop (body:=l2_spec_l23Delta x m vals D) x.Orders.length (fun i => dfc m D vals (r1 x i)) (fun i acc hi ha => by
  obtain ⟨p1,p2⟩:=exp_small h.os (h.tl i hi).1
  have ho:=(h.os.2 i hi).pos
  unfold l2_spec_l23Delta
  simp only
  rw [lt_t hi,cnd_t]
  rw [iter_loop' (S:=Row m.Prime D) (body:=l1_spec_l23Delta x m vals (acc,(i:Int))) (fun v => v) (fun v => stp m D vals v i) (at0 x.Orders i) (by omega) (fun v _ => stp_row hm h6 hv) (fun u q hu hq => by
   unfold l1_spec_l23Delta
   simp only
   rw [ixO_at hi,bs,decide_eq_true hq,cnd_t,step_spec hm h6 hv hu hi,bs,rng_of (by omega) (by omega),bs,cs]) (fun u hu => by
   unfold l1_spec_l23Delta
   simp only
   rw [ixO_at hi,bs,decide_eq_false (by omega),cnd_f]) hz,bs,rng_of (by omega) (by omega),bs,ixO_d [] (by omega),bs,behind_spec hm h6 hv hz p1 p2,bs,← ev_rep]
  have e1:f_spec_l02Add m.Prime (ev m D vals (z0 D) (List.replicate (at0 x.Orders i).toNat i)) (m.Prime - 1) (ev m D vals (z0 D) (nw 0 (x.Powers.getD i []))) = some (dfc m D vals (r1 x i)):=by
   rw [l02Add_spec hm.p (ev_row hm h6 hv hz _) (ev_row hm h6 hv hz _) (by omega) (by omega),addM_minus];rfl
  rw [e1,bs,appO_of (by simp;omega),bs,rng_of (by omega) (by omega),bs,cs]) (fun acc => by
  unfold l2_spec_l23Delta
  simp only
  rw [lt_f,cnd_f])
 rw [e1,bs]
 have hfm:=fm_len h
 have e2:=loopO_seq (body:=l4_spec_l23Delta x m vals D) (r:=(relsN x).map (dfc m D vals)) (fun i => (((List.range x.Orders.length).map (fun i => dfc m D vals (r1 x i))) ++ ((List.range i).flatMap (R2 x)).map (dfc m D vals),(i:Int))) x.Orders.length (fun i hi => by
  have t2:=(h.tl i hi).2.1
  have hfi:=hfm i (by omega)
  unfold l4_spec_l23Delta
  simp only
  rw [lt_t hi,cnd_t,rng_of (by omega) (by omega),bs,cs]
  have hin:=loopO_seq (body:=l3_spec_l23Delta x m vals D (((List.range x.Orders.length).map (fun i => dfc m D vals (r1 x i))) ++ ((List.range i).flatMap (R2 x)).map (dfc m D vals),(i:Int)))
   (r:=((List.range x.Orders.length).map (fun i => dfc m D vals (r1 x i))) ++ ((List.range (i + 1)).flatMap (R2 x)).map (dfc m D vals))
   (fun j => (((List.range x.Orders.length).map (fun i => dfc m D vals (r1 x i))) ++ ((List.range i).flatMap (R2 x)).map (dfc m D vals) ++ (List.range j).map (fun j => dfc m D vals (r2 x i j)),((i + 1 + j:Nat):Int))) (x.Conjugates.getD i []).length (fun j hj => by
   obtain ⟨c1,c2⟩:=exp_small h.os ((h.tl i hi).2.2 j hj)
   have hjn:i + 1 + j < x.Orders.length:=by omega
   have s1:=step_spec hm h6 hv hz hjn
   have s2:=step_spec hm h6 hv (stp_row hm h6 hv (v:=z0 D) (w:=i + 1 + j)) hi
   have s3:=step_spec hm h6 hv hz hi
   have s4:=behind_spec hm h6 hv (stp_row hm h6 hv (v:=z0 D) (w:=i)) c1 c2
   unfold l3_spec_l23Delta
   simp only
   rw [lt_t hjn,cnd_t,s1,bs,s2,bs,s3,bs,ixO_d [] (by omega),bs,rng_of (by omega) (by omega),bs,rng_of (by omega) (by omega),bs,show (((i + 1 + j:Nat):Int) - (i:Int) - 1) = (j:Int) from by omega,ixO_d [] hj,bs,s4,bs,rng_of (by omega) (by omega),bs]
   have e2:f_spec_l02Add m.Prime (stp m D vals (stp m D vals (z0 D) (i + 1 + j)) i) (m.Prime - 1) (ev m D vals (stp m D vals (z0 D) i) (nw 0 ((x.Conjugates.getD i []).getD j []))) = some (dfc m D vals (r2 x i j)):=by
    rw [l02Add_spec hm.p (stp_row hm h6 hv) (ev_row hm h6 hv (stp_row hm h6 hv) _) (by omega) (by omega),addM_minus]
    simp only [dfc,r2,ev,List.foldl_cons,List.foldl_nil]
    rw [show i + j + 1 = i + 1 + j from by omega]
   rw [e2,bs,appO_of (by simp only [List.length_append,List.length_map,List.length_range,List.length_singleton];omega),bs,rng_of (by omega) (by omega),bs,cs,List.range_succ,List.map_append,List.append_assoc]
   rfl) (by
   unfold l3_spec_l23Delta
   simp only
   rw [show i + 1 + (x.Conjugates.getD i []).length = x.Orders.length from by omega,lt_f,cnd_f,List.range_succ (n:=i),List.flatMap_append,List.map_append,← List.append_assoc]
   simp [R2])
  simp only [List.range_zero,List.map_nil,List.append_nil,Nat.add_zero] at hin
  rw [hin,bs,bs]) (by
  unfold l4_spec_l23Delta
  simp only
  rw [lt_f,cnd_f]
  simp only [relsN,List.map_append,List.map_map]
  rfl)
 simp only [List.range_zero,List.flatMap_nil,List.map_nil,List.append_nil] at e2
 have e3:loopO (l4_spec_l23Delta x m vals D) ((List.range x.Orders.length).map (fun i => dfc m D vals (r1 x i)),0) = some ((relsN x).map (dfc m D vals)):=e2
 rw [e3,bs]
end
def uv (n D k:Nat):Mx:=cutM n D (unitv (n * D) k)
theorem uv_ok {k:Nat}:VOk x.Orders.length m.Prime D (uv x.Orders.length D k):=by
 have _:=h
 have h7:=hm.p.pos
 exact cut_ok (unitv_row h7.1)
theorem uv_row:∀ k,k < x.Orders.length * D → ∀ q,Row m.Prime D (dfc m D (uv x.Orders.length D k) q):=fun k _ q => by
 have _:=h
 exact addM_row hm.p
theorem uv_split {k:Nat}:f_impl_split (unitv (x.Orders.length * D) k) (D:Int) = some (uv x.Orders.length D k):=by
 have h6:=h.os.1
 have h3:=hm.d3
 have hnd:x.Orders.length * D ≤ 6 * 3:=Nat.mul_le_mul h6 h3
 exact split_impl hm.d1 (mkv_length _ _) (by omega)
theorem uv_cut {k:Nat}:f_spec_l22Cut (unitv (x.Orders.length * D) k) (D:Int) = some (uv x.Orders.length D k):=by
 have h6:=h.os.1
 have h3:=hm.d3
 have hnd:x.Orders.length * D ≤ 6 * 3:=Nat.mul_le_mul h6 h3
 exact cut_spec hm.d1 (by omega) (mkv_length _ _) (by omega)
theorem flat_parts {vals:Mx} {L:List Rl}:((L.map (dfc m D vals)).flatten).length = L.length * D:=by
 have _:=h;have _:=hm
 exact parts_len L fun q _ => addM_len
theorem defectRows_impl:f_impl_defectRows x m = some (prows (x.Orders.length * D) (fun k => dfc m D (uv x.Orders.length D k)) (relsN x)):=by
 have h6:=h.os.1
 have h3:=hm.d3
 have hnd:x.Orders.length * D ≤ 6 * 3:=Nat.mul_le_mul h6 h3
 have hrl:=rel_len h hm (uv_ok h hm (k:=0))
 have hrD:(relsN x).length * D ≤ 100 * 3:=Nat.mul_le_mul hrl h3
 unfold f_impl_defectRows
 rw [hm.d,← Int.natCast_mul,rng_of (by omega) (by omega),bs]
 rw [map_loop (body:=l1_impl_defectRows x m ((x.Orders.length * D:Nat):Int)) (x.Orders.length * D) (fun k => ((relsN x).map (dfc m D (uv x.Orders.length D k))).flatten) (fun k acc hk ha => by
  unfold l1_impl_defectRows
  simp only
  rw [lt_t hk,cnd_t,unitVector_impl hk (by omega),bs,hm.d,uv_split h hm,bs,defects_impl h hm (uv_ok h hm (k:=k)),bs,concat_impl (by simp;omega) (by rw [flat_parts h hm];omega),bs,appO_of (by simp;omega),bs,rng_of (by omega) (by omega),bs,cs]) (fun acc => by
  unfold l1_impl_defectRows
  simp only
  rw [lt_f,cnd_f]),bs]
 rfl
theorem unit_flat {k N:Nat}:(List.replicate N (0:Int)).set k 1 = unitv N k:=by
 have _:=h;have _:=hm
 rw [mkv_zero,mkv_set,unitv]
theorem deltas_spec:f_spec_l23Deltas x m = some (prows (x.Orders.length * D) (fun k => dfc m D (uv x.Orders.length D k)) (relsN x)):=by
 have h6:=h.os.1
 have h3:=hm.d3
 have hnd:x.Orders.length * D ≤ 6 * 3:=Nat.mul_le_mul h6 h3
 have hrl:=rel_len h hm (uv_ok h hm (k:=0))
 have hrD:(relsN x).length * D ≤ 100 * 3:=Nat.mul_le_mul hrl h3
 unfold f_spec_l23Deltas
 rw [hm.d,← Int.natCast_mul,rng_of (by omega) (by omega),bs]
 rw [map_loop (body:=l1_spec_l23Deltas x m ((x.Orders.length * D:Nat):Int)) (x.Orders.length * D) (fun k => ((relsN x).map (dfc m D (uv x.Orders.length D k))).flatten) (fun k acc hk ha => by
  unfold l1_spec_l23Deltas
  simp only
  rw [lt_t hk,cnd_t,lenOk_nat (by omega),bs,ixO_nat,List.getElem?_replicate,if_pos hk,bs,Int.toNat_natCast,unit_flat h hm,hm.d,uv_cut h hm,bs,delta_spec h hm (uv_ok h hm (k:=k)),bs,flat_spec (by simp;omega) (by rw [flat_parts h hm];omega),bs,appO_of (by simp;omega),bs,rng_of (by omega) (by omega),bs,cs]) (fun acc => by
  unfold l1_spec_l23Deltas
  simp only
  rw [lt_f,cnd_f]),bs]
 rfl
end
theorem CoboundaryBasis_agree {x:SPresentation} {m:SModule} (hx:SPres x) (hm:SMod m):∃ g k,f_spec_CoboundaryBasis x m = some (g,k) ∧ f_impl_CoboundaryBasis x m = some (g,k) ∧ S2 g:=by
 have hl:x.Orders.length ≤ 1048576:=hx.1
 have hml:=S3.len hm
 have hnil:S2 ([]:Mx):=by simp [S2,c2,sm]
 unfold f_spec_CoboundaryBasis f_impl_CoboundaryBasis
 rcases (IsModule_spec (m:=m) hl).both (isModule_impl (m:=m) hl hml) with ⟨s1,i1,hM⟩ | ⟨s1,i1,hM⟩
 ·obtain ⟨hc,D,hD,_⟩:=hM
  have h6:=hc.1.os.1
  have h3:=hD.d3
  have hnd:x.Orders.length * D ≤ 6 * 3:=Nat.mul_le_mul h6 h3
  have hrl:=rel_len hc.1 hD (uv_ok hc.1 hD (k:=0))
  have hrD:(relsN x).length * D ≤ 100 * 3:=Nat.mul_le_mul hrl h3
  have hpl:(prows (x.Orders.length * D) (fun k => dfc m D (uv x.Orders.length D k)) (relsN x)).length = x.Orders.length * D:=gl_len
  obtain ⟨R,pv,r1,r2,r3,_⟩:=reduce_both hD.p (n:=(relsN x).length * D) (by omega) (rows:=prows (x.Orders.length * D) (fun k => dfc m D (uv x.Orders.length D k)) (relsN x)) (by omega) (by rw [hpl];exact prows_row (uv_row hc.1 hD) (relsN x))
  simp only [s1,i1,bs,Bool.not_true,cnd_f]
  unfold f_spec_l23Bounds
  rw [deltas_spec hc.1 hD,defectRows_impl hc.1 hD]
  simp only [bs,r1,r2]
  exact ⟨_,_,rfl,rfl,r3.small (by omega)⟩
 ·simp only [s1,i1,bs,Bool.not_false,cnd_t]
  exact ⟨_,_,rfl,rfl,hnil⟩
theorem law_CoboundaryBasis (x0:SPresentation) (x1:SModule) (v0:VPres x0) (v1:VMod x1)
  (h:SPres x0 → SMod x1 → ∃ g k,f_spec_CoboundaryBasis x0 x1 = some (g,k) ∧ f_impl_CoboundaryBasis x0 x1 = some (g,k) ∧ S2 g):f_laws_FnExactCoboundaryBasis x0 x1 = some true:=by
 unfold f_laws_FnExactCoboundaryBasis
 rw [szPresentation v0 (by decide) (by decide),bs]
 rcases sz_case (c:=cPres x0) (b:=1048576) (by decide) (by decide) with e | ⟨e,a0,b0,w0⟩ <;> rw [e]
 ·rfl
 rw [cnd_f,szModule v1 a0 b0,bs]
 rcases sz_case (c:=cMod x1) a0 b0 with e | ⟨e,a1,b1,w1⟩ <;> rw [e]
 ·rfl
 have s0:SPres x0:=SPres.of w0
 have s1:SMod x1:=SMod.of w1
 obtain ⟨g,k,hs,hi,sg⟩:=h s0 s1
 have t0:=totP_le s0
 have q1:=sm3_le (x:=x1.Actions)
 have w1':=w1
 simp only [cMod] at w1'
 have qg:=sm2_le (x:=g)
 have sg':=sg
 simp only [S2] at sg'
 rw [cnd_f,toPresentation s0,bs,toModule s1,bs]
 simp only [bs]
 rw [hs,bs,hi,bs]
 simp only
 rw [eqInt64SS sg,bs]
 simp only [beq_self_eq_true,Bool.not_true,cnd_f,bne_self_eq_false]
 rw [eqPresentation s0,bs,Bool.not_true,cnd_f,eqModule s1,bs,Bool.not_true,cnd_f,markPresentation_eq s0 (by decide) (by decide),bs]
 simp only
 rw [markModule s1 (by omega) (by omega),bs]
 simp only
 rw [decide_eq_false (by omega),cnd_f,bs,Bool.not_true,cnd_f]
 rw [markInt64SS sg (by decide) (by omega),bs]
 simp only
 rw [heldInt64SS sg (by decide) (by omega),bs,decide_eq_false (by omega),cnd_f,bne_self_eq_false,cnd_f,bs]
 simp only
 rw [eqInt64SS sg,bs,beq_self_eq_true,Bool.not_true,cnd_f,bne_self_eq_false,cnd_f,bs,decide_eq_false (by omega),cnd_f,bne_self_eq_false,cnd_f]
theorem CoboundaryBasis_plain (x0:SPresentation) (x1:SModule) (v0:VPres x0) (v1:VMod x1):f_laws_FnExactCoboundaryBasis x0 x1 = some true :=
 law_CoboundaryBasis x0 x1 v0 v1 CoboundaryBasis_agree
end Go.Pl
