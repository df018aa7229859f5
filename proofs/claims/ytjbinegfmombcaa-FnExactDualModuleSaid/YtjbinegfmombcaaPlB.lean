/- The program and the reference return the same dual modules, for all arguments (FnExactDualModule). This file is a part of the proof. -/
import Derived.Test.YtjbinegfmombcaaPlA
namespace Go.Pl
open Go Go.Ab Go.Wk Go.Pc
theorem lead_spec {v : List Int} {n : Nat} (hl : v.length = n) (hn : n ≤ 1000000) : ∃ k : Nat,k ≤ n ∧ f_spec_l02Lead v = some (k : Int) ∧ (∀ j,j < k → at0 v j = 0) ∧ (k < n → at0 v k ≠ 0) := by
 unfold f_spec_l02Lead
 rcases chk (body := l1_spec_l02Lead v) n 0 (Nat.zero_le _) (fun i => at0 v i = 0) (fun i => (i : Int)) (fun i _ hi _ => by
   unfold l1_spec_l02Lead
   rw [hl,lt_t hi,cnd_t,ixO_at (by omega),bs]
   by_cases h : at0 v i = 0
   ·rw [bne_f h,cnd_f,rng_of (by omega) (by omega),bs,cs];exact .inl ⟨rfl,h⟩
   ·rw [bne_t h,cnd_t];exact .inr ⟨rfl,h⟩) (by
   unfold l1_spec_l02Lead
   rw [hl,lt_f,cnd_f]) with ⟨h1,h2⟩ | ⟨i,_,hi,h1,h2⟩
 ·rw [show ((0 : Nat) : Int) = 0 from rfl] at h1
  rw [h1,bs]
  exact ⟨n,Nat.le_refl _,by simp only [hl],fun j hj => h2 j (Nat.zero_le _) hj,fun h => by omega⟩
 ·rw [show ((0 : Nat) : Int) = 0 from rfl] at h1
  rw [h1,bs]
  obtain ⟨k,⟨hk1,hk2⟩,hmin⟩ := least (p := fun k => k < n ∧ at0 v k ≠ 0) ⟨i,hi,h2⟩
  have hz : ∀ j,j < k → at0 v j = 0 := fun j hj => Classical.byContradiction fun h => hmin j hj ⟨by omega,h⟩
  have hki : k = i := by
   have hloop : ∀ q,q ≤ k → loopO (l1_spec_l02Lead v) ((k - q : Nat) : Int) = some (.inr (k : Int)) := by
    intro q
    induction q with
    | zero =>
     intro _
     rw [loopO_eq]
     have e : l1_spec_l02Lead v ((k - 0 : Nat) : Int) = some (.inr (.inr (k : Int))) := by
      unfold l1_spec_l02Lead
      rw [show k - 0 = k from rfl,hl,lt_t hk1,cnd_t,ixO_at (by omega),bs,bne_t hk2,cnd_t]
     rw [e]
    | succ q ih =>
     intro hq
     rw [loopO_eq]
     have e : l1_spec_l02Lead v ((k - (q + 1) : Nat) : Int) = some (.inl ((k - q : Nat) : Int)) := by
      unfold l1_spec_l02Lead
      rw [hl,lt_t (by omega),cnd_t,ixO_at (by omega),bs,bne_f (hz _ (by omega)),cnd_f,rng_of (by omega) (by omega),bs,cs,show k - (q + 1) + 1 = k - q from by omega]
     rw [e];exact ih (by omega)
   have := hloop k (Nat.le_refl _)
   rw [Nat.sub_self,show ((0 : Nat) : Int) = 0 from rfl,h1] at this
   have := Sum.inr.inj (Option.some.inj this)
   omega
  exact ⟨i,by omega,rfl,by rw [← hki];exact hz,fun _ => h2⟩
theorem lead_is {v : List Int} {n k : Nat} (hl : v.length = n) (hn : n ≤ 1000000) (hk : k < n) (h0 : ∀ j,j < k → at0 v j = 0) (h1 : at0 v k ≠ 0) : f_spec_l02Lead v = some (k : Int) := by
 obtain ⟨q,q1,q2,q3,q4⟩ := lead_spec hl hn
 have : q = k := by
  rcases Nat.lt_trichotomy q k with g | g | g
  ·exact absurd (h0 q g) (q4 (by omega))
  ·exact g
  ·exact absurd (q3 k g) h1
 rw [q2,this]
theorem inv_spec {p x : Int} (hp : Prime p) (h0 : 1 ≤ x) (h1 : x ≤ p - 1) : ∃ r,f_spec_l01Inv x p = some r ∧ 0 ≤ r ∧ r ≤ p - 1 ∧ (x * r) % p = 1 := by
 have h7 := hp.pos
 have hx : ∃ k : Nat,1 ≤ k ∧ (k : Int) < p ∧ (x * (k : Int)) % p = 1 := by
  obtain ⟨r,_,r1,r2,r3⟩ := inverse_impl hp h0 h1
  refine ⟨r.toNat,?_,by omega,by rw [Int.toNat_of_nonneg r1];exact r3⟩
  rcases Int.lt_or_eq_of_le r1 with g | g
  ·omega
  ·rw [← g] at r3;simp at r3
 obtain ⟨k,⟨k1,k2,k3⟩,hmin⟩ := least hx
 have body : ∀ i : Nat,1 ≤ i → (i : Int) < p → l1_spec_l01Inv x p (i : Int) = cond ((x * (i : Int)) % p == 1) (some (.inr (.inr (i : Int)))) (some (.inl ((i + 1 : Nat) : Int))) := fun i hi hip => by
  have a3 := Int.mul_nonneg (show 0 ≤ x by omega) (show 0 ≤ (i : Int) by omega)
  have a4 := mulk_small hp (k := (i : Int)) ⟨by omega,by omega⟩ (b := x) ⟨by omega,h1⟩
  rw [Int.mul_comm] at a4
  unfold l1_spec_l01Inv
  rw [decide_eq_true hip,cnd_t,mod_spec hp (by omega) (by omega),bs,Int.emod_eq_of_lt (by omega) (by omega),rng_of (by omega) (by omega),bs]
  unfold remO
  rw [if_neg (by omega),bs,Int.tmod_eq_emod_of_nonneg a3]
  by_cases hh : (x * (i : Int)) % p = 1
  ·rw [beq_t hh,cnd_t,cnd_t]
  ·rw [beq_f hh,cnd_f,cnd_f,rng_of (by omega) (by omega),bs,cs]
 have hloop : ∀ q,q + 1 ≤ k → loopO (l1_spec_l01Inv x p) ((k - q : Nat) : Int) = some (.inr (k : Int)) := by
  intro q
  induction q with
  | zero =>
   intro _
   rw [loopO_eq,show k - 0 = k from rfl,body k k1 k2,beq_t k3,cnd_t]
  | succ q ih =>
   intro hq
   have hne : (x * ((k - (q + 1) : Nat) : Int)) % p ≠ 1 := fun h => hmin (k - (q + 1)) (by omega) ⟨by omega,by omega,h⟩
   rw [loopO_eq,body _ (by omega) (by omega),beq_f hne,cnd_f,show k - (q + 1) + 1 = k - q from by omega]
   exact ih (by omega)
 have := hloop (k - 1) (by omega)
 rw [show k - (k - 1) = 1 from by omega,show ((1 : Nat) : Int) = 1 from rfl] at this
 refine ⟨(k : Int),?_,by omega,by omega,k3⟩
 unfold f_spec_l01Inv
 rw [this,bs]
section
variable {p : Int} (hp : Prime p) {n : Nat} (hn : n ≤ 100000)
 include hp hn
theorem addM_p {r s : List Int} (hr : Row p n r) : addM p n r p s = r := by
 have _ := hp
 have _ := hn
 conv => rhs;rw [mkv_eq hr.1]
 refine mkv_congr fun j hj => ?_
 have := hr.2 j hj
 rw [Int.add_mul_emod_self_left];exact Int.emod_eq_of_lt this.1 (by omega)
def cl (p : Int) (n : Nat) (out : Mx) (pv : Nat → Nat) (v : List Int) : Nat → List Int
 | 0 => v
 | i + 1 => addM p n (cl p n out pv v i) (p - at0 (cl p n out pv v i) (pv i)) (out.getD i [])
variable {out : Mx} {pv : Nat → Nat} (h : Red p n out pv) {v : List Int} (hv : Row p n v)
 include h hv
theorem cl_row : ∀ i,Row p n (cl p n out pv v i) := by
 have _ := hn
 have _ := h
 intro i
 cases i with
 | zero => exact hv
 | succ i => exact addM_row hp
theorem cl_piv : ∀ i,i ≤ out.length → ∀ k,k < i → at0 (cl p n out pv v i) (pv k) = 0 := by
 have _ := hn;have _ := hv
 have h7 := hp.pos
 intro i
 induction i with
 | zero => intro _ k hk;omega
 | succ i ih =>
  intro hi k hk
  have hlt := h.lt k (by omega)
  rw [cl,addM,mkv_at hlt]
  rcases Nat.lt_or_ge k i with g | g
  ·have h1 := ih (by omega) k g
   have h2 := h.off k i (by omega) (by omega) (by omega)
   simp only [ent] at h2
   rw [h1,h2];simp
  ·have hki : k = i := by omega
   subst hki
   have h2 := h.one k (by omega)
   simp only [ent] at h2
   rw [h2,Int.mul_one,show at0 (cl p n out pv v k) (pv k) + (p - at0 (cl p n out pv v k) (pv k)) = p from by omega,Int.emod_self]
theorem cl_comb : ∀ i,i ≤ out.length → ∃ cf : Nat → Int,∀ j,j < n → at0 (cl p n out pv v i) j % p = (at0 v j + S out.length fun k => cf k * ent out k j) % p := by
 have _ := hp;have _ := h;have _ := hv
 have _ := hn
 intro i
 induction i with
 | zero => intro _;exact ⟨fun _ => 0,fun j _ => by rw [S_congr (g := fun _ => 0) (fun i _ => by simp),S_zero,Int.add_zero];rfl⟩
 | succ i ih =>
  intro hi
  obtain ⟨cf,hcf⟩ := ih (by omega)
  refine ⟨fun k => cf k + (if k = i then p - at0 (cl p n out pv v i) (pv i) else 0),fun j hj => ?_⟩
  have e1 : (S out.length fun k => (cf k + (if k = i then p - at0 (cl p n out pv v i) (pv i) else 0)) * ent out k j) = (S out.length fun k => cf k * ent out k j) + (p - at0 (cl p n out pv v i) (pv i)) * ent out i j := by
   rw [S_congr (g := fun k => cf k * ent out k j + (if k = i then p - at0 (cl p n out pv v i) (pv i) else 0) * ent out k j) (fun k _ => by rw [Int.add_mul]),S_add,S_one (f := fun k => (if k = i then p - at0 (cl p n out pv v i) (pv i) else 0) * ent out k j) (k := i) (by omega) (fun k _ hk => by simp [hk])]
   simp
  rw [e1,cl,addM,mkv_at hj,Int.emod_emod,← Int.add_assoc,Int.add_emod,hcf j hj,← Int.add_emod]
theorem clear_spec (hm : out.length ≤ 100000) : f_spec_l02Clear p out v = some (cl p n out pv v out.length) := by
 have h7 := hp.pos
 unfold f_spec_l02Clear
 rw [own_spec (by rw [hv.1];omega),bs]
 have := loopO_seq (body := l1_spec_l02Clear p out) (r := cl p n out pv v out.length) (fun i => (cl p n out pv v i,(i : Int))) out.length (fun i hi => by
  have hr := cl_row hp hn h hv i
  have ho := h.row i hi
  have hlt := h.lt i hi
  have hone := h.one i hi
  have hlow := h.low i hi
  simp only [ent] at hone hlow
  have he := hr.2 (pv i) hlt
  unfold l1_spec_l02Clear
  simp only
  rw [lt_t hi,cnd_t,ixO_d [] hi,bs,lead_is ho.1 (by omega) hlt hlow (by rw [hone];decide),bs,hr.1,lt_t hlt,cnd_t,ixO_at (by rw [hr.1];exact hlt),bs]
  by_cases hz : at0 (cl p n out pv v i) (pv i) = 0
  ·rw [bne_f hz,cnd_f,rng_of (by omega) (by omega),bs,cs,cl,hz,Int.sub_zero,addM_p hp hn hr]
  ·rw [bne_t hz,cnd_t,bs,rng_of (by omega) (by omega),bs,bs,l02Add_spec hp hr ho ⟨by omega,by omega⟩ (by omega),bs,rng_of (by omega) (by omega),bs,cs]
   rfl) (by
  unfold l1_spec_l02Clear
  simp only
  rw [lt_f,cnd_f])
 rw [show ((0 : Nat) : Int) = 0 from rfl] at this
 simp only [cl] at this
 rw [this,bs]
end
end Go.Pl

namespace Go.Pl
open Go Go.Ab Go.Wk Go.Pc
section
variable {p : Int} (hp : Prime p) {n : Nat} {out : Mx} {pv : Nat → Nat} (h : Red p n out pv) {u : List Int} {k q : Nat} (hu : Row p n u) (hk : k < n) (u1 : at0 u k = 1) (ul : ∀ j,j < k → at0 u j = 0) (up : ∀ i,i < out.length → at0 u (pv i) = 0) (hq : q ≤ out.length) (q1 : ∀ i,i < q → pv i < k) (q2 : ∀ i,q ≤ i → i < out.length → k < pv i)
def oth (p : Int) (n : Nat) (out : Mx) (u : List Int) (k i : Nat) : List Int := addM p n (out.getD i []) (p - at0 (out.getD i []) k) u
def newR (p : Int) (n : Nat) (out : Mx) (u : List Int) (k q i : Nat) : List Int := if i < q then oth p n out u k i else if i = q then u else oth p n out u k (i - 1)
def newP (pv : Nat → Nat) (k q i : Nat) : Nat := if i < q then pv i else if i = q then k else pv (i - 1)
 include hp h hu hk u1 ul up hq q1 q2
theorem oth_at {i j : Nat} (hj : j < n) : at0 (oth p n out u k i) j = (at0 (out.getD i []) j - at0 (out.getD i []) k * at0 u j) % p := by
 have _ := hp;have _ := h;have _ := hu;have _ := hk;have _ := u1;have _ := ul;have _ := up;have _ := hq;have _ := q1;have _ := q2
 rw [oth,addM,mkv_at hj,show at0 (out.getD i []) j + (p - at0 (out.getD i []) k) * at0 u j = at0 (out.getD i []) j - at0 (out.getD i []) k * at0 u j + p * at0 u j from by rw [Int.sub_mul];omega,Int.add_mul_emod_self_left]
theorem oth_same {i j : Nat} (hi : i < out.length) (hj : j < n) (hz : at0 (out.getD i []) k = 0 ∨ at0 u j = 0) : at0 (oth p n out u k i) j = ent out i j := by
 rw [oth_at hp h hu hk u1 ul up hq q1 q2 hj]
 have := (h.row i hi).2 j hj
 have e : at0 (out.getD i []) k * at0 u j = 0 := by rcases hz with g | g <;> rw [g] <;> simp
 rw [e,Int.sub_zero];exact Int.emod_eq_of_lt this.1 (by omega)
theorem oth_k {i : Nat} : at0 (oth p n out u k i) k = 0 := by
 rw [oth_at hp h hu hk u1 ul up hq q1 q2 hk,u1,Int.mul_one,Int.sub_self];rfl
theorem oth_low {i j : Nat} (hi : i < out.length) (hj : j < pv i) (hne : pv i ≠ k) : at0 (oth p n out u k i) j = 0 := by
 have hlt := h.lt i hi
 rcases Nat.lt_or_ge (pv i) k with g | g
 ·rw [oth_same hp h hu hk u1 ul up hq q1 q2 hi (by omega) (.inr (ul j (by omega)))];exact h.low i hi j hj
 ·have := h.low i hi k (by omega)
  rw [oth_same hp h hu hk u1 ul up hq q1 q2 hi (by omega) (.inl this)];exact h.low i hi j hj
theorem pv_ne {i : Nat} (hi : i < out.length) : pv i ≠ k := by
 have _ := h;have _ := q1;have _ := q2
 have _ := hp;have _ := hu;have _ := hk;have _ := ul;have _ := hq
 intro e
 have := up i hi
 rw [e,u1] at this;cases this
theorem new_cases {i : Nat} (hi : i < out.length + 1) : (i = q ∧ newR p n out u k q i = u ∧ newP pv k q i = k) ∨ ∃ a,a < out.length ∧ (i < q ∧ a = i ∨ q < i ∧ i = a + 1) ∧ newR p n out u k q i = oth p n out u k a ∧ newP pv k q i = pv a := by
 have _ := hp;have _ := h;have _ := hu;have _ := hk;have _ := u1;have _ := ul;have _ := up;have _ := q1;have _ := q2
 unfold newR newP
 rcases Nat.lt_trichotomy i q with g | g | g
 ·exact .inr ⟨i,by omega,.inl ⟨g,rfl⟩,by rw [if_pos g],by rw [if_pos g]⟩
 ·exact .inl ⟨g,by rw [if_neg (by omega),if_pos g],by rw [if_neg (by omega),if_pos g]⟩
 ·exact .inr ⟨i - 1,by omega,.inr ⟨g,by omega⟩,by rw [if_neg (by omega),if_neg (by omega)],by rw [if_neg (by omega),if_neg (by omega)]⟩
theorem insert_red : Red p n (mkR (out.length + 1) (newR p n out u k q)) (newP pv k q) := by
 have nc := fun i hi => new_cases hp h hu hk u1 ul up hq q1 q2 (i := i) hi
 have pn := fun i hi => pv_ne hp h hu hk u1 ul up hq q1 q2 (i := i) hi
 refine ⟨fun i hi => ?_,fun i hi => ?_,fun i hi => ?_,fun i hi j hj => ?_,fun i j hi hj hne => ?_,fun i j hij hj => ?_⟩ <;> rw [mkR_len] at *
 ·rw [mkR_get hi]
  rcases nc i hi with ⟨_,e,_⟩ | ⟨a,_,_,e,_⟩ <;> rw [e]
  ·exact hu
  ·exact addM_row hp
 ·rcases nc i hi with ⟨_,_,e⟩ | ⟨a,ha,_,_,e⟩ <;> rw [e]
  ·exact hk
  ·exact h.lt a ha
 ·rw [mkR_ent hi]
  rcases nc i hi with ⟨_,e1,e2⟩ | ⟨a,ha,_,e1,e2⟩ <;> rw [e1,e2]
  ·exact u1
  ·rw [oth_same hp h hu hk u1 ul up hq q1 q2 ha (h.lt a ha) (.inr (up a ha))];exact h.one a ha
 ·rw [mkR_ent hi]
  rcases nc i hi with ⟨_,e1,e2⟩ | ⟨a,ha,_,e1,e2⟩ <;> rw [e2] at hj <;> rw [e1]
  ·exact ul j hj
  ·exact oth_low hp h hu hk u1 ul up hq q1 q2 ha hj (pn a ha)
 ·rw [mkR_ent hj]
  rcases nc i hi with ⟨g1,_,e2⟩ | ⟨a,ha,ga,_,e2⟩ <;> rw [e2] <;> rcases nc j hj with ⟨g3,e3,_⟩ | ⟨b,hb,gb,e3,_⟩ <;> rw [e3]
  ·omega
  ·exact oth_k hp h hu hk u1 ul up hq q1 q2
  ·exact up a ha
  ·rw [oth_same hp h hu hk u1 ul up hq q1 q2 hb (h.lt a ha) (.inr (up a ha))]
   exact h.off a b ha hb (by omega)
 ·rcases nc i (by omega) with ⟨g1,_,e2⟩ | ⟨a,ha,ga,_,e2⟩ <;> rw [e2] <;> rcases nc j hj with ⟨g3,_,e4⟩ | ⟨b,hb,gb,_,e4⟩ <;> rw [e4]
  ·omega
  ·exact q2 b (by omega) hb
  ·exact q1 a (by omega)
  ·exact h.mono a b (by omega) hb
theorem insert_sp : (∀ i,i < out.length + 1 → Sp p n (out ++ [u]) (newR p n out u k q i)) ∧ (∀ i,i < out.length → Sp p n (mkR (out.length + 1) (newR p n out u k q)) (out.getD i [])) ∧ Sp p n (mkR (out.length + 1) (newR p n out u k q)) u := by
 have hul : Sp p n (out ++ [u]) u := by
  have := sp_row (p := p) (n := n) (R := out ++ [u]) (i := out.length) (by simp)
  simpa [List.getD_eq_getElem?_getD] using this
 have hol : ∀ i,i < out.length → Sp p n (out ++ [u]) (out.getD i []) := fun i hi => by
  have := sp_row (p := p) (n := n) (R := out ++ [u]) (i := i) (by simp;omega)
  simpa [List.getD_eq_getElem?_getD,List.getElem?_append_left hi] using this
 have hoth : ∀ i,i < out.length → Sp p n (out ++ [u]) (oth p n out u k i) := fun i hi =>
  sp_add (k := p - at0 (out.getD i []) k) (hol i hi) hul fun j hj => by rw [oth,addM,mkv_at hj,Int.emod_emod]
 have hsu : Sp p n (mkR (out.length + 1) (newR p n out u k q)) u := by
  have := sp_mkR_row (p := p) (n := n) (m := out.length + 1) (F := newR p n out u k q) (i := q) (by omega)
  rw [show newR p n out u k q q = u from by unfold newR;rw [if_neg (by omega),if_pos rfl]] at this
  exact this
 refine ⟨fun i hi => ?_,fun i hi => ?_,hsu⟩
 ·rcases new_cases hp h hu hk u1 ul up hq q1 q2 hi with ⟨_,e,_⟩ | ⟨a,ha,_,e,_⟩ <;> rw [e]
  ·exact hul
  ·exact hoth a ha
 ·have hi2 : ∃ b,b < out.length + 1 ∧ newR p n out u k q b = oth p n out u k i := by
   rcases Nat.lt_or_ge i q with g | g
   ·exact ⟨i,by omega,by unfold newR;rw [if_pos g]⟩
   ·exact ⟨i + 1,by omega,by unfold newR;rw [if_neg (by omega),if_neg (by omega)];rfl⟩
  obtain ⟨b,hb,e⟩ := hi2
  have h1 := sp_mkR_row (p := p) (n := n) (m := out.length + 1) (F := newR p n out u k q) hb
  rw [e] at h1
  refine sp_add (k := at0 (out.getD i []) k) h1 hsu fun j hj => ?_
  rw [oth_at hp h hu hk u1 ul up hq q1 q2 hj,Int.add_emod,Int.emod_emod,← Int.add_emod,show at0 (out.getD i []) j - at0 (out.getD i []) k * at0 u j + at0 (out.getD i []) k * at0 u j = at0 (out.getD i []) j from by omega]
theorem insert_loop (hn : n ≤ 100000) (hm : out.length ≤ 100000) {x : Int} :
  ((loopO (l1_spec_l02Reduce p (out,x) (k : Int) u) ([],false,0)).bind fun r32 => cond (!r32.2) ((appO r32.1 [u]).bind fun v33 => some v33) (some r32.1)) = some (mkR (out.length + 1) (newR p n out u k q)) := by
 have _ := u1;have _ := ul;have _ := up
 have h7 := hp.pos
 have ho : ∀ i,i < out.length → f_spec_l02Add p (out.getD i []) (p - at0 (out.getD i []) k) u = some (oth p n out u k i) ∧ ixO (out.getD i []) (k : Int) = some (at0 (out.getD i []) k) ∧ 0 ≤ at0 (out.getD i []) k ∧ at0 (out.getD i []) k ≤ p - 1 ∧ f_spec_l02Lead (out.getD i []) = some (pv i : Int) := fun i hi => by
  have hr := h.row i hi
  have hk2 := hr.2 k hk
  have hone := h.one i hi
  have hlow := h.low i hi
  simp only [ent] at hone hlow
  exact ⟨by rw [l02Add_spec hp hr hu ⟨by omega,by omega⟩ (by omega)];rfl,ixO_at (by rw [hr.1];exact hk),hk2.1,hk2.2,lead_is hr.1 (by omega) (h.lt i hi) hlow (by rw [hone];decide)⟩
 have hsn : ∀ {m : Nat} {F : Nat → List Int},mkR m F ++ [F m] = mkR (m + 1) F := fun {m F} => by simp [mkR,List.range_succ]
 have := loopO_seq (body := l1_spec_l02Reduce p (out,x) (k : Int) u) (r := (if out.length ≤ q then (mkR out.length (newR p n out u k q),false) else (mkR (out.length + 1) (newR p n out u k q),true)))
  (fun j => if j ≤ q then (mkR j (newR p n out u k q),false,(j : Int)) else (mkR (j + 1) (newR p n out u k q),true,(j : Int))) out.length (fun j hj => by
   obtain ⟨a1,a2,a3,a4,a5⟩ := ho j hj
   have hrg : rng (p - at0 (out.getD j []) k) = some (p - at0 (out.getD j []) k) := rng_of (by omega) (by omega)
   rcases Nat.lt_trichotomy j q with g | g | g
   ·have hpj := q1 j g
    rw [if_pos (by omega),if_pos (by omega)]
    unfold l1_spec_l02Reduce
    simp only
    rw [lt_t hj,cnd_t,Bool.not_false,cnd_t,ixO_d [] hj]
    simp only [bs,a5]
    rw [decide_eq_false (by omega),cnd_f,a2]
    simp only [bs,hrg,a1]
    rw [appO_of (by rw [mkR_len];simp;omega),bs,rng_of (by omega) (by omega),bs,cs]
    have : newR p n out u k q j = oth p n out u k j := by unfold newR;rw [if_pos g]
    rw [← this,hsn]
   ·subst g
    have hpj := q2 j (Nat.le_refl _) hj
    rw [if_pos (by omega),if_neg (by omega)]
    unfold l1_spec_l02Reduce
    simp only
    rw [lt_t hj,cnd_t,Bool.not_false,cnd_t,ixO_d [] hj]
    simp only [bs,a5]
    rw [decide_eq_true (by omega),cnd_t,appO_of (by rw [mkR_len];simp;omega),a2]
    simp only [bs,hrg,a1]
    have e1 : newR p n out u k j j = u := by unfold newR;rw [if_neg (by omega),if_pos rfl]
    have e2 : newR p n out u k j (j + 1) = oth p n out u k j := by unfold newR;rw [if_neg (by omega),if_neg (by omega)];rfl
    have e3 : mkR j (newR p n out u k j) ++ [u] = mkR (j + 1) (newR p n out u k j) := by rw [← hsn,e1]
    rw [e3,appO_of (by rw [mkR_len];simp;omega),bs,rng_of (by omega) (by omega),bs,cs,← e2,hsn]
   ·rw [if_neg (by omega),if_neg (by omega)]
    unfold l1_spec_l02Reduce
    simp only
    rw [lt_t hj,cnd_t,Bool.not_true,cnd_f,ixO_d [] hj]
    simp only [bs,a2,hrg,a1]
    have e2 : newR p n out u k q (j + 1) = oth p n out u k j := by unfold newR;rw [if_neg (by omega),if_neg (by omega)];rfl
    rw [appO_of (by rw [mkR_len];simp;omega),bs,rng_of (by omega) (by omega),bs,cs,← e2,hsn]) (by
   by_cases g : out.length ≤ q
   ·rw [if_pos g,if_pos g]
    unfold l1_spec_l02Reduce
    simp only
    rw [lt_f,cnd_f]
   ·rw [if_neg g,if_neg g]
    unfold l1_spec_l02Reduce
    simp only
    rw [lt_f,cnd_f])
 rw [if_pos (Nat.zero_le _),show ((0 : Nat) : Int) = 0 from rfl,show mkR 0 (newR p n out u k q) = [] from rfl] at this
 rw [this,bs]
 by_cases g : out.length ≤ q
 ·have e1 : newR p n out u k q out.length = u := by unfold newR;rw [if_neg (by omega),if_pos (by omega)]
  rw [if_pos g]
  simp only
  rw [Bool.not_false,cnd_t,appO_of (by rw [mkR_len];simp;omega),bs]
  congr 1
  rw [← hsn,e1]
 ·rw [if_neg g]
  simp only
  rw [Bool.not_true,cnd_f]
end
end Go.Pl

namespace Go.Pl
open Go Go.Ab Go.Wk Go.Pc
theorem sp_sum {p : Int} {n : Nat} {R out : Mx} {cf : Nat → Int} (ho : ∀ i,i < out.length → Sp p n R (out.getD i [])) {u : List Int} (hu : ∀ j,j < n → at0 u j % p = (S out.length fun k => cf k * ent out k j) % p) : Sp p n R u :=
 sp_trans ho ⟨cf,fun j hj => (hu j hj).symm⟩
theorem Red.len_le {p : Int} {n : Nat} {R : Mx} {pv : Nat → Nat} (h : Red p n R pv) : R.length ≤ n := by
 have key : ∀ i,i < R.length → i ≤ pv i := by
  intro i
  induction i with
  | zero => intro _;omega
  | succ i ih =>
   intro hi
   have h1 := ih (by omega)
   have h2 := h.mono i (i + 1) (by omega) hi
   omega
 rcases Nat.eq_zero_or_pos R.length with g | g
 ·omega
 ·have h1 := key (R.length - 1) (by omega)
  have h2 := h.lt (R.length - 1) (by omega)
  omega
theorem getD_snoc {xs : Mx} {v : List Int} {i : Nat} (h : i < xs.length) : (xs ++ [v]).getD i [] = xs.getD i [] := by
 simp only [List.getD_eq_getElem?_getD,List.getElem?_append_left h]
theorem getD_last {xs : Mx} {v : List Int} : (xs ++ [v]).getD xs.length [] = v := by simp [List.getD_eq_getElem?_getD]
section
variable {p : Int} (hp : Prime p) {n : Nat} (hn : n ≤ 100000)
 include hp hn
theorem scale_spec {w : List Int} (hw : Row p n w) {r : Int} (h0 : 0 ≤ r) (h1 : r ≤ p - 1) : f_spec_l02Scale p r w = some (mkv n fun j => (at0 w j * r) % p) := by
 have h7 := hp.pos
 unfold f_spec_l02Scale
 rw [hw.1,lenOk_nat (by omega),bs,l02Add_spec hp (z0_row (by omega)) hw ⟨by omega,by omega⟩ (by omega),bs]
 congr 1
 refine mkv_congr fun j hj => ?_
 rw [show at0 (z0 n) j = 0 from by simp [z0,at0,List.getD_eq_getElem?_getD,hj],Int.zero_add,Int.mul_comm]
variable {rows : Mx} (hm : rows.length ≤ 600000) (hr : ∀ i,i < rows.length → Row p n (rows.getD i []))
 include hm hr
theorem reduce_specL : ∃ R pv,f_spec_l02Reduce p rows = some R ∧ (Red p n R pv ∧ R.length ≤ rows.length) ∧ SpEq p n R rows := by
 have h7 := hp.pos
 unfold f_spec_l02Reduce
 have main := loopO_tot (body := l2_spec_l02Reduce p rows) (s := ([],0)) (Q := fun R => ∃ pv,(Red p n R pv ∧ R.length ≤ rows.length) ∧ SpEq p n R rows)
  (fun i s => ∃ (out : Mx) (pv : Nat → Nat),s = (out,(i : Int)) ∧ Red p n out pv ∧ SpEq p n out (rows.take i) ∧ out.length ≤ i ∧ i ≤ rows.length) rows.length (fun i s hi hI => ?_) (fun s hI => ?_) ⟨[],fun _ => 0,rfl,Red.empty,by rw [List.take_zero];exact SpEq.refl,Nat.zero_le _,Nat.zero_le _⟩
 ·obtain ⟨R,h1,pv,h2,h3⟩ := main
  rw [h1,bs]
  exact ⟨R,pv,rfl,h2,h3⟩
 ·obtain ⟨out,pv,rfl,h,hs,hl,_⟩ := hI
  have hon : out.length ≤ n := h.len_le
  left
  have hv := hr i hi
  have hw := cl_row hp hn h hv out.length
  have hcl := clear_spec hp hn h hv (by omega)
  have hpz := cl_piv hp hn h hv out.length (Nat.le_refl _)
  obtain ⟨cf,hcf⟩ := cl_comb hp hn h hv out.length (Nat.le_refl _)
  obtain ⟨k,k1,k2,k3,k4⟩ := lead_spec hw.1 (by omega)
  have htk : rows.take (i + 1) = rows.take i ++ [rows.getD i []] := by
   rw [List.take_succ_eq_append_getElem hi,List.getD_eq_getElem?_getD,List.getElem?_eq_getElem hi];rfl
  have hti : (rows.take i).length = i := by rw [List.length_take];omega
  have hup : ∀ u,Sp p n (rows.take i) u → Sp p n (rows.take (i + 1)) u := fun u hu => sp_trans (fun a ha => by
   have := sp_row (p := p) (n := n) (R := rows.take (i + 1)) (i := a) (by rw [htk,List.length_append];omega)
   rw [htk,getD_snoc ha,← htk] at this;exact this) hu
  have hvs : Sp p n (rows.take (i + 1)) (rows.getD i []) := by
   have := sp_row (p := p) (n := n) (R := rows.take (i + 1)) (i := i) (by rw [htk,List.length_append,hti];simp)
   rw [htk] at this
   have e : (rows.take i ++ [rows.getD i []]).getD i [] = rows.getD i [] := by
    have := getD_last (xs := rows.take i) (v := rows.getD i [])
    rw [hti] at this;exact this
   rw [e,← htk] at this;exact this
  by_cases hkn : k = n
  ·
   refine ⟨(out,((i + 1 : Nat) : Int)),?_,out,pv,rfl,h,⟨fun a ha => hup _ (hs.1 a ha),fun a ha => ?_⟩,by omega,by omega⟩
   ·unfold l2_spec_l02Reduce
    simp only
    rw [lt_t hi,cnd_t,ixO_d [] hi]
    simp only [bs,hcl,k2]
    rw [hw.1,beq_t (by omega),cnd_t,rng_of (by omega) (by omega),bs,cs]
   ·rw [htk,List.length_append,hti,List.length_singleton] at ha
    rw [htk]
    rcases Nat.lt_or_ge a i with g | g
    ·rw [getD_snoc (by omega)];exact hs.2 a (by omega)
    ·have : a = i := by omega
     subst this
     have e : (rows.take a ++ [rows.getD a []]).getD a [] = rows.getD a [] := by
      have := getD_last (xs := rows.take a) (v := rows.getD a [])
      rw [hti] at this;exact this
     rw [e]
     refine sp_sum (out := out) (cf := fun q => -1 * cf q) (fun a ha => sp_row ha) fun j hj => ?_
     have h1 := hcf j hj
     rw [k3 j (by omega)] at h1
     rw [S_congr (g := fun q => -1 * (cf q * ent out q j)) (fun q _ => by rw [Int.mul_assoc]),S_mul']
     have h2 : (at0 (rows.getD a []) j + S out.length fun q => cf q * ent out q j) % p = 0 := by rw [← h1];rfl
     rw [show at0 (rows.getD a []) j = (at0 (rows.getD a []) j + S out.length fun q => cf q * ent out q j) + -1 * (S out.length fun q => cf q * ent out q j) from by omega,Int.add_emod,h2,Int.zero_add,Int.emod_emod]
  ·have hk : k < n := by omega
   have hwk := hw.2 k hk
   have hne := k4 hk
   obtain ⟨r,r1,r2,r3,r4⟩ := inv_spec hp (x := at0 (cl p n out pv (rows.getD i []) out.length) k) (by omega) (by omega)
   have hsc := scale_spec hp hn hw r2 r3
   have hu : Row p n (mkv n fun j => (at0 (cl p n out pv (rows.getD i []) out.length) j * r) % p) := ⟨mkv_length _ _,fun j hj => by
    have e1 := Int.emod_nonneg (at0 (cl p n out pv (rows.getD i []) out.length) j * r) (show p ≠ 0 by omega)
    have e2 := Int.emod_lt_of_pos (at0 (cl p n out pv (rows.getD i []) out.length) j * r) (show 0 < p by omega)
    rw [mkv_at hj];omega⟩
   have ua : ∀ j,j < n → at0 (mkv n fun j => (at0 (cl p n out pv (rows.getD i []) out.length) j * r) % p) j = (at0 (cl p n out pv (rows.getD i []) out.length) j * r) % p := fun j hj => mkv_at hj
   generalize mkv n (fun j => (at0 (cl p n out pv (rows.getD i []) out.length) j * r) % p) = u at hsc hu ua
   have u1 : at0 u k = 1 := by rw [ua k hk];exact r4
   have ul : ∀ j,j < k → at0 u j = 0 := fun j hj => by rw [ua j (by omega),k3 j hj];simp
   have up : ∀ a,a < out.length → at0 u (pv a) = 0 := fun a ha => by rw [ua _ (h.lt a ha),hpz a ha];simp
   obtain ⟨q,⟨hq,hq2⟩,hmin⟩ := least (p := fun q => q ≤ out.length ∧ (q < out.length → k < pv q)) ⟨out.length,Nat.le_refl _,fun g => by omega⟩
   have q1 : ∀ a,a < q → pv a < k := fun a ha => by
    have h1 : ¬ (k < pv a) := fun g => hmin a ha ⟨by omega,fun _ => g⟩
    have h2 : pv a ≠ k := fun e => by
     have := up a (by omega)
     rw [e,u1] at this;cases this
    omega
   have q2 : ∀ a,q ≤ a → a < out.length → k < pv a := fun a ha ha2 => by
    have h1 := hq2 (by omega)
    rcases Nat.lt_or_ge q a with g | g
    ·have := h.mono q a g ha2;omega
    ·rw [show a = q from by omega];exact h1
   have hins := insert_loop hp h hu hk u1 ul up hq q1 q2 hn (by omega) (x := (i : Int))
   have hred := insert_red hp h hu hk u1 ul up hq q1 q2
   obtain ⟨s1,s2,s3⟩ := insert_sp hp h hu hk u1 ul up hq q1 q2
   refine ⟨(mkR (out.length + 1) (newR p n out u k q),((i + 1 : Nat) : Int)),?_,_,_,rfl,hred,⟨fun a ha => ?_,fun a ha => ?_⟩,by rw [mkR_len];omega,by omega⟩
   ·unfold l2_spec_l02Reduce
    simp only
    rw [lt_t hi,cnd_t,ixO_d [] hi]
    simp only [bs,hcl,k2]
    rw [hw.1,beq_f (by omega),cnd_f,ixO_at (by rw [hw.1];exact hk)]
    simp only [bs,r1,hsc]
    cases hlo : loopO (l1_spec_l02Reduce p (out,(i : Int)) (k : Int) u) ([],false,0) with
    | none => rw [hlo] at hins;cases hins
    | some r32 =>
     rw [hlo,bs] at hins
     simp only [bs]
     obtain ⟨a1,a2⟩ := r32
     cases a2 with
     | true =>
      simp only [Bool.not_true,cnd_f] at hins ⊢
      rw [rng_of (by omega) (by omega),bs,cs,Option.some.inj hins]
     | false =>
      simp only [Bool.not_false,cnd_t] at hins ⊢
      cases hap : appO a1 [u] with
      | none => rw [hap] at hins;cases hins
      | some v33 =>
       rw [hap,bs] at hins
       simp only [bs]
       rw [rng_of (by omega) (by omega),bs,cs,Option.some.inj hins]
   ·rw [mkR_len] at ha
    rw [mkR_get ha]
    refine sp_trans (fun b hb => ?_) (s1 a ha)
    rw [List.length_append,List.length_singleton] at hb
    rcases Nat.lt_or_ge b out.length with g | g
    ·rw [getD_snoc g];exact hup _ (hs.1 b g)
    ·rw [show b = out.length from by omega,getD_last]
     have hwS : Sp p n (rows.take (i + 1)) (cl p n out pv (rows.getD i []) out.length) := by
      have hcS : Sp p n (rows.take (i + 1)) (mkv n fun j => S out.length fun k => cf k * ent out k j) := sp_sum (out := out) (cf := cf) (fun b hb => hup _ (hs.1 b hb)) fun j hj => by rw [mkv_at hj]
      refine sp_add (k := 1) hvs hcS fun j hj => ?_
      rw [hcf j hj,mkv_at hj,Int.one_mul]
     refine sp_add (k := r) (sp_zero (u := []) fun j _ => by simp [at0]) hwS fun j hj => ?_
     rw [ua j hj,Int.emod_emod,show at0 ([] : List Int) j = 0 from by simp [at0],Int.zero_add,Int.mul_comm]
   ·rw [htk,List.length_append,hti,List.length_singleton] at ha
    rw [htk]
    rcases Nat.lt_or_ge a i with g | g
    ·rw [getD_snoc (by omega)]
     exact sp_trans s2 (hs.2 a (by omega))
    ·have hai : a = i := by omega
     subst hai
     have e : (rows.take a ++ [rows.getD a []]).getD a [] = rows.getD a [] := by
      have := getD_last (xs := rows.take a) (v := rows.getD a [])
      rw [hti] at this;exact this
     rw [e]
     have hwS : Sp p n (mkR (out.length + 1) (newR p n out u k q)) (cl p n out pv (rows.getD a []) out.length) := by
      refine sp_add (k := at0 (cl p n out pv (rows.getD a []) out.length) k) (sp_zero (u := []) fun j _ => by simp [at0]) s3 fun j hj => ?_
      rw [ua j hj,show at0 ([] : List Int) j = 0 from by simp [at0],Int.zero_add]
      rw [Int.mul_emod,Int.emod_emod,← Int.mul_emod,← Int.mul_assoc,Int.mul_comm (at0 (cl p n out pv (rows.getD a []) out.length) k),Int.mul_assoc,Int.mul_emod,r4,Int.mul_one,Int.emod_emod]
     have hcS : Sp p n (mkR (out.length + 1) (newR p n out u k q)) (mkv n fun j => S out.length fun k => cf k * ent out k j) := sp_sum (out := out) (cf := cf) s2 fun j hj => by rw [mkv_at hj]
     refine sp_add (k := -1) hwS hcS fun j hj => ?_
     rw [mkv_at hj,Int.add_emod,hcf j hj,← Int.add_emod]
     congr 1;omega
 ·obtain ⟨out,pv,rfl,h,hs,hl,_⟩ := hI
  refine ⟨out,?_,pv,⟨h,hl⟩,by rw [List.take_length] at hs;exact hs⟩
  unfold l2_spec_l02Reduce
  simp only
  rw [lt_f,cnd_f]
theorem reduce_spec : ∃ R pv,f_spec_l02Reduce p rows = some R ∧ Red p n R pv ∧ SpEq p n R rows := by
 obtain ⟨R,pv,h1,h2,h3⟩ := reduce_specL hp hn hm hr
 exact ⟨R,pv,h1,h2.1,h3⟩
theorem reduce_both : ∃ R pv,f_spec_l02Reduce p rows = some R ∧ f_impl_reduceRows p rows = some R ∧ Red p n R pv ∧ SpEq p n R rows := by
 have h7 := hp.pos
 obtain ⟨R,pv,h1,h2,h3⟩ := reduce_spec hp hn hm hr
 obtain ⟨R',pv',g1,g2,g3⟩ := reduce_impl hp hn hm hr
 have e := h2.unique (by omega) g2 (h3.trans g3.symm)
 exact ⟨R,pv,h1,by rw [e];exact g1,h2,h3⟩
end
end Go.Pl

namespace Go.Pl
open Go Go.Ab Go.Wk Go.Pc
theorem map_loop {β : Type} {body : List β × Int → Option ((List β × Int) ⊕ List β)} (n : Nat) (F : Nat → β) (h : ∀ i acc,i < n → acc.length = i → body (acc,(i : Int)) = some (.inl (acc ++ [F i],((i + 1 : Nat) : Int)))) (he : ∀ acc,body (acc,(n : Int)) = some (.inr acc)) :
  loopO body ([],0) = some ((List.range n).map F) := by
 have := loopO_seq (body := body) (r := (List.range n).map F) (fun i => ((List.range i).map F,(i : Int))) n (fun i hi => by
  rw [h i _ hi (by simp),List.range_succ,List.map_append];rfl) (he _)
 exact this
end Go.Pl

namespace Go.Pl
open Go Go.Ab Go.Wk Go.Pc
abbrev gl {β : Type} (m : Nat) (F : Nat → β) : List β := (List.range m).map F
theorem gl_len {β : Type} {m : Nat} {F : Nat → β} : (gl m F).length = m := by simp [gl]
theorem gl_ix {β : Type} {m : Nat} {F : Nat → β} {i : Nat} (h : i < m) : ixO (gl m F) (i : Int) = some (F i) := by
 rw [ixO_get (by rw [gl_len];exact h)];simp [gl]
theorem gl_snoc {β : Type} {m : Nat} {F : Nat → β} : gl m F ++ [F m] = gl (m + 1) F := by simp [gl,List.range_succ]
end Go.Pl

namespace Go.Pl
open Go Go.Ab Go.Wk Go.Pc
end Go.Pl

namespace Go.Pl
open Go Go.Ab Go.Wk Go.Pc
theorem sm_le {α : Type} {c : α → Nat} {b : Nat} : ∀ {xs : List α},(∀ x ∈ xs,c x ≤ b) → sm c xs ≤ xs.length * b
 | [],_ => by simp [sm]
 | x :: xs,h => by
  have h1 := sm_le (xs := xs) fun y hy => h y (by simp [hy])
  have h2 := h x (by simp)
  simp only [sm,List.length_cons,Nat.succ_mul];omega
end Go.Pl

namespace Go.Pl
open Go Go.Ab Go.Wk Go.Pc
def totP (x : SPresentation) : Nat := c1 x.Orders + sm c1 x.Powers + sm (sm c1) x.Conjugates
def markP (x : SPresentation) (k : Int) : SPresentation := ⟨m1 k x.Orders,m2 (k + c1 x.Orders) x.Powers,m3 (k + c1 x.Orders + sm c1 x.Powers) x.Conjugates⟩
theorem totP_le {x : SPresentation} (h : SPres x) : totP x ≤ 3145728 := by
 obtain ⟨h1,h2,h3⟩ := h
 have g2 := sm2_le (x := x.Powers)
 have g3 := sm3_le (x := x.Conjugates)
 simp only [S1] at h1
 simp only [S2] at h2
 simp only [S3] at h3
 simp only [totP];omega
theorem markPresentation_eq {x : SPresentation} {k : Int} (h : SPres x) (k0 : 0 ≤ k) (k1 : k ≤ 1000000000) : f_laws_markPresentation x k = some (k + totP x,markP x k) := by
 have ht := totP_le h
 simp only [totP] at ht
 unfold f_laws_markPresentation
 rw [markInt64S h.1 k0 (by omega),bs,markInt64SS h.2.1 (by simp only;omega) (by simp only;omega),bs,markInt64SSS h.2.2 (by simp only;omega) (by simp only;omega),bs]
 simp only [totP,markP,Int.natCast_add,Int.add_assoc]
end Go.Pl

namespace Go.Pl
open Go Go.Ab Go.Wk Go.Pc
end Go.Pl

namespace Go.Pl
open Go Go.Ab Go.Wk Go.Pc
end Go.Pl

namespace Go.Pl
open Go Go.Ab Go.Wk Go.Pc
end Go.Pl

namespace Go.Pl
open Go Go.Ab Go.Wk Go.Pc
end Go.Pl

namespace Go.Pl
open Go Go.Ab Go.Wk Go.Pc
end Go.Pl

namespace Go.Pl
open Go Go.Ab Go.Wk Go.Pc
theorem at0_app {u v : List Int} {j : Nat} : at0 (u ++ v) j = if j < u.length then at0 u j else at0 v (j - u.length) := by
 simp only [at0,List.getD_eq_getElem?_getD]
 split
 ·next h => rw [List.getElem?_append_left h]
 ·next h => rw [List.getElem?_append_right (by omega)]
theorem gl_getD {F : Nat → List Int} {m i : Nat} (h : i < m) : (gl m F).getD i [] = F i := by simp [gl,List.getD_eq_getElem?_getD,h]
def ur (N i : Nat) : List Int := mkv N fun j => if j = i then 1 else 0
def wd (N : Nat) (A : Mx) : Mx := gl N fun i => A.getD i [] ++ ur N i
def Gr (p : Int) (c N : Nat) (A : Mx) (u : List Int) : Prop := ∀ j,j < c → at0 u j % p = (S N fun k => at0 u (c + k) * ent A k j) % p
section
variable {p : Int} (hp : 1 < p) {c N : Nat} {A : Mx} (hA : ∀ i,i < N → Row p c (A.getD i []))
 include hA
theorem wd_len : (wd N A).length = N := by
 have _ := hA
 exact gl_len
theorem wd_left {i j : Nat} (hi : i < N) (hj : j < c) : ent (wd N A) i j = ent A i j := by
 rw [ent,wd,gl_getD hi,at0_app,(hA i hi).1,if_pos hj]
theorem wd_right {i l : Nat} (hi : i < N) (hl : l < N) : ent (wd N A) i (c + l) = if l = i then 1 else 0 := by
 rw [ent,wd,gl_getD hi,at0_app,(hA i hi).1,if_neg (by omega),Nat.add_sub_cancel_left,ur,mkv_at hl]
 include hp
theorem wd_row {i : Nat} (hi : i < N) : Row p (c + N) ((wd N A).getD i []) := by
 refine ⟨by rw [wd,gl_getD hi,List.length_append,(hA i hi).1,ur,mkv_length],fun j hj => ?_⟩
 rcases Nat.lt_or_ge j c with g | g
 ·have := (hA i hi).2 j g
  have e := wd_left hA hi g
  simp only [ent] at e
  rw [e];exact this
 ·have e := wd_right hA (l := j - c) hi (by omega)
  rw [show c + (j - c) = j from by omega] at e
  simp only [ent] at e
  rw [e]
  split <;> omega
theorem wd_sp {u : List Int} : Sp p (c + N) (wd N A) u ↔ Gr p c N A u := by
 have _ := hp
 constructor
 ·rintro ⟨cf,hcf⟩ j hj
  rw [wd_len hA] at hcf
  rw [← hcf j (by omega)]
  refine S_mod fun k hk => ?_
  have h1 := hcf (c + k) (by omega)
  rw [S_one (k := k) hk (fun i hi hne => by rw [wd_right hA hi hk,if_neg (Ne.symm hne),Int.mul_zero]),wd_right hA hk hk,if_pos rfl,Int.mul_one] at h1
  rw [wd_left hA hk hj,Int.mul_emod,h1,← Int.mul_emod]
 ·intro h
  refine ⟨fun k => at0 u (c + k),fun j hj => ?_⟩
  rw [wd_len hA]
  rcases Nat.lt_or_ge j c with g | g
  ·rw [h j g]
   refine congrArg (· % p) (S_congr fun k hk => ?_)
   rw [wd_left hA hk g]
  ·obtain ⟨l,rfl⟩ : ∃ l,j = c + l := ⟨j - c,by omega⟩
   rw [S_one (k := l) (by omega) (fun i hi hne => by rw [wd_right hA hi (by omega),if_neg (Ne.symm hne),Int.mul_zero]),wd_right hA (by omega) (by omega),if_pos rfl,Int.mul_one]
variable {W : Mx} {pv : Nat → Nat} (hW : Red p (c + N) W pv) (hs : SpEq p (c + N) W (wd N A))
 include hW
theorem cut_at : ∃ t,t ≤ W.length ∧ (∀ i,i < t → pv i < c) ∧ ∀ i,t ≤ i → i < W.length → c ≤ pv i := by
 have _ := hA;have _ := hp
 obtain ⟨t,ht,hmin⟩ := least (p := fun t => W.length ≤ t ∨ c ≤ pv t) ⟨W.length,.inl (Nat.le_refl _)⟩
 have hlt : ∀ i,i < t → i < W.length ∧ pv i < c := fun i hi => by
  have := hmin i hi
  exact ⟨Nat.lt_of_not_le fun h => this (.inl h),Nat.lt_of_not_le fun h => this (.inr h)⟩
 refine ⟨t,Nat.le_of_not_lt fun h => ?_,fun i hi => (hlt i hi).2,fun i hi hi2 => ?_⟩
 ·have := (hlt W.length h).1;omega
 ·rcases ht with h | h
  ·omega
  ·rcases Nat.lt_or_ge t i with g | g
   ·have := hW.mono t i g hi2;omega
   ·rw [show i = t from by omega];exact h
variable {t : Nat} (ht : t ≤ W.length) (h1 : ∀ i,i < t → pv i < c) (h2 : ∀ i,t ≤ i → i < W.length → c ≤ pv i)
 include ht h1 h2
 include hs
theorem sp_W {u : List Int} : Sp p (c + N) W u ↔ Gr p c N A u := by
 have _ := hW;have _ := ht;have _ := h1;have _ := h2
 exact hs.iff.trans (wd_sp hp hA)
end
end Go.Pl

namespace Go.Pl
open Go Go.Ab Go.Wk Go.Pc
end Go.Pl

namespace Go.Pl
open Go Go.Ab Go.Wk Go.Pc
end Go.Pl

namespace Go.Pl
open Go Go.Ab Go.Wk Go.Pc
end Go.Pl

namespace Go.Pl
open Go Go.Ab Go.Wk Go.Pc
structure Nul (p : Int) (c N : Nat) (A W : Mx) (pv : Nat → Nat) (t : Nat) : Prop where
 row : ∀ i,i < N → Row p c (A.getD i [])
 len : A.length = N
 red : Red p (c + N) W pv
 sp : SpEq p (c + N) W (wd N A)
 le : t ≤ W.length
 lo : ∀ i,i < t → pv i < c
 hi : ∀ i,t ≤ i → i < W.length → c ≤ pv i
section
variable {p : Int} (hp : Prime p) {c N : Nat} (hcN : c + N ≤ 100000) {A W : Mx} {pv : Nat → Nat} {t : Nat}
 include hp hcN
theorem Nul.get (hr : ∀ i,i < N → Row p c (A.getD i [])) (hl : A.length = N) : ∃ W pv t,Nul p c N A W pv t ∧ f_spec_l02Reduce p (wd N A) = some W ∧ f_impl_reduceRows p (wd N A) = some W := by
 have h7 := hp.pos
 obtain ⟨W,pv,r1,r2,r3,r4⟩ := reduce_both hp (n := c + N) hcN (rows := wd N A) (by rw [wd_len hr];omega) (fun i hi => wd_row (by omega) hr (by rwa [wd_len hr] at hi))
 obtain ⟨t,t1,t2,t3⟩ := cut_at (by omega) hr r3
 exact ⟨W,pv,t,⟨hr,hl,r3,r4,t1,t2,t3⟩,r1,r2⟩
variable (h : Nul p c N A W pv t)
 include h
end
end Go.Pl

namespace Go.Pl
open Go Go.Ab Go.Wk Go.Pc
end Go.Pl

namespace Go.Pl
open Go Go.Ab Go.Wk Go.Pc
end Go.Pl

namespace Go.Pl
open Go Go.Ab Go.Wk Go.Pc
theorem iter_fix {α : Type} {f : α → α} {a : α} (h : f a = a) : ∀ k,iter k f a = a
 | 0 => rfl
 | k + 1 => by show iter k f (f a) = a;rw [h];exact iter_fix h k
theorem from_fuel {x : SPresentation} (h : Pres x) : ∀ (d k : Nat),k + d = x.Orders.length → Cons (suf x k) → ∀ m,d + 1 ≤ m → ∀ v,V (suf x k) v → ∃ w,V (suf x k) w ∧ mul (suf x k) v w = zeros (suf x k).length ∧ fN_spec_l10From m x k (fv k v) = some (fv k w)
 | 0,k,hk,_,m,hm,v,hv => by
  have h6 := h.os.1
  obtain ⟨m,rfl⟩ : ∃ m',m = m' + 1 := ⟨m - 1,by omega⟩
  rw [suf_nil (by omega)] at hv ⊢
  obtain rfl : v = [] := hv
  refine ⟨[],rfl,rfl,?_⟩
  show b_spec_l10From _ x k _ = _
  unfold b_spec_l10From
  rw [decide_eq_true (by omega),cnd_t,lenOk_nat (by omega),bs]
  simp only [fv,zeros,List.append_nil]
  rw [show k = x.Orders.length from by omega]
 | d + 1,k,hkd,hc,m,hm,v,hv => by
  have h6 := h.os.1
  obtain ⟨m,rfl⟩ : ∃ m',m = m' + 1 := ⟨m - 1,by omega⟩
  have hk : k < x.Orders.length := by omega
  have hpr := (h.os.2 k hk).pos
  have hcQ : Cons (suf x (k + 1)) := cons_add hc 1
  have ih := from_fuel h d (k + 1) (by omega) hcQ m (by omega)
  have G := grpAt h (by omega) hc
  have GQ := grpAt h (by omega) hcQ
  have okP := h.okAt (k := k) (by omega)
  have okQ := h.okAt (k := k + 1) (by omega)
  have hvl := fv_len h (by omega) hv
  have hsl := suf_length x (k + 1)
  obtain ⟨w1,w2⟩ := w_at h hk
  rw [suf_cons hk] at hv G okP
  obtain ⟨a,r,rfl⟩ : ∃ a r,v = a :: r := by
   cases v with
   | nil => exact hv.elim
   | cons a r => exact ⟨a,r,rfl⟩
  have hor : (lvl x k).o = at0 x.Orders k := rfl
  obtain ⟨⟨a0,a1⟩,hr⟩ := hv
  rw [hor] at a1
  obtain ⟨r',hr',hmr,hfr⟩ := ih r hr
  have hz : V (suf x (k + 1)) (zeros (suf x (k + 1)).length) := V_zeros okQ
  have hzc : zeros (lvl x k :: suf x (k + 1)).length = 0 :: zeros (suf x (k + 1)).length := rfl
  have hVc : ∀ (c : Int) (u : Vec),0 ≤ c → c < at0 x.Orders k → V (suf x (k + 1)) u → V (lvl x k :: suf x (k + 1)) (c :: u) := fun c u h0 h1 hu => ⟨⟨h0,h1⟩,hu⟩
  have e2 : mul (lvl x k :: suf x (k + 1)) (0 :: r) (0 :: r') = zeros (lvl x k :: suf x (k + 1)).length := by
   rw [mul_cons,hor,if_neg (by omega),hzc]
   show (0 : Int) :: mul (suf x (k + 1)) (iter 0 _ r) r' = _
   rw [← hmr];rfl
  show ∃ w,_ ∧ _ ∧ b_spec_l10From (fN_spec_l10From m) x k (fv k (a :: r)) = some (fv k w)
  unfold b_spec_l10From
  rw [decide_eq_false (by omega),cnd_f,own_spec (by rw [hvl];omega),bs,z_get,bs,rng_of (by omega) (by omega),bs,cs,Int.toNat_natCast,z_set,z_zero,show zeros (k + 1) ++ r = fv (k + 1) r from rfl,hfr,bs,bs]
  rw [suf_cons hk]
  by_cases ha : a = 0
  ·subst ha
   rw [show ((0 : Int) == 0) = true from rfl,cnd_t]
   exact ⟨0 :: r',hVc 0 r' (by omega) (by omega) hr',e2,by rw [fv,← z_zero]⟩
  ·rw [show (a == 0) = false from by simpa using ha,cnd_f,lenOk_nat (by omega),bs,ixO_at hk,bs,bs,rng_of (by omega) (by omega),bs,ixO_nat,List.getElem?_replicate,if_pos hk,bs]
   have htop : (List.replicate x.Orders.length (0 : Int)).set k (at0 x.Orders k - a) = zeros k ++ (at0 x.Orders k - a) :: zeros (suf x (k + 1)).length := by
    have e : List.replicate x.Orders.length (0 : Int) = zeros k ++ 0 :: zeros (x.Orders.length - (k + 1)) := by
     simp only [zeros]
     rw [← List.replicate_succ,List.replicate_append_replicate];congr 1;omega
    rw [e,z_set,hsl]
   obtain ⟨w',hw',hmw,hfw⟩ := ih (lvl x k).w w2
   have hA := hVc a _ a0 a1 hz
   have hR := hVc 0 r (by omega) (by omega) hr
   have hR' := hVc 0 r' (by omega) (by omega) hr'
   have hT := hVc (at0 x.Orders k - a) _ (by omega) (by omega) hz
   have hW := hVc 0 (lvl x k).w (by omega) (by omega) w2
   have hW' := hVc 0 w' (by omega) (by omega) hw'
   have hsz : sig (suf x (k + 1)) (lvl x k) (zeros (suf x (k + 1)).length) = zeros (suf x (k + 1)).length := by unfold sig;rw [img_zeros]
   have e1 : mul (lvl x k :: suf x (k + 1)) (a :: zeros (suf x (k + 1)).length) (0 :: r) = a :: r := by
    rw [mul_cons,hor,if_neg (by omega),show iter (0 : Int).toNat (sig (suf x (k + 1)) (lvl x k)) (zeros (suf x (k + 1)).length) = zeros (suf x (k + 1)).length from rfl,GQ.onel hr,Int.add_zero]
   have e3 : mul (lvl x k :: suf x (k + 1)) (a :: zeros (suf x (k + 1)).length) ((at0 x.Orders k - a) :: zeros (suf x (k + 1)).length) = 0 :: (lvl x k).w := by
    rw [mul_cons,hor,if_pos (by omega),iter_fix hsz,GQ.oner hz,GQ.oner w2]
    congr 1;omega
   have e4 : mul (lvl x k :: suf x (k + 1)) (0 :: (lvl x k).w) (0 :: w') = zeros (lvl x k :: suf x (k + 1)).length := by
    rw [mul_cons,hor,if_neg (by omega),hzc]
    show (0 : Int) :: mul (suf x (k + 1)) (iter 0 _ (lvl x k).w) w' = _
    rw [← hmw];rfl
   have hRT := G.cl hR' hT
   have hRTW := G.cl hRT hW'
   have spA := spec_At h (k := k) (by omega)
   rw [htop,show fv (k + 1) r' = zeros k ++ 0 :: r' from by rw [z_zero],spA _ _ (by rw [suf_cons hk];exact hR') (by rw [suf_cons hk];exact hT),bs,bs,w1,bs,hfw,bs,show fv (k + 1) w' = zeros k ++ 0 :: w' from by rw [z_zero],suf_cons hk]
   have := spA _ _ (by rw [suf_cons hk];exact hRT) (by rw [suf_cons hk];exact hW')
   rw [suf_cons hk] at this
   rw [this,bs]
   refine ⟨_,hRTW,?_,rfl⟩
   rw [← e1,G.assoc hA hR hRTW,← G.assoc hR hRT hW',← G.assoc hR hR' hT,e2,G.onel hT,← G.assoc hA hT hW',e3,e4]
theorem spec_inv {x : SPresentation} (h : Pres x) (hc : Cons (suf x 0)) {v : Vec} (hv : V (suf x 0) v) : ∃ w,V (suf x 0) w ∧ mul (suf x 0) v w = zeros (suf x 0).length ∧ f_spec_l10Inv x v = some w := by
 obtain ⟨w,h1,h2,_⟩ := from_fuel h x.Orders.length 0 (by omega) hc (x.Orders.length + 1) (by omega) v hv
 refine ⟨w,h1,h2,?_⟩
 unfold f_spec_l10Inv f_spec_l10From
 rw [fuelO_of (r := w) (x.Orders.length + 1) fun m hm => ?_,bs]
 obtain ⟨w',g1,g2,g3⟩ := from_fuel h x.Orders.length 0 (by omega) hc m hm v hv
 have G := grpAt h (by omega) hc
 have e : w = w' := G.cancel_l hv h1 g1 (by rw [h2,g2])
 rw [e];exact g3
theorem wM_img {p : Int} {D : Nat} {A : List Mx} : ∀ (v : Vec) (o : Nat) (B : Mx),o + v.length ≤ A.length → wM p D A (nw o v) B = img (PM p D) (A.drop o) v B
 | [],o,B,_ => by simp [nw,wM,img]
 | a :: v,o,B,h => by
  simp only [List.length_cons] at h
  have e : A.drop o = A.getD o [] :: A.drop (o + 1) := by
   rw [List.drop_eq_getElem_cons (by omega),List.getD_eq_getElem?_getD,List.getElem?_eq_getElem (by omega)];rfl
  rw [e]
  simp only [nw,img]
  rw [wM_append,wM_rep,wM_img v (o + 1) _ (by omega)]
theorem nw_zeros : ∀ (k o : Nat),nw o (zeros k) = []
 | 0,_ => rfl
 | k + 1,o => by
  rw [show zeros (k + 1) = 0 :: zeros k from rfl]
  simp only [nw]
  rw [nw_zeros k];rfl
section
variable {x : SPresentation} {m : SModule} {D : Nat} (h : Pres x) (hm : MOk x.Orders.length m D) (hr : RelM x m D)
 include hm
theorem mon_mat : Mon (Mat m.Prime D) (PM m.Prime D) (idM D) := by
 have h7 := hm.p.pos
 exact ⟨fun ha _ => PM_mat (by omega) ha.1,idM_mat (by omega),fun ha hb _ => PM_assoc ha.1 hb.1,fun ha => id_left ha,fun ha => id_right ha⟩
 include h hr
theorem rel_mat : ∀ (d k : Nat),k + d = x.Orders.length → Rel (PM m.Prime D) (idM D) (suf x k) (m.Actions.drop k)
 | 0,k,hk => by
  rw [suf_nil (by omega),List.drop_of_length_le (by rw [hm.len];omega)];exact rfl
 | d + 1,k,hkd => by
  have h6 := h.os.1
  have hk : k < x.Orders.length := by omega
  have hlen := hm.len
  have e : m.Actions.drop k = m.Actions.getD k [] :: m.Actions.drop (k + 1) := by
   rw [List.drop_eq_getElem_cons (by omega),List.getD_eq_getElem?_getD,List.getElem?_eq_getElem (by omega)];rfl
  obtain ⟨t1,t2,t3⟩ := h.tl k hk
  obtain ⟨r1,r2⟩ := hr k hk
  have hword : ∀ v,Exp x.Orders v k → wM m.Prime D m.Actions (nw 0 v) (idM D) = img (PM m.Prime D) (m.Actions.drop (k + 1)) (v.drop (k + 1)) (idM D) := fun v hv => by
   have hl := hv.1.1
   conv => lhs;rw [exp_split hv hk]
   rw [nw_append,nw_zeros,List.nil_append,zeros_length,wM_img _ _ _ (by rw [List.length_drop];omega),Nat.zero_add]
  rw [suf_cons hk,e]
  refine ⟨?_,fun q c dd hc hd => ?_,rel_mat d (k + 1) (by omega)⟩
  ·show pw (PM m.Prime D) (idM D) (m.Actions.getD k []) (lvl x k).o.toNat = img (PM m.Prime D) (m.Actions.drop (k + 1)) ((x.Powers.getD k []).drop (k + 1)) (idM D)
   rw [← hword _ t1,← r1,wM_rep]
   rfl
  ·rw [List.getElem?_drop] at hc
   have hq : k + 1 + q < m.Actions.length := by
    rcases Nat.lt_or_ge (k + 1 + q) m.Actions.length with g | g
    ·exact g
    ·rw [List.getElem?_eq_none g] at hc;simp at hc
   have hcm : c = m.Actions.getD (k + 1 + q) [] := by rw [List.getD_eq_getElem?_getD,hc];rfl
   have hdm : dd = ((x.Conjugates.getD k []).getD q []).drop (k + 1) := by
    simp only [lvl,List.getElem?_map] at hd
    rw [List.getD_eq_getElem?_getD]
    cases hg : (x.Conjugates.getD k [])[q]? with
    | none => rw [hg] at hd;simp at hd
    | some u => rw [hg] at hd;simp only [Option.map_some,Option.some.injEq] at hd;exact hd.symm
   have := r2 (k + 1 + q) (by omega) (by omega)
   rw [show k + 1 + q - (k + 1) = q from by omega] at this
   rw [hcm,hdm,this,hword _ (t3 q (by omega))]
def actM (m : SModule) (D : Nat) (v : Vec) : Mx := wM m.Prime D m.Actions (nw 0 v) (idM D)
theorem act_img {v : Vec} (hv : V (suf x 0) v) : actM m D v = img (PM m.Prime D) m.Actions v (idM D) := by
 have _ := hr
 have hl := (V_at h.os x.Orders.length 0 v (by omega) hv).1
 have := wM_img (p := m.Prime) (D := D) (A := m.Actions) v 0 (idM D) (by rw [hm.len];omega)
 rw [List.drop_zero] at this
 exact this
theorem act_mul {u v : Vec} (hu : V (suf x 0) u) (hv : V (suf x 0) v) : actM m D (mul (suf x 0) u v) = PM m.Prime D (actM m D u) (actM m D v) := by
 have ok := h.okAt (k := 0) (by omega)
 have R := rel_mat h hm hr x.Orders.length 0 (by omega)
 rw [List.drop_zero] at R
 rw [act_img h hm hr hu,act_img h hm hr hv,act_img h hm hr (mul_in ok hu hv)]
 refine dyck (mon_mat hm) (suf x 0) m.Actions ok (fun g hg => ?_) R u v hu hv
 obtain ⟨i,hi,rfl⟩ := List.mem_iff_getElem.1 hg
 have := hm.mat i (by rw [← hm.len];exact hi)
 rwa [List.getD_eq_getElem?_getD,List.getElem?_eq_getElem hi] at this
theorem act_zero {k : Nat} : actM m D (zeros k) = idM D := by
 have _ := hr;have _ := h;have _ := hm
 rw [actM,nw_zeros];rfl
theorem act_unit {i : Nat} (hi : i < x.Orders.length) : actM m D (unit x.Orders.length i) = m.Actions.getD i [] := by
 have _ := hr;have _ := h
 rw [actM,unit_eq hi,nw_append,nw_zeros,List.nil_append,zeros_length,Nat.zero_add]
 show wM m.Prime D m.Actions (nw i (1 :: zeros _)) (idM D) = _
 simp only [nw]
 rw [nw_zeros]
 show PM m.Prime D (idM D) (m.Actions.getD i []) = _
 exact id_left (hm.mat i hi)
theorem inv_act (hc : Cons (suf x 0)) {i : Nat} (hi : i < x.Orders.length) : ∃ w,f_spec_l07Unit (x.Orders.length : Int) (i : Int) = some (unit x.Orders.length i) ∧ f_spec_l10Inv x (unit x.Orders.length i) = some w ∧ V (suf x 0) w ∧ f_spec_l21Act m w = some (actM m D w) ∧ Mat m.Prime D (actM m D w) ∧
  PM m.Prime D (m.Actions.getD i []) (actM m D w) = idM D ∧ PM m.Prime D (actM m D w) (m.Actions.getD i []) = idM D := by
 have h6 := h.os.1
 have h7 := hm.p.pos
 have ok := h.okAt (k := 0) (by omega)
 have G := grpAt h (by omega) hc
 have hsl : (suf x 0).length = x.Orders.length := by rw [suf_length];omega
 have hu : V (suf x 0) (unit x.Orders.length i) := by
  have := V_unit ok (j := i) (by omega)
  rwa [hsl] at this
 obtain ⟨w,w1,w2,w3⟩ := spec_inv h hc hu
 obtain ⟨b,b1,b2,b3⟩ := G.invl hu
 have ebw : b = w := G.cancel_l hu b1 w1 (by rw [b2,w2])
 rw [ebw] at b3
 have hwl := V_at h.os x.Orders.length 0 w (by omega) w1
 refine ⟨w,?_,w3,w1,?_,wM_mat (by omega) _ (idM_mat h7.1),?_,?_⟩
 ·unfold f_spec_l07Unit
  rw [lenOk_nat (by omega),bs,ixO_nat,List.getElem?_replicate,if_pos hi,bs,Int.toNat_natCast]
  rfl
 ·refine act_spec hm h6 hwl.1 fun j hj => ?_
  have := hwl.2 j hj
  rw [Nat.zero_add] at this
  have := (h.os.2 j hj).pos
  omega
 ·rw [← act_unit h hm hr hi,← act_mul h hm hr hu w1,w2,act_zero h hm hr]
 ·rw [← act_unit h hm hr hi,← act_mul h hm hr w1 hu,b3,act_zero h hm hr]
end
end Go.Pl

namespace Go.Pl
open Go Go.Ab Go.Wk Go.Pc
theorem withIdentity_impl {p : Int} {c N : Nat} (hcN : c + N ≤ 100000) {A : Mx} (hr : ∀ i,i < N → Row p c (A.getD i [])) (hl : A.length = N) : f_impl_withIdentity A = some (wd N A) := by
 unfold f_impl_withIdentity
 rw [map_loop (body := l1_impl_withIdentity A) N (fun i => A.getD i [] ++ ur N i) (fun i acc hi ha => by
  have h1 := (hr i hi).1
  have e : splice (List.replicate (c + N) (0 : Int)) 0 ((A.getD i []).take (((List.replicate (c + N) (0 : Int)).length) - 0)) = A.getD i [] ++ List.replicate N 0 := by
   unfold splice
   rw [List.length_replicate,List.take_of_length_le (l := A.getD i []) (by omega),List.take_zero,List.nil_append,h1,List.drop_replicate]
   congr 2;omega
  have e2 : ixO (A.getD i [] ++ List.replicate N (0 : Int)) ((c + i : Nat) : Int) = some 0 := by
   rw [ixO_nat,List.getElem?_append_right (by omega),h1,List.getElem?_replicate,if_pos (by omega)]
  unfold l1_impl_withIdentity
  simp only
  rw [hl,lt_t hi,cnd_t,ixO_d [] (by omega),bs,h1,← Int.natCast_add,rng_of (by omega) (by omega),bs,lenOk_nat (by omega),bs,← Int.natCast_add,rng_of (by omega) (by omega),bs,e,e2,bs,Int.toNat_natCast,List.set_append_right _ _ (by omega),h1,Nat.add_sub_cancel_left,mkv_zero,mkv_set,appO_of (by simp;omega),bs,rng_of (by omega) (by omega),bs,cs]
  rfl) (fun acc => by
  unfold l1_impl_withIdentity
  simp only
  rw [hl,lt_f,cnd_f]),bs]
 rfl
def trM (D : Nat) (A : Mx) : Mx := gl D fun j => mkv D fun i => ent A i j
theorem tr_rows {D : Nat} (hD : D ≤ 3) {p : Int} {A : Mx} (hA : Mat p D A) {body : List (List Int) × Int → List Int × Int → Option ((List Int × Int) ⊕ List Int)} {st : List (List Int) × Int} {j : Nat} (hj : j < D) (hs : st.2 = (j : Int))
  (hb : ∀ (acc : List Int) (i : Int),body st (acc,i) = cond (decide (i < (A.length : Int))) ((ixO A i).bind fun v1 => (ixO v1 st.2).bind fun v2 => (appO acc [v2]).bind fun v3 => (rng (i + 1)).bind fun v4 => some (.inl (v3,v4))) (some (.inr acc))) : loopO (body st) ([],0) = some (mkv D fun i => ent A i j) :=
 map_loop D (fun i => ent A i j) (fun i acc hi ha => by
  obtain ⟨a1,a2,_,_⟩ := ent_ix hA hi hj
  rw [hb,hA.1,lt_t hi,cnd_t,a1,bs,hs,a2,bs,appO_of (by simp;omega),bs,rng_of (by omega) (by omega),bs,cs]) (fun acc => by
  rw [hb,hA.1,lt_f,cnd_f])
theorem columns_spec {D : Nat} (hD : D ≤ 3) {p : Int} {A : Mx} (hA : Mat p D A) : f_spec_l21Columns A = some (trM D A) := by
 unfold f_spec_l21Columns
 rw [map_loop (body := l2_spec_l21Columns A) D (fun j => mkv D fun i => ent A i j) (fun j acc hj ha => by
  unfold l2_spec_l21Columns
  simp only
  rw [hA.1,lt_t hj,cnd_t,tr_rows hD hA (body := l1_spec_l21Columns A) hj rfl (fun acc i => rfl),bs,appO_of (by simp;omega),bs,rng_of (by omega) (by omega),bs,cs]) (fun acc => by
  unfold l2_spec_l21Columns
  simp only
  rw [hA.1,lt_f,cnd_f]),bs]
 rfl
theorem transposed_impl {D : Nat} (hD : D ≤ 3) {p : Int} {A : Mx} (hA : Mat p D A) : f_impl_transposed (SMatrix.mk p (D : Int) A) = some (SMatrix.mk p (D : Int) (trM D A)) := by
 unfold f_impl_transposed
 rw [map_loop (body := l2_impl_transposed (SMatrix.mk p (D : Int) A)) D (fun j => mkv D fun i => ent A i j) (fun j acc hj ha => by
  unfold l2_impl_transposed
  simp only
  rw [lt_t hj,cnd_t,tr_rows hD hA (body := l1_impl_transposed (SMatrix.mk p (D : Int) A)) hj rfl (fun acc i => rfl),bs,appO_of (by simp;omega),bs,rng_of (by omega) (by omega),bs,cs]) (fun acc => by
  unfold l2_impl_transposed
  simp only
  rw [lt_f,cnd_f]),bs]
 simp only
 rw [hA.1]
 rfl
section
variable {p : Int} (hp : Prime p) {D : Nat} (hD : D ≤ 3) {A Y : Mx} (hA : Mat p D A) (hY : Mat p D Y) (h1 : PM p D A Y = idM D) (h2 : PM p D Y A = idM D)
 include hp hD hA hY h1 h2
def iv (D : Nat) (Y : Mx) : Mx := gl D fun i => ur D i ++ Y.getD i []
 omit hp hD hA h1 h2 in
theorem iv_left {i j : Nat} (hi : i < D) (hj : j < D) : ent (iv D Y) i j = if j = i then 1 else 0 := by
  have _ := hY
  rw [ent,iv,gl_getD hi,at0_app,ur,mkv_length,if_pos hj,mkv_at hj]
 omit hp hD hA h1 h2 in
theorem iv_right {i j : Nat} (hi : i < D) : ent (iv D Y) i (D + j) = ent Y i j := by
  have _ := hY
  rw [ent,iv,gl_getD hi,at0_app,ur,mkv_length,if_neg (by omega),Nat.add_sub_cancel_left]
theorem iv_red : Red p (D + D) (iv D Y) (fun i => i) := by
 have h7 := hp.pos
 have _ := hD;have _ := hA;have _ := h1;have _ := h2
 have hl : (iv D Y).length = D := gl_len
 refine ⟨fun i hi => ?_,fun i hi => by omega,fun i hi => ?_,fun i hi j hj => ?_,fun i k hi hk hne => ?_,fun i j hij hj => hij⟩
 ·rw [hl] at hi
  refine ⟨by rw [iv,gl_getD hi,List.length_append,ur,mkv_length,(hY.2 i hi).1],fun j hj => ?_⟩
  rcases Nat.lt_or_ge j D with g | g
  ·have e := iv_left hY hi g
   simp only [ent] at e
   rw [e];split <;> omega
  ·have e := iv_right hY (j := j - D) hi
   rw [show D + (j - D) = j from by omega] at e
   simp only [ent] at e
   rw [e];exact (hY.2 i hi).2 (j - D) (by omega)
 ·rw [hl] at hi
  rw [iv_left hY hi hi,if_pos rfl]
 ·rw [hl] at hi
  rw [iv_left hY hi (by omega),if_neg (by omega)]
 ·rw [hl] at hi hk
  rw [iv_left hY hk hi,if_neg (Ne.symm hne)]
theorem inv_ent {B C : Mx} (hB : Mat p D B) (h : PM p D B C = idM D) {i j : Nat} (hi : i < D) (hj : j < D) : (S D fun l => ent B i l * ent C l j) % p = if j = i then 1 else 0 := by
 have _ := hp;have _ := hD;have _ := hA;have _ := hY;have _ := h1;have _ := h2
 rw [← PM_ent hB.1 hi hj,h,ent,idM_get hi,mkv_at hj]
theorem iv_is {W : Mx} {pv : Nat → Nat} {t : Nat} (h : Nul p D D A W pv t) : W = iv D Y := by
 have h7 := hp.pos
 have hl : (iv D Y).length = D := gl_len
 refine h.red.unique (by omega) (iv_red hp hD hA hY h1 h2) ⟨fun q hq => ?_,fun i hi => ?_⟩
 ·have hg := (sp_W (by omega) h.row h.red h.sp h.le h.lo h.hi).1 (sp_row (p := p) (n := D + D) (R := W) (i := q) hq)
  refine ⟨fun i => ent W q i,fun j hj => ?_⟩
  rw [hl]
  rcases Nat.lt_or_ge j D with g | g
  ·rw [S_one (k := j) g (fun i hi hne => by rw [iv_left hY hi g,if_neg (Ne.symm hne),Int.mul_zero]),iv_left hY g g,if_pos rfl,Int.mul_one]
  ·obtain ⟨l,rfl⟩ : ∃ l,j = D + l := ⟨j - D,by omega⟩
   have e1 : (S D fun i => ent W q i * ent (iv D Y) i (D + l)) % p = (S D fun i => (S D fun k => ent W q (D + k) * ent A k i) * ent Y i l) % p := S_mod fun i hi => by
    rw [iv_right hY hi,Int.mul_emod,show ent W q i % p = _ from hg i hi,← Int.mul_emod]
   have e2 : (S D fun i => (S D fun k => ent W q (D + k) * ent A k i) * ent Y i l) = S D fun k => ent W q (D + k) * S D fun i => ent A k i * ent Y i l := by
    rw [S_congr (g := fun i => S D fun k => ent W q (D + k) * (ent A k i * ent Y i l)) (fun i hi => by
     rw [← S_mul];exact S_congr fun k _ => by rw [Int.mul_assoc]),S_swap]
    exact S_congr fun k _ => by rw [S_mul']
   have e3 : (S D fun k => ent W q (D + k) * S D fun i => ent A k i * ent Y i l) % p = (S D fun k => ent W q (D + k) * if l = k then 1 else 0) % p := S_mod fun k hk => by
    rw [Int.mul_emod,inv_ent hp hD hA hY h1 h2 hA h1 hk (by omega),Int.mul_emod (ent W q (D + k)) (if l = k then 1 else 0)]
    congr 2
    split
    ·rw [Int.emod_eq_of_lt (by omega) (by omega)]
    ·rfl
   rw [e1,e2,e3,S_one (k := l) (by omega) (fun k _ hne => by rw [if_neg (Ne.symm hne),Int.mul_zero]),if_pos rfl,Int.mul_one]
 ·rw [hl] at hi
  refine (sp_W (by omega) h.row h.red h.sp h.le h.lo h.hi).2 fun j hj => ?_
  have e1 := iv_left hY hi hj
  simp only [ent] at e1
  have e2 := inv_ent hp hD hA hY h1 h2 hY h2 hi hj
  have e3 : (S D fun k => at0 ((iv D Y).getD i []) (D + k) * ent A k j) = S D fun k => ent Y i k * ent A k j := S_congr fun k _ => by
   have := iv_right hY (j := k) hi
   simp only [ent] at this
   rw [this]
  rw [e1,e3,e2]
  split
  ·rw [Int.emod_eq_of_lt (by omega) (by omega)]
  ·rfl
theorem inverseOf_impl : f_impl_inverseOf (SMatrix.mk p (D : Int) A) = some (SMatrix.mk p (D : Int) Y,true) := by
 have h7 := hp.pos
 obtain ⟨W,pv,t,w1,_,w3⟩ := Nul.get hp (c := D) (N := D) (by omega) hA.2 hA.1
 have hw := iv_is hp hD hA hY h1 h2 w1
 subst hw
 have hl : (iv D Y).length = D := gl_len
 unfold f_impl_inverseOf
 simp only
 rw [withIdentity_impl (p := p) (c := D) (N := D) (by omega) hA.2 hA.1,bs,w3,bs]
 have := loopO_seq (body := l1_impl_inverseOf (SMatrix.mk p (D : Int) A) (iv D Y)) (r := .inl Y) (fun i => (gl i fun k => Y.getD k [],(i : Int))) D (fun i hi => by
  have hY1 := (hY.2 i hi).1
  have hlen : (ur D i ++ Y.getD i []).length = D + D := by rw [List.length_append,ur,mkv_length,hY1]
  have e1 := iv_left hY hi hi
  rw [if_pos rfl,ent,iv,gl_getD hi] at e1
  have e2 : sliceO (ur D i ++ Y.getD i []) (D : Int) ((ur D i ++ Y.getD i []).length : Int) = some (Y.getD i []) := by
   unfold sliceO
   rw [if_pos ⟨by omega,by omega,by omega⟩,Int.toNat_natCast,Int.toNat_natCast,List.take_of_length_le (by rw [List.length_drop];omega),List.drop_append_of_le_length (by rw [ur,mkv_length];omega),List.drop_of_length_le (by rw [ur,mkv_length];omega),List.nil_append]
  unfold l1_impl_inverseOf
  simp only
  rw [hl,lt_t hi,cnd_t,iv,gl_ix hi,bs,ixO_at (by rw [hlen];omega),bs,e1,bne_self_eq_false,cnd_f,hA.1,e2,bs,clone_impl (by omega),bs,appO_of (by rw [gl_len];simp;omega),bs,rng_of (by omega) (by omega),bs,cs,gl_snoc]) (by
  unfold l1_impl_inverseOf
  simp only
  rw [hl,lt_f,cnd_f,show gl D (fun k => Y.getD k []) = Y from (mkR_eq hY.1).symm])
 have e : loopO (l1_impl_inverseOf (SMatrix.mk p (D : Int) A) (iv D Y)) ([],0) = some (.inl Y) := this
 rw [e,bs]
end
theorem mats_small {D n : Nat} {F : Nat → Mx} (hD : D ≤ 3) (hn : n ≤ 6) (h : ∀ i,i < n → (F i).length = D ∧ ∀ r ∈ F i,r.length = D) : S3 (gl n F) := by
 have hl : (gl n F).length = n := gl_len
 have h1 : sm c2 (gl n F) ≤ (gl n F).length * 12 := sm_le fun x hx => by
  obtain ⟨i,hi,rfl⟩ := List.mem_map.1 hx
  obtain ⟨g1,g2⟩ := h i (List.mem_range.1 hi)
  have := sm_le (c := c1) (b := 3) (xs := F i) fun r hr => by rw [c1,g2 r hr];exact hD
  simp only [c2];omega
 simp only [S3,c3];omega
theorem DualModule_agree {x : SPresentation} {m : SModule} (hx : SPres x) (hm : SMod m) : ∃ g k,f_spec_DualModule x m = some (g,k) ∧ f_impl_DualModule x m = some (g,k) ∧ SMod g := by
 have hl : x.Orders.length ≤ 1048576 := hx.1
 have hml := S3.len hm
 have hnil : SMod (SModule.mk 0 0 []) := by simp [SMod,S3,c3,sm]
 unfold f_spec_DualModule f_impl_DualModule
 rcases (IsModule_spec (m := m) hl).both (isModule_impl (m := m) hl hml) with ⟨s1,i1,hM⟩ | ⟨s1,i1,hM⟩
 ·obtain ⟨⟨hP,hC⟩,D,hD,hR⟩ := hM
  have h6 := hP.os.1
  have h3 := hD.d3
  have h7 := hD.p.pos
  have hex : ∀ i,∃ w,i < x.Orders.length → f_spec_l07Unit (x.Orders.length : Int) (i : Int) = some (unit x.Orders.length i) ∧ f_spec_l10Inv x (unit x.Orders.length i) = some w ∧ V (suf x 0) w ∧ f_spec_l21Act m w = some (actM m D w) ∧ Mat m.Prime D (actM m D w) ∧
    PM m.Prime D (m.Actions.getD i []) (actM m D w) = idM D ∧ PM m.Prime D (actM m D w) (m.Actions.getD i []) = idM D := fun i => by
   by_cases hi : i < x.Orders.length
   ·obtain ⟨w,hw⟩ := inv_act hP hD hR hC hi
    exact ⟨w,fun _ => hw⟩
   ·exact ⟨[],fun h => absurd h hi⟩
  have hw := fun i => Classical.choose_spec (hex i)
  let w : Nat → Vec := fun i => Classical.choose (hex i)
  have e1 : loopO (l1_spec_DualModule x m) ([],0) = some (gl x.Orders.length fun i => trM D (actM m D (w i))) :=
   map_loop x.Orders.length (fun i => trM D (actM m D (w i))) (fun i acc hi ha => by
    obtain ⟨w1,w2,w3,w4,w5,w6,w7⟩ := hw i hi
    unfold l1_spec_DualModule
    simp only
    rw [hD.len,lt_t hi,cnd_t,w1,bs,w2,bs,w4,bs,columns_spec h3 w5,bs,appO_of (by simp;omega),bs,rng_of (by omega) (by omega),bs,cs]) (fun acc => by
    unfold l1_spec_DualModule
    simp only
    rw [hD.len,lt_f,cnd_f])
  have e2 : loopO (l1_impl_DualModule x m) ([],0) = some (gl x.Orders.length fun i => trM D (actM m D (w i))) :=
   map_loop x.Orders.length (fun i => trM D (actM m D (w i))) (fun i acc hi ha => by
    obtain ⟨w1,w2,w3,w4,w5,w6,w7⟩ := hw i hi
    unfold l1_impl_DualModule
    simp only
    rw [lt_t hi,cnd_t,actionAt_impl hD h6 hi,bs,inverseOf_impl hD.p h3 (hD.mat i hi) w5 w6 w7,bs]
    simp only
    rw [transposed_impl h3 w5,bs,appO_of (by simp;omega),bs,rng_of (by omega) (by omega),bs,cs]) (fun acc => by
    unfold l1_impl_DualModule
    simp only
    rw [lt_f,cnd_f])
  simp only [s1,i1,bs,Bool.not_true,cnd_f]
  rw [e1,e2,bs]
  refine ⟨_,_,rfl,rfl,mats_small h3 h6 fun i _ => ⟨gl_len,fun r hr => ?_⟩⟩
  obtain ⟨j,_,rfl⟩ := List.mem_map.1 hr
  exact mkv_length _ _
 ·simp only [s1,i1,bs,Bool.not_false,cnd_t]
  exact ⟨_,_,rfl,rfl,hnil⟩
theorem law_DualModule (x0 : SPresentation) (x1 : SModule) (v0 : VPres x0) (v1 : VMod x1)
  (h : SPres x0 → SMod x1 → ∃ g k,f_spec_DualModule x0 x1 = some (g,k) ∧ f_impl_DualModule x0 x1 = some (g,k) ∧ SMod g) : f_laws_FnExactDualModule x0 x1 = some true := by
 unfold f_laws_FnExactDualModule
 rw [szPresentation v0 (by decide) (by decide),bs]
 rcases sz_case (c := cPres x0) (b := 1048576) (by decide) (by decide) with e | ⟨e,a1,a2,a3⟩ <;> rw [e]
 ·rfl
 rw [cnd_f,szModule v1 a1 a2,bs]
 rcases sz_case (c := cMod x1) a1 a2 with e | ⟨e,b1,b2,b3⟩ <;> rw [e]
 ·rfl
 have s0 := SPres.of a3
 have s1 := SMod.of b3
 obtain ⟨g,k,hs,hi,sg⟩ := h s0 s1
 have t0 := totP_le s0
 have q1 := sm3_le (x := x1.Actions)
 have q3 := sm3_le (x := g.Actions)
 simp only [cMod] at b3
 have sg' := sg
 simp only [SMod,S3] at sg'
 rw [cnd_f,toPresentation s0,bs,toModule s1,bs]
 simp only [bs]
 rw [hs,bs,hi,bs]
 simp only
 rw [eqModule sg,bs]
 simp only [Bool.not_true,cnd_f,bne_self_eq_false]
 rw [eqPresentation s0,bs,Bool.not_true,cnd_f,eqModule s1,bs,Bool.not_true,cnd_f,markPresentation_eq s0 (by decide) (by decide),bs]
 simp only
 rw [markModule s1 (by omega) (by omega),bs]
 simp only
 rw [decide_eq_false (by omega),cnd_f,bs,Bool.not_true,cnd_f]
 rw [markModule sg (by decide) (by decide),bs]
 simp only
 rw [heldModule sg (by decide) (by decide),bs,decide_eq_false (by omega),cnd_f,bne_self_eq_false,cnd_f,bs]
 simp only
 rw [eqModule sg,bs,Bool.not_true,cnd_f,bne_self_eq_false,cnd_f,bs,decide_eq_false (by omega),cnd_f,bne_self_eq_false,cnd_f]
theorem DualModule_plain (x0 : SPresentation) (x1 : SModule) (v0 : VPres x0) (v1 : VMod x1) : f_laws_FnExactDualModule x0 x1 = some true :=
 law_DualModule x0 x1 v0 v1 DualModule_agree
end Go.Pl
