/- The program and the reference return the same least submodules, for all arguments (FnExactSubmoduleOf). This file is a part of the proof. -/
import Derived.Test.YtjbinegfmombcaaGreatPlA
namespace Go.Pl
open Go Go.Ab Go.Wk Go.Pc
theorem lead_spec {v : List Int} {n : Nat} (hl : v.length = n) (hn : n ≤ 1000000) : ∃ k : Nat,k ≤ n ∧ f_spec_l02Lead v = some (k : Int) ∧ (∀ j,j < k → at0 v j = 0) ∧ (k < n → at0 v k ≠ 0) := by
 unfold f_spec_l02Lead
 rcases chk (body := l1_spec_l02Lead v) n 0 (Nat.zero_le _) (fun i => at0 v i = 0) (fun i => (i : Int)) (fun i _ hi _ => by
   unfold l1_spec_l02Lead
   rw [hl,lt_t hi,cnd_t,ixO_at (by omega),bs]
   by_cases h : at0 v i = 0
   ·rw [bne_f h,cnd_f,rng_of (by omega) (by omega),bs,cs];exact .inl ⟨rfl,h⟩
   ·rw [bne_t h,cnd_t];exact .inr ⟨rfl,h⟩) (by
   unfold l1_spec_l02Lead
   rw [hl,lt_f,cnd_f]) with ⟨h1,h2⟩ | ⟨i,_,hi,h1,h2⟩
 ·rw [show ((0 : Nat) : Int) = 0 from rfl] at h1
  rw [h1,bs]
  exact ⟨n,Nat.le_refl _,by simp only [hl],fun j hj => h2 j (Nat.zero_le _) hj,fun h => by omega⟩
 ·rw [show ((0 : Nat) : Int) = 0 from rfl] at h1
  rw [h1,bs]
  obtain ⟨k,⟨hk1,hk2⟩,hmin⟩ := least (p := fun k => k < n ∧ at0 v k ≠ 0) ⟨i,hi,h2⟩
  have hz : ∀ j,j < k → at0 v j = 0 := fun j hj => Classical.byContradiction fun h => hmin j hj ⟨by omega,h⟩
  have hki : k = i := by
   have hloop : ∀ q,q ≤ k → loopO (l1_spec_l02Lead v) ((k - q : Nat) : Int) = some (.inr (k : Int)) := by
    intro q
    induction q with
    | zero =>
     intro _
     rw [loopO_eq]
     have e : l1_spec_l02Lead v ((k - 0 : Nat) : Int) = some (.inr (.inr (k : Int))) := by
      unfold l1_spec_l02Lead
      rw [show k - 0 = k from rfl,hl,lt_t hk1,cnd_t,ixO_at (by omega),bs,bne_t hk2,cnd_t]
     rw [e]
    | succ q ih =>
     intro hq
     rw [loopO_eq]
     have e : l1_spec_l02Lead v ((k - (q + 1) : Nat) : Int) = some (.inl ((k - q : Nat) : Int)) := by
      unfold l1_spec_l02Lead
      rw [hl,lt_t (by omega),cnd_t,ixO_at (by omega),bs,bne_f (hz _ (by omega)),cnd_f,rng_of (by omega) (by omega),bs,cs,show k - (q + 1) + 1 = k - q from by omega]
     rw [e];exact ih (by omega)
   have := hloop k (Nat.le_refl _)
   rw [Nat.sub_self,show ((0 : Nat) : Int) = 0 from rfl,h1] at this
   have := Sum.inr.inj (Option.some.inj this)
   omega
  exact ⟨i,by omega,rfl,by rw [← hki];exact hz,fun _ => h2⟩
theorem lead_is {v : List Int} {n k : Nat} (hl : v.length = n) (hn : n ≤ 1000000) (hk : k < n) (h0 : ∀ j,j < k → at0 v j = 0) (h1 : at0 v k ≠ 0) : f_spec_l02Lead v = some (k : Int) := by
 obtain ⟨q,q1,q2,q3,q4⟩ := lead_spec hl hn
 have : q = k := by
  rcases Nat.lt_trichotomy q k with g | g | g
  ·exact absurd (h0 q g) (q4 (by omega))
  ·exact g
  ·exact absurd (q3 k g) h1
 rw [q2,this]
theorem inv_spec {p x : Int} (hp : Prime p) (h0 : 1 ≤ x) (h1 : x ≤ p - 1) : ∃ r,f_spec_l01Inv x p = some r ∧ 0 ≤ r ∧ r ≤ p - 1 ∧ (x * r) % p = 1 := by
 have h7 := hp.pos
 have hx : ∃ k : Nat,1 ≤ k ∧ (k : Int) < p ∧ (x * (k : Int)) % p = 1 := by
  obtain ⟨r,_,r1,r2,r3⟩ := inverse_impl hp h0 h1
  refine ⟨r.toNat,?_,by omega,by rw [Int.toNat_of_nonneg r1];exact r3⟩
  rcases Int.lt_or_eq_of_le r1 with g | g
  ·omega
  ·rw [← g] at r3;simp at r3
 obtain ⟨k,⟨k1,k2,k3⟩,hmin⟩ := least hx
 have body : ∀ i : Nat,1 ≤ i → (i : Int) < p → l1_spec_l01Inv x p (i : Int) = cond ((x * (i : Int)) % p == 1) (some (.inr (.inr (i : Int)))) (some (.inl ((i + 1 : Nat) : Int))) := fun i hi hip => by
  have a3 := Int.mul_nonneg (show 0 ≤ x by omega) (show 0 ≤ (i : Int) by omega)
  have a4 := mulk_small hp (k := (i : Int)) ⟨by omega,by omega⟩ (b := x) ⟨by omega,h1⟩
  rw [Int.mul_comm] at a4
  unfold l1_spec_l01Inv
  rw [decide_eq_true hip,cnd_t,mod_spec hp (by omega) (by omega),bs,Int.emod_eq_of_lt (by omega) (by omega),rng_of (by omega) (by omega),bs]
  unfold remO
  rw [if_neg (by omega),bs,Int.tmod_eq_emod_of_nonneg a3]
  by_cases hh : (x * (i : Int)) % p = 1
  ·rw [beq_t hh,cnd_t,cnd_t]
  ·rw [beq_f hh,cnd_f,cnd_f,rng_of (by omega) (by omega),bs,cs]
 have hloop : ∀ q,q + 1 ≤ k → loopO (l1_spec_l01Inv x p) ((k - q : Nat) : Int) = some (.inr (k : Int)) := by
  intro q
  induction q with
  | zero =>
   intro _
   rw [loopO_eq,show k - 0 = k from rfl,body k k1 k2,beq_t k3,cnd_t]
  | succ q ih =>
   intro hq
   have hne : (x * ((k - (q + 1) : Nat) : Int)) % p ≠ 1 := fun h => hmin (k - (q + 1)) (by omega) ⟨by omega,by omega,h⟩
   rw [loopO_eq,body _ (by omega) (by omega),beq_f hne,cnd_f,show k - (q + 1) + 1 = k - q from by omega]
   exact ih (by omega)
 have := hloop (k - 1) (by omega)
 rw [show k - (k - 1) = 1 from by omega,show ((1 : Nat) : Int) = 1 from rfl] at this
 refine ⟨(k : Int),?_,by omega,by omega,k3⟩
 unfold f_spec_l01Inv
 rw [this,bs]
section
variable {p : Int} (hp : Prime p) {n : Nat} (hn : n ≤ 100000)
 include hp hn
theorem addM_p {r s : List Int} (hr : Row p n r) : addM p n r p s = r := by
 have _ := hp
 have _ := hn
 conv => rhs;rw [mkv_eq hr.1]
 refine mkv_congr fun j hj => ?_
 have := hr.2 j hj
 rw [Int.add_mul_emod_self_left];exact Int.emod_eq_of_lt this.1 (by omega)
def cl (p : Int) (n : Nat) (out : Mx) (pv : Nat → Nat) (v : List Int) : Nat → List Int
 | 0 => v
 | i + 1 => addM p n (cl p n out pv v i) (p - at0 (cl p n out pv v i) (pv i)) (out.getD i [])
variable {out : Mx} {pv : Nat → Nat} (h : Red p n out pv) {v : List Int} (hv : Row p n v)
 include h hv
theorem cl_row : ∀ i,Row p n (cl p n out pv v i) := by
 have _ := hn
 have _ := h
 intro i
 cases i with
 | zero => exact hv
 | succ i => exact addM_row hp
theorem cl_piv : ∀ i,i ≤ out.length → ∀ k,k < i → at0 (cl p n out pv v i) (pv k) = 0 := by
 have _ := hn;have _ := hv
 have h7 := hp.pos
 intro i
 induction i with
 | zero => intro _ k hk;omega
 | succ i ih =>
  intro hi k hk
  have hlt := h.lt k (by omega)
  rw [cl,addM,mkv_at hlt]
  rcases Nat.lt_or_ge k i with g | g
  ·have h1 := ih (by omega) k g
   have h2 := h.off k i (by omega) (by omega) (by omega)
   simp only [ent] at h2
   rw [h1,h2];simp
  ·have hki : k = i := by omega
   subst hki
   have h2 := h.one k (by omega)
   simp only [ent] at h2
   rw [h2,Int.mul_one,show at0 (cl p n out pv v k) (pv k) + (p - at0 (cl p n out pv v k) (pv k)) = p from by omega,Int.emod_self]
theorem cl_comb : ∀ i,i ≤ out.length → ∃ cf : Nat → Int,∀ j,j < n → at0 (cl p n out pv v i) j % p = (at0 v j + S out.length fun k => cf k * ent out k j) % p := by
 have _ := hp;have _ := h;have _ := hv
 have _ := hn
 intro i
 induction i with
 | zero => intro _;exact ⟨fun _ => 0,fun j _ => by rw [S_congr (g := fun _ => 0) (fun i _ => by simp),S_zero,Int.add_zero];rfl⟩
 | succ i ih =>
  intro hi
  obtain ⟨cf,hcf⟩ := ih (by omega)
  refine ⟨fun k => cf k + (if k = i then p - at0 (cl p n out pv v i) (pv i) else 0),fun j hj => ?_⟩
  have e1 : (S out.length fun k => (cf k + (if k = i then p - at0 (cl p n out pv v i) (pv i) else 0)) * ent out k j) = (S out.length fun k => cf k * ent out k j) + (p - at0 (cl p n out pv v i) (pv i)) * ent out i j := by
   rw [S_congr (g := fun k => cf k * ent out k j + (if k = i then p - at0 (cl p n out pv v i) (pv i) else 0) * ent out k j) (fun k _ => by rw [Int.add_mul]),S_add,S_one (f := fun k => (if k = i then p - at0 (cl p n out pv v i) (pv i) else 0) * ent out k j) (k := i) (by omega) (fun k _ hk => by simp [hk])]
   simp
  rw [e1,cl,addM,mkv_at hj,Int.emod_emod,← Int.add_assoc,Int.add_emod,hcf j hj,← Int.add_emod]
theorem clear_spec (hm : out.length ≤ 100000) : f_spec_l02Clear p out v = some (cl p n out pv v out.length) := by
 have h7 := hp.pos
 unfold f_spec_l02Clear
 rw [own_spec (by rw [hv.1];omega),bs]
 have := loopO_seq (body := l1_spec_l02Clear p out) (r := cl p n out pv v out.length) (fun i => (cl p n out pv v i,(i : Int))) out.length (fun i hi => by
  have hr := cl_row hp hn h hv i
  have ho := h.row i hi
  have hlt := h.lt i hi
  have hone := h.one i hi
  have hlow := h.low i hi
  simp only [ent] at hone hlow
  have he := hr.2 (pv i) hlt
  unfold l1_spec_l02Clear
  simp only
  rw [lt_t hi,cnd_t,ixO_d [] hi,bs,lead_is ho.1 (by omega) hlt hlow (by rw [hone];decide),bs,hr.1,lt_t hlt,cnd_t,ixO_at (by rw [hr.1];exact hlt),bs]
  by_cases hz : at0 (cl p n out pv v i) (pv i) = 0
  ·rw [bne_f hz,cnd_f,rng_of (by omega) (by omega),bs,cs,cl,hz,Int.sub_zero,addM_p hp hn hr]
  ·rw [bne_t hz,cnd_t,bs,rng_of (by omega) (by omega),bs,bs,l02Add_spec hp hr ho ⟨by omega,by omega⟩ (by omega),bs,rng_of (by omega) (by omega),bs,cs]
   rfl) (by
  unfold l1_spec_l02Clear
  simp only
  rw [lt_f,cnd_f])
 rw [show ((0 : Nat) : Int) = 0 from rfl] at this
 simp only [cl] at this
 rw [this,bs]
end
end Go.Pl

namespace Go.Pl
open Go Go.Ab Go.Wk Go.Pc
section
variable {p : Int} (hp : Prime p) {n : Nat} {out : Mx} {pv : Nat → Nat} (h : Red p n out pv) {u : List Int} {k q : Nat} (hu : Row p n u) (hk : k < n) (u1 : at0 u k = 1) (ul : ∀ j,j < k → at0 u j = 0) (up : ∀ i,i < out.length → at0 u (pv i) = 0) (hq : q ≤ out.length) (q1 : ∀ i,i < q → pv i < k) (q2 : ∀ i,q ≤ i → i < out.length → k < pv i)
def oth (p : Int) (n : Nat) (out : Mx) (u : List Int) (k i : Nat) : List Int := addM p n (out.getD i []) (p - at0 (out.getD i []) k) u
def newR (p : Int) (n : Nat) (out : Mx) (u : List Int) (k q i : Nat) : List Int := if i < q then oth p n out u k i else if i = q then u else oth p n out u k (i - 1)
def newP (pv : Nat → Nat) (k q i : Nat) : Nat := if i < q then pv i else if i = q then k else pv (i - 1)
 include hp h hu hk u1 ul up hq q1 q2
theorem oth_at {i j : Nat} (hj : j < n) : at0 (oth p n out u k i) j = (at0 (out.getD i []) j - at0 (out.getD i []) k * at0 u j) % p := by
 have _ := hp;have _ := h;have _ := hu;have _ := hk;have _ := u1;have _ := ul;have _ := up;have _ := hq;have _ := q1;have _ := q2
 rw [oth,addM,mkv_at hj,show at0 (out.getD i []) j + (p - at0 (out.getD i []) k) * at0 u j = at0 (out.getD i []) j - at0 (out.getD i []) k * at0 u j + p * at0 u j from by rw [Int.sub_mul];omega,Int.add_mul_emod_self_left]
theorem oth_same {i j : Nat} (hi : i < out.length) (hj : j < n) (hz : at0 (out.getD i []) k = 0 ∨ at0 u j = 0) : at0 (oth p n out u k i) j = ent out i j := by
 rw [oth_at hp h hu hk u1 ul up hq q1 q2 hj]
 have := (h.row i hi).2 j hj
 have e : at0 (out.getD i []) k * at0 u j = 0 := by rcases hz with g | g <;> rw [g] <;> simp
 rw [e,Int.sub_zero];exact Int.emod_eq_of_lt this.1 (by omega)
theorem oth_k {i : Nat} : at0 (oth p n out u k i) k = 0 := by
 rw [oth_at hp h hu hk u1 ul up hq q1 q2 hk,u1,Int.mul_one,Int.sub_self];rfl
theorem oth_low {i j : Nat} (hi : i < out.length) (hj : j < pv i) (hne : pv i ≠ k) : at0 (oth p n out u k i) j = 0 := by
 have hlt := h.lt i hi
 rcases Nat.lt_or_ge (pv i) k with g | g
 ·rw [oth_same hp h hu hk u1 ul up hq q1 q2 hi (by omega) (.inr (ul j (by omega)))];exact h.low i hi j hj
 ·have := h.low i hi k (by omega)
  rw [oth_same hp h hu hk u1 ul up hq q1 q2 hi (by omega) (.inl this)];exact h.low i hi j hj
theorem pv_ne {i : Nat} (hi : i < out.length) : pv i ≠ k := by
 have _ := h;have _ := q1;have _ := q2
 have _ := hp;have _ := hu;have _ := hk;have _ := ul;have _ := hq
 intro e
 have := up i hi
 rw [e,u1] at this;cases this
theorem new_cases {i : Nat} (hi : i < out.length + 1) : (i = q ∧ newR p n out u k q i = u ∧ newP pv k q i = k) ∨ ∃ a,a < out.length ∧ (i < q ∧ a = i ∨ q < i ∧ i = a + 1) ∧ newR p n out u k q i = oth p n out u k a ∧ newP pv k q i = pv a := by
 have _ := hp;have _ := h;have _ := hu;have _ := hk;have _ := u1;have _ := ul;have _ := up;have _ := q1;have _ := q2
 unfold newR newP
 rcases Nat.lt_trichotomy i q with g | g | g
 ·exact .inr ⟨i,by omega,.inl ⟨g,rfl⟩,by rw [if_pos g],by rw [if_pos g]⟩
 ·exact .inl ⟨g,by rw [if_neg (by omega),if_pos g],by rw [if_neg (by omega),if_pos g]⟩
 ·exact .inr ⟨i - 1,by omega,.inr ⟨g,by omega⟩,by rw [if_neg (by omega),if_neg (by omega)],by rw [if_neg (by omega),if_neg (by omega)]⟩
theorem insert_red : Red p n (mkR (out.length + 1) (newR p n out u k q)) (newP pv k q) := by
 have nc := fun i hi => new_cases hp h hu hk u1 ul up hq q1 q2 (i := i) hi
 have pn := fun i hi => pv_ne hp h hu hk u1 ul up hq q1 q2 (i := i) hi
 refine ⟨fun i hi => ?_,fun i hi => ?_,fun i hi => ?_,fun i hi j hj => ?_,fun i j hi hj hne => ?_,fun i j hij hj => ?_⟩ <;> rw [mkR_len] at *
 ·rw [mkR_get hi]
  rcases nc i hi with ⟨_,e,_⟩ | ⟨a,_,_,e,_⟩ <;> rw [e]
  ·exact hu
  ·exact addM_row hp
 ·rcases nc i hi with ⟨_,_,e⟩ | ⟨a,ha,_,_,e⟩ <;> rw [e]
  ·exact hk
  ·exact h.lt a ha
 ·rw [mkR_ent hi]
  rcases nc i hi with ⟨_,e1,e2⟩ | ⟨a,ha,_,e1,e2⟩ <;> rw [e1,e2]
  ·exact u1
  ·rw [oth_same hp h hu hk u1 ul up hq q1 q2 ha (h.lt a ha) (.inr (up a ha))];exact h.one a ha
 ·rw [mkR_ent hi]
  rcases nc i hi with ⟨_,e1,e2⟩ | ⟨a,ha,_,e1,e2⟩ <;> rw [e2] at hj <;> rw [e1]
  ·exact ul j hj
  ·exact oth_low hp h hu hk u1 ul up hq q1 q2 ha hj (pn a ha)
 ·rw [mkR_ent hj]
  rcases nc i hi with ⟨g1,_,e2⟩ | ⟨a,ha,ga,_,e2⟩ <;> rw [e2] <;> rcases nc j hj with ⟨g3,e3,_⟩ | ⟨b,hb,gb,e3,_⟩ <;> rw [e3]
  ·omega
  ·exact oth_k hp h hu hk u1 ul up hq q1 q2
  ·exact up a ha
  ·rw [oth_same hp h hu hk u1 ul up hq q1 q2 hb (h.lt a ha) (.inr (up a ha))]
   exact h.off a b ha hb (by omega)
 ·rcases nc i (by omega) with ⟨g1,_,e2⟩ | ⟨a,ha,ga,_,e2⟩ <;> rw [e2] <;> rcases nc j hj with ⟨g3,_,e4⟩ | ⟨b,hb,gb,_,e4⟩ <;> rw [e4]
  ·omega
  ·exact q2 b (by omega) hb
  ·exact q1 a (by omega)
  ·exact h.mono a b (by omega) hb
theorem insert_sp : (∀ i,i < out.length + 1 → Sp p n (out ++ [u]) (newR p n out u k q i)) ∧ (∀ i,i < out.length → Sp p n (mkR (out.length + 1) (newR p n out u k q)) (out.getD i [])) ∧ Sp p n (mkR (out.length + 1) (newR p n out u k q)) u := by
 have hul : Sp p n (out ++ [u]) u := by
  have := sp_row (p := p) (n := n) (R := out ++ [u]) (i := out.length) (by simp)
  simpa [List.getD_eq_getElem?_getD] using this
 have hol : ∀ i,i < out.length → Sp p n (out ++ [u]) (out.getD i []) := fun i hi => by
  have := sp_row (p := p) (n := n) (R := out ++ [u]) (i := i) (by simp;omega)
  simpa [List.getD_eq_getElem?_getD,List.getElem?_append_left hi] using this
 have hoth : ∀ i,i < out.length → Sp p n (out ++ [u]) (oth p n out u k i) := fun i hi =>
  sp_add (k := p - at0 (out.getD i []) k) (hol i hi) hul fun j hj => by rw [oth,addM,mkv_at hj,Int.emod_emod]
 have hsu : Sp p n (mkR (out.length + 1) (newR p n out u k q)) u := by
  have := sp_mkR_row (p := p) (n := n) (m := out.length + 1) (F := newR p n out u k q) (i := q) (by omega)
  rw [show newR p n out u k q q = u from by unfold newR;rw [if_neg (by omega),if_pos rfl]] at this
  exact this
 refine ⟨fun i hi => ?_,fun i hi => ?_,hsu⟩
 ·rcases new_cases hp h hu hk u1 ul up hq q1 q2 hi with ⟨_,e,_⟩ | ⟨a,ha,_,e,_⟩ <;> rw [e]
  ·exact hul
  ·exact hoth a ha
 ·have hi2 : ∃ b,b < out.length + 1 ∧ newR p n out u k q b = oth p n out u k i := by
   rcases Nat.lt_or_ge i q with g | g
   ·exact ⟨i,by omega,by unfold newR;rw [if_pos g]⟩
   ·exact ⟨i + 1,by omega,by unfold newR;rw [if_neg (by omega),if_neg (by omega)];rfl⟩
  obtain ⟨b,hb,e⟩ := hi2
  have h1 := sp_mkR_row (p := p) (n := n) (m := out.length + 1) (F := newR p n out u k q) hb
  rw [e] at h1
  refine sp_add (k := at0 (out.getD i []) k) h1 hsu fun j hj => ?_
  rw [oth_at hp h hu hk u1 ul up hq q1 q2 hj,Int.add_emod,Int.emod_emod,← Int.add_emod,show at0 (out.getD i []) j - at0 (out.getD i []) k * at0 u j + at0 (out.getD i []) k * at0 u j = at0 (out.getD i []) j from by omega]
theorem insert_loop (hn : n ≤ 100000) (hm : out.length ≤ 100000) {x : Int} :
  ((loopO (l1_spec_l02Reduce p (out,x) (k : Int) u) ([],false,0)).bind fun r32 => cond (!r32.2) ((appO r32.1 [u]).bind fun v33 => some v33) (some r32.1)) = some (mkR (out.length + 1) (newR p n out u k q)) := by
 have _ := u1;have _ := ul;have _ := up
 have h7 := hp.pos
 have ho : ∀ i,i < out.length → f_spec_l02Add p (out.getD i []) (p - at0 (out.getD i []) k) u = some (oth p n out u k i) ∧ ixO (out.getD i []) (k : Int) = some (at0 (out.getD i []) k) ∧ 0 ≤ at0 (out.getD i []) k ∧ at0 (out.getD i []) k ≤ p - 1 ∧ f_spec_l02Lead (out.getD i []) = some (pv i : Int) := fun i hi => by
  have hr := h.row i hi
  have hk2 := hr.2 k hk
  have hone := h.one i hi
  have hlow := h.low i hi
  simp only [ent] at hone hlow
  exact ⟨by rw [l02Add_spec hp hr hu ⟨by omega,by omega⟩ (by omega)];rfl,ixO_at (by rw [hr.1];exact hk),hk2.1,hk2.2,lead_is hr.1 (by omega) (h.lt i hi) hlow (by rw [hone];decide)⟩
 have hsn : ∀ {m : Nat} {F : Nat → List Int},mkR m F ++ [F m] = mkR (m + 1) F := fun {m F} => by simp [mkR,List.range_succ]
 have := loopO_seq (body := l1_spec_l02Reduce p (out,x) (k : Int) u) (r := (if out.length ≤ q then (mkR out.length (newR p n out u k q),false) else (mkR (out.length + 1) (newR p n out u k q),true)))
  (fun j => if j ≤ q then (mkR j (newR p n out u k q),false,(j : Int)) else (mkR (j + 1) (newR p n out u k q),true,(j : Int))) out.length (fun j hj => by
   obtain ⟨a1,a2,a3,a4,a5⟩ := ho j hj
   have hrg : rng (p - at0 (out.getD j []) k) = some (p - at0 (out.getD j []) k) := rng_of (by omega) (by omega)
   rcases Nat.lt_trichotomy j q with g | g | g
   ·have hpj := q1 j g
    rw [if_pos (by omega),if_pos (by omega)]
    unfold l1_spec_l02Reduce
    simp only
    rw [lt_t hj,cnd_t,Bool.not_false,cnd_t,ixO_d [] hj]
    simp only [bs,a5]
    rw [decide_eq_false (by omega),cnd_f,a2]
    simp only [bs,hrg,a1]
    rw [appO_of (by rw [mkR_len];simp;omega),bs,rng_of (by omega) (by omega),bs,cs]
    have : newR p n out u k q j = oth p n out u k j := by unfold newR;rw [if_pos g]
    rw [← this,hsn]
   ·subst g
    have hpj := q2 j (Nat.le_refl _) hj
    rw [if_pos (by omega),if_neg (by omega)]
    unfold l1_spec_l02Reduce
    simp only
    rw [lt_t hj,cnd_t,Bool.not_false,cnd_t,ixO_d [] hj]
    simp only [bs,a5]
    rw [decide_eq_true (by omega),cnd_t,appO_of (by rw [mkR_len];simp;omega),a2]
    simp only [bs,hrg,a1]
    have e1 : newR p n out u k j j = u := by unfold newR;rw [if_neg (by omega),if_pos rfl]
    have e2 : newR p n out u k j (j + 1) = oth p n out u k j := by unfold newR;rw [if_neg (by omega),if_neg (by omega)];rfl
    have e3 : mkR j (newR p n out u k j) ++ [u] = mkR (j + 1) (newR p n out u k j) := by rw [← hsn,e1]
    rw [e3,appO_of (by rw [mkR_len];simp;omega),bs,rng_of (by omega) (by omega),bs,cs,← e2,hsn]
   ·rw [if_neg (by omega),if_neg (by omega)]
    unfold l1_spec_l02Reduce
    simp only
    rw [lt_t hj,cnd_t,Bool.not_true,cnd_f,ixO_d [] hj]
    simp only [bs,a2,hrg,a1]
    have e2 : newR p n out u k q (j + 1) = oth p n out u k j := by unfold newR;rw [if_neg (by omega),if_neg (by omega)];rfl
    rw [appO_of (by rw [mkR_len];simp;omega),bs,rng_of (by omega) (by omega),bs,cs,← e2,hsn]) (by
   by_cases g : out.length ≤ q
   ·rw [if_pos g,if_pos g]
    unfold l1_spec_l02Reduce
    simp only
    rw [lt_f,cnd_f]
   ·rw [if_neg g,if_neg g]
    unfold l1_spec_l02Reduce
    simp only
    rw [lt_f,cnd_f])
 rw [if_pos (Nat.zero_le _),show ((0 : Nat) : Int) = 0 from rfl,show mkR 0 (newR p n out u k q) = [] from rfl] at this
 rw [this,bs]
 by_cases g : out.length ≤ q
 ·have e1 : newR p n out u k q out.length = u := by unfold newR;rw [if_neg (by omega),if_pos (by omega)]
  rw [if_pos g]
  simp only
  rw [Bool.not_false,cnd_t,appO_of (by rw [mkR_len];simp;omega),bs]
  congr 1
  rw [← hsn,e1]
 ·rw [if_neg g]
  simp only
  rw [Bool.not_true,cnd_f]
end
end Go.Pl

namespace Go.Pl
open Go Go.Ab Go.Wk Go.Pc
theorem sp_sum {p : Int} {n : Nat} {R out : Mx} {cf : Nat → Int} (ho : ∀ i,i < out.length → Sp p n R (out.getD i [])) {u : List Int} (hu : ∀ j,j < n → at0 u j % p = (S out.length fun k => cf k * ent out k j) % p) : Sp p n R u :=
 sp_trans ho ⟨cf,fun j hj => (hu j hj).symm⟩
theorem Red.len_le {p : Int} {n : Nat} {R : Mx} {pv : Nat → Nat} (h : Red p n R pv) : R.length ≤ n := by
 have key : ∀ i,i < R.length → i ≤ pv i := by
  intro i
  induction i with
  | zero => intro _;omega
  | succ i ih =>
   intro hi
   have h1 := ih (by omega)
   have h2 := h.mono i (i + 1) (by omega) hi
   omega
 rcases Nat.eq_zero_or_pos R.length with g | g
 ·omega
 ·have h1 := key (R.length - 1) (by omega)
  have h2 := h.lt (R.length - 1) (by omega)
  omega
theorem getD_snoc {xs : Mx} {v : List Int} {i : Nat} (h : i < xs.length) : (xs ++ [v]).getD i [] = xs.getD i [] := by
 simp only [List.getD_eq_getElem?_getD,List.getElem?_append_left h]
theorem getD_last {xs : Mx} {v : List Int} : (xs ++ [v]).getD xs.length [] = v := by simp [List.getD_eq_getElem?_getD]
section
variable {p : Int} (hp : Prime p) {n : Nat} (hn : n ≤ 100000)
 include hp hn
theorem scale_spec {w : List Int} (hw : Row p n w) {r : Int} (h0 : 0 ≤ r) (h1 : r ≤ p - 1) : f_spec_l02Scale p r w = some (mkv n fun j => (at0 w j * r) % p) := by
 have h7 := hp.pos
 unfold f_spec_l02Scale
 rw [hw.1,lenOk_nat (by omega),bs,l02Add_spec hp (z0_row (by omega)) hw ⟨by omega,by omega⟩ (by omega),bs]
 congr 1
 refine mkv_congr fun j hj => ?_
 rw [show at0 (z0 n) j = 0 from by simp [z0,at0,List.getD_eq_getElem?_getD,hj],Int.zero_add,Int.mul_comm]
variable {rows : Mx} (hm : rows.length ≤ 600000) (hr : ∀ i,i < rows.length → Row p n (rows.getD i []))
 include hm hr
theorem reduce_specL : ∃ R pv,f_spec_l02Reduce p rows = some R ∧ (Red p n R pv ∧ R.length ≤ rows.length) ∧ SpEq p n R rows := by
 have h7 := hp.pos
 unfold f_spec_l02Reduce
 have main := loopO_tot (body := l2_spec_l02Reduce p rows) (s := ([],0)) (Q := fun R => ∃ pv,(Red p n R pv ∧ R.length ≤ rows.length) ∧ SpEq p n R rows)
  (fun i s => ∃ (out : Mx) (pv : Nat → Nat),s = (out,(i : Int)) ∧ Red p n out pv ∧ SpEq p n out (rows.take i) ∧ out.length ≤ i ∧ i ≤ rows.length) rows.length (fun i s hi hI => ?_) (fun s hI => ?_) ⟨[],fun _ => 0,rfl,Red.empty,by rw [List.take_zero];exact SpEq.refl,Nat.zero_le _,Nat.zero_le _⟩
 ·obtain ⟨R,h1,pv,h2,h3⟩ := main
  rw [h1,bs]
  exact ⟨R,pv,rfl,h2,h3⟩
 ·obtain ⟨out,pv,rfl,h,hs,hl,_⟩ := hI
  have hon : out.length ≤ n := h.len_le
  left
  have hv := hr i hi
  have hw := cl_row hp hn h hv out.length
  have hcl := clear_spec hp hn h hv (by omega)
  have hpz := cl_piv hp hn h hv out.length (Nat.le_refl _)
  obtain ⟨cf,hcf⟩ := cl_comb hp hn h hv out.length (Nat.le_refl _)
  obtain ⟨k,k1,k2,k3,k4⟩ := lead_spec hw.1 (by omega)
  have htk : rows.take (i + 1) = rows.take i ++ [rows.getD i []] := by
   rw [List.take_succ_eq_append_getElem hi,List.getD_eq_getElem?_getD,List.getElem?_eq_getElem hi];rfl
  have hti : (rows.take i).length = i := by rw [List.length_take];omega
  have hup : ∀ u,Sp p n (rows.take i) u → Sp p n (rows.take (i + 1)) u := fun u hu => sp_trans (fun a ha => by
   have := sp_row (p := p) (n := n) (R := rows.take (i + 1)) (i := a) (by rw [htk,List.length_append];omega)
   rw [htk,getD_snoc ha,← htk] at this;exact this) hu
  have hvs : Sp p n (rows.take (i + 1)) (rows.getD i []) := by
   have := sp_row (p := p) (n := n) (R := rows.take (i + 1)) (i := i) (by rw [htk,List.length_append,hti];simp)
   rw [htk] at this
   have e : (rows.take i ++ [rows.getD i []]).getD i [] = rows.getD i [] := by
    have := getD_last (xs := rows.take i) (v := rows.getD i [])
    rw [hti] at this;exact this
   rw [e,← htk] at this;exact this
  by_cases hkn : k = n
  ·
   refine ⟨(out,((i + 1 : Nat) : Int)),?_,out,pv,rfl,h,⟨fun a ha => hup _ (hs.1 a ha),fun a ha => ?_⟩,by omega,by omega⟩
   ·unfold l2_spec_l02Reduce
    simp only
    rw [lt_t hi,cnd_t,ixO_d [] hi]
    simp only [bs,hcl,k2]
    rw [hw.1,beq_t (by omega),cnd_t,rng_of (by omega) (by omega),bs,cs]
   ·rw [htk,List.length_append,hti,List.length_singleton] at ha
    rw [htk]
    rcases Nat.lt_or_ge a i with g | g
    ·rw [getD_snoc (by omega)];exact hs.2 a (by omega)
    ·have : a = i := by omega
     subst this
     have e : (rows.take a ++ [rows.getD a []]).getD a [] = rows.getD a [] := by
      have := getD_last (xs := rows.take a) (v := rows.getD a [])
      rw [hti] at this;exact this
     rw [e]
     refine sp_sum (out := out) (cf := fun q => -1 * cf q) (fun a ha => sp_row ha) fun j hj => ?_
     have h1 := hcf j hj
     rw [k3 j (by omega)] at h1
     rw [S_congr (g := fun q => -1 * (cf q * ent out q j)) (fun q _ => by rw [Int.mul_assoc]),S_mul']
     have h2 : (at0 (rows.getD a []) j + S out.length fun q => cf q * ent out q j) % p = 0 := by rw [← h1];rfl
     rw [show at0 (rows.getD a []) j = (at0 (rows.getD a []) j + S out.length fun q => cf q * ent out q j) + -1 * (S out.length fun q => cf q * ent out q j) from by omega,Int.add_emod,h2,Int.zero_add,Int.emod_emod]
  ·have hk : k < n := by omega
   have hwk := hw.2 k hk
   have hne := k4 hk
   obtain ⟨r,r1,r2,r3,r4⟩ := inv_spec hp (x := at0 (cl p n out pv (rows.getD i []) out.length) k) (by omega) (by omega)
   have hsc := scale_spec hp hn hw r2 r3
   have hu : Row p n (mkv n fun j => (at0 (cl p n out pv (rows.getD i []) out.length) j * r) % p) := ⟨mkv_length _ _,fun j hj => by
    have e1 := Int.emod_nonneg (at0 (cl p n out pv (rows.getD i []) out.length) j * r) (show p ≠ 0 by omega)
    have e2 := Int.emod_lt_of_pos (at0 (cl p n out pv (rows.getD i []) out.length) j * r) (show 0 < p by omega)
    rw [mkv_at hj];omega⟩
   have ua : ∀ j,j < n → at0 (mkv n fun j => (at0 (cl p n out pv (rows.getD i []) out.length) j * r) % p) j = (at0 (cl p n out pv (rows.getD i []) out.length) j * r) % p := fun j hj => mkv_at hj
   generalize mkv n (fun j => (at0 (cl p n out pv (rows.getD i []) out.length) j * r) % p) = u at hsc hu ua
   have u1 : at0 u k = 1 := by rw [ua k hk];exact r4
   have ul : ∀ j,j < k → at0 u j = 0 := fun j hj => by rw [ua j (by omega),k3 j hj];simp
   have up : ∀ a,a < out.length → at0 u (pv a) = 0 := fun a ha => by rw [ua _ (h.lt a ha),hpz a ha];simp
   obtain ⟨q,⟨hq,hq2⟩,hmin⟩ := least (p := fun q => q ≤ out.length ∧ (q < out.length → k < pv q)) ⟨out.length,Nat.le_refl _,fun g => by omega⟩
   have q1 : ∀ a,a < q → pv a < k := fun a ha => by
    have h1 : ¬ (k < pv a) := fun g => hmin a ha ⟨by omega,fun _ => g⟩
    have h2 : pv a ≠ k := fun e => by
     have := up a (by omega)
     rw [e,u1] at this;cases this
    omega
   have q2 : ∀ a,q ≤ a → a < out.length → k < pv a := fun a ha ha2 => by
    have h1 := hq2 (by omega)
    rcases Nat.lt_or_ge q a with g | g
    ·have := h.mono q a g ha2;omega
    ·rw [show a = q from by omega];exact h1
   have hins := insert_loop hp h hu hk u1 ul up hq q1 q2 hn (by omega) (x := (i : Int))
   have hred := insert_red hp h hu hk u1 ul up hq q1 q2
   obtain ⟨s1,s2,s3⟩ := insert_sp hp h hu hk u1 ul up hq q1 q2
   refine ⟨(mkR (out.length + 1) (newR p n out u k q),((i + 1 : Nat) : Int)),?_,_,_,rfl,hred,⟨fun a ha => ?_,fun a ha => ?_⟩,by rw [mkR_len];omega,by omega⟩
   ·unfold l2_spec_l02Reduce
    simp only
    rw [lt_t hi,cnd_t,ixO_d [] hi]
    simp only [bs,hcl,k2]
    rw [hw.1,beq_f (by omega),cnd_f,ixO_at (by rw [hw.1];exact hk)]
    simp only [bs,r1,hsc]
    cases hlo : loopO (l1_spec_l02Reduce p (out,(i : Int)) (k : Int) u) ([],false,0) with
    | none => rw [hlo] at hins;cases hins
    | some r32 =>
     rw [hlo,bs] at hins
     simp only [bs]
     obtain ⟨a1,a2⟩ := r32
     cases a2 with
     | true =>
      simp only [Bool.not_true,cnd_f] at hins ⊢
      rw [rng_of (by omega) (by omega),bs,cs,Option.some.inj hins]
     | false =>
      simp only [Bool.not_false,cnd_t] at hins ⊢
      cases hap : appO a1 [u] with
      | none => rw [hap] at hins;cases hins
      | some v33 =>
       rw [hap,bs] at hins
       simp only [bs]
       rw [rng_of (by omega) (by omega),bs,cs,Option.some.inj hins]
   ·rw [mkR_len] at ha
    rw [mkR_get ha]
    refine sp_trans (fun b hb => ?_) (s1 a ha)
    rw [List.length_append,List.length_singleton] at hb
    rcases Nat.lt_or_ge b out.length with g | g
    ·rw [getD_snoc g];exact hup _ (hs.1 b g)
    ·rw [show b = out.length from by omega,getD_last]
     have hwS : Sp p n (rows.take (i + 1)) (cl p n out pv (rows.getD i []) out.length) := by
      have hcS : Sp p n (rows.take (i + 1)) (mkv n fun j => S out.length fun k => cf k * ent out k j) := sp_sum (out := out) (cf := cf) (fun b hb => hup _ (hs.1 b hb)) fun j hj => by rw [mkv_at hj]
      refine sp_add (k := 1) hvs hcS fun j hj => ?_
      rw [hcf j hj,mkv_at hj,Int.one_mul]
     refine sp_add (k := r) (sp_zero (u := []) fun j _ => by simp [at0]) hwS fun j hj => ?_
     rw [ua j hj,Int.emod_emod,show at0 ([] : List Int) j = 0 from by simp [at0],Int.zero_add,Int.mul_comm]
   ·rw [htk,List.length_append,hti,List.length_singleton] at ha
    rw [htk]
    rcases Nat.lt_or_ge a i with g | g
    ·rw [getD_snoc (by omega)]
     exact sp_trans s2 (hs.2 a (by omega))
    ·have hai : a = i := by omega
     subst hai
     have e : (rows.take a ++ [rows.getD a []]).getD a [] = rows.getD a [] := by
      have := getD_last (xs := rows.take a) (v := rows.getD a [])
      rw [hti] at this;exact this
     rw [e]
     have hwS : Sp p n (mkR (out.length + 1) (newR p n out u k q)) (cl p n out pv (rows.getD a []) out.length) := by
      refine sp_add (k := at0 (cl p n out pv (rows.getD a []) out.length) k) (sp_zero (u := []) fun j _ => by simp [at0]) s3 fun j hj => ?_
      rw [ua j hj,show at0 ([] : List Int) j = 0 from by simp [at0],Int.zero_add]
      rw [Int.mul_emod,Int.emod_emod,← Int.mul_emod,← Int.mul_assoc,Int.mul_comm (at0 (cl p n out pv (rows.getD a []) out.length) k),Int.mul_assoc,Int.mul_emod,r4,Int.mul_one,Int.emod_emod]
     have hcS : Sp p n (mkR (out.length + 1) (newR p n out u k q)) (mkv n fun j => S out.length fun k => cf k * ent out k j) := sp_sum (out := out) (cf := cf) s2 fun j hj => by rw [mkv_at hj]
     refine sp_add (k := -1) hwS hcS fun j hj => ?_
     rw [mkv_at hj,Int.add_emod,hcf j hj,← Int.add_emod]
     congr 1;omega
 ·obtain ⟨out,pv,rfl,h,hs,hl,_⟩ := hI
  refine ⟨out,?_,pv,⟨h,hl⟩,by rw [List.take_length] at hs;exact hs⟩
  unfold l2_spec_l02Reduce
  simp only
  rw [lt_f,cnd_f]
theorem reduce_spec : ∃ R pv,f_spec_l02Reduce p rows = some R ∧ Red p n R pv ∧ SpEq p n R rows := by
 obtain ⟨R,pv,h1,h2,h3⟩ := reduce_specL hp hn hm hr
 exact ⟨R,pv,h1,h2.1,h3⟩
theorem reduce_both : ∃ R pv,f_spec_l02Reduce p rows = some R ∧ f_impl_reduceRows p rows = some R ∧ Red p n R pv ∧ SpEq p n R rows := by
 have h7 := hp.pos
 obtain ⟨R,pv,h1,h2,h3⟩ := reduce_spec hp hn hm hr
 obtain ⟨R',pv',g1,g2,g3⟩ := reduce_impl hp hn hm hr
 have e := h2.unique (by omega) g2 (h3.trans g3.symm)
 exact ⟨R,pv,h1,by rw [e];exact g1,h2,h3⟩
end
end Go.Pl

namespace Go.Pl
open Go Go.Ab Go.Wk Go.Pc
theorem map_loop {β : Type} {body : List β × Int → Option ((List β × Int) ⊕ List β)} (n : Nat) (F : Nat → β) (h : ∀ i acc,i < n → acc.length = i → body (acc,(i : Int)) = some (.inl (acc ++ [F i],((i + 1 : Nat) : Int)))) (he : ∀ acc,body (acc,(n : Int)) = some (.inr acc)) :
  loopO body ([],0) = some ((List.range n).map F) := by
 have := loopO_seq (body := body) (r := (List.range n).map F) (fun i => ((List.range i).map F,(i : Int))) n (fun i hi => by
  rw [h i _ hi (by simp),List.range_succ,List.map_append];rfl) (he _)
 exact this
theorem Red.small {p : Int} {n : Nat} {R : Mx} {pv : Nat → Nat} (h : Red p n R pv) (hn : n ≤ 900) : S2 R := by
 have hl := h.len_le
 have key : ∀ xs : Mx,(∀ r ∈ xs,r.length = n) → sm c1 xs = xs.length * n := fun xs => by
  induction xs with
  | nil => intro _;simp [sm]
  | cons x xs ih =>
   intro hx
   have := ih fun r hr => hx r (by simp [hr])
   have := hx x (by simp)
   simp only [sm,c1,List.length_cons,Nat.add_mul];omega
 have := key R fun r hr => by
  obtain ⟨i,hi,rfl⟩ := List.mem_iff_getElem.1 hr
  have := (h.row i hi).1
  simpa [List.getD_eq_getElem?_getD,List.getElem?_eq_getElem hi] using this
 have h2 : R.length * n ≤ 900 * 900 := Nat.mul_le_mul (by omega) hn
 simp only [S2,c2];omega
end Go.Pl

namespace Go.Pl
open Go Go.Ab Go.Wk Go.Pc
abbrev gl {β : Type} (m : Nat) (F : Nat → β) : List β := (List.range m).map F
theorem gl_len {β : Type} {m : Nat} {F : Nat → β} : (gl m F).length = m := by simp [gl]
theorem gl_ix {β : Type} {m : Nat} {F : Nat → β} {i : Nat} (h : i < m) : ixO (gl m F) (i : Int) = some (F i) := by
 rw [ixO_get (by rw [gl_len];exact h)];simp [gl]
end Go.Pl

namespace Go.Pl
open Go Go.Ab Go.Wk Go.Pc
end Go.Pl

namespace Go.Pl
open Go Go.Ab Go.Wk Go.Pc
end Go.Pl

namespace Go.Pl
open Go Go.Ab Go.Wk Go.Pc
def totP (x : SPresentation) : Nat := c1 x.Orders + sm c1 x.Powers + sm (sm c1) x.Conjugates
def markP (x : SPresentation) (k : Int) : SPresentation := ⟨m1 k x.Orders,m2 (k + c1 x.Orders) x.Powers,m3 (k + c1 x.Orders + sm c1 x.Powers) x.Conjugates⟩
theorem totP_le {x : SPresentation} (h : SPres x) : totP x ≤ 3145728 := by
 obtain ⟨h1,h2,h3⟩ := h
 have g2 := sm2_le (x := x.Powers)
 have g3 := sm3_le (x := x.Conjugates)
 simp only [S1] at h1
 simp only [S2] at h2
 simp only [S3] at h3
 simp only [totP];omega
theorem markPresentation_eq {x : SPresentation} {k : Int} (h : SPres x) (k0 : 0 ≤ k) (k1 : k ≤ 1000000000) : f_laws_markPresentation x k = some (k + totP x,markP x k) := by
 have ht := totP_le h
 simp only [totP] at ht
 unfold f_laws_markPresentation
 rw [markInt64S h.1 k0 (by omega),bs,markInt64SS h.2.1 (by simp only;omega) (by simp only;omega),bs,markInt64SSS h.2.2 (by simp only;omega) (by simp only;omega),bs]
 simp only [totP,markP,Int.natCast_add,Int.add_assoc]
end Go.Pl

namespace Go.Pl
open Go Go.Ab Go.Wk Go.Pc
theorem own2_spec {xs : Mx} (h : xs.length ≤ 100000) (hl : ∀ i,i < xs.length → (xs.getD i []).length ≤ 1000000) : f_spec_l01Own2 xs = some xs := by
 unfold f_spec_l01Own2
 rw [map_loop (body := l1_spec_l01Own2 xs) xs.length (fun i => xs.getD i []) (fun i acc hi ha => by
  unfold l1_spec_l01Own2
  simp only
  rw [lt_t hi,cnd_t,ixO_d [] hi,bs,own_spec (hl i hi),bs,appO_of (by simp;omega),bs,rng_of (by omega) (by omega),bs,cs]) (fun acc => by
  unfold l1_spec_l01Own2
  simp only
  rw [lt_f,cnd_f]),bs]
 congr 1
 exact (mkR_eq rfl).symm
theorem product_rows {p : Int} (hp : Prime p) {D : Nat} (hD : D ≤ 3) {A B : Mx} (hl : A.length ≤ 1000) (hA : ∀ i,i < A.length → Row p D (A.getD i [])) (hB : Mat p D B) : f_spec_l02Product p A B (D : Int) = some (PM p D A B) := by
 unfold f_spec_l02Product
 have := loopO_seq (body := l1_spec_l02Product p A B (D : Int)) (r := PM p D A B) (fun i => ((PM p D A B).take i,(i : Int))) A.length (fun i hi => by
  unfold l1_spec_l02Product
  simp only
  rw [lt_t hi,cnd_t,ixO_d [] (by omega),bs,times_spec hp (by omega) (hA i hi) hB,bs,appO_of (by rw [List.length_take,PM_length];simp;omega),bs,rng_of (by omega) (by omega),bs,cs,prod_take hp (by omega) (by omega)]) (by
  unfold l1_spec_l02Product
  simp only
  rw [lt_f,cnd_f,List.take_of_length_le (by rw [PM_length];omega)])
 rw [show ((0 : Nat) : Int) = 0 from rfl,List.take_zero] at this
 rw [this,bs]
theorem sp_mem {p : Int} {n : Nat} {R : Mx} {v : List Int} (h : v ∈ R) : Sp p n R v := by
 obtain ⟨i,hi,rfl⟩ := List.mem_iff_getElem.1 h
 have := sp_row (p := p) (n := n) hi
 rwa [List.getD_eq_getElem?_getD,List.getElem?_eq_getElem hi] at this
theorem getD_mem {R : Mx} {i : Nat} (hi : i < R.length) : R.getD i [] ∈ R := by
 rw [List.getD_eq_getElem?_getD,List.getElem?_eq_getElem hi];exact List.getElem_mem hi
section
variable {n D : Nat} {m : SModule} (hm : MOk n m D) (hn : n ≤ 6)
 include hm hn
def spA (m : SModule) (D : Nat) (R : Mx) : Nat → Mx
 | 0 => R
 | i + 1 => spA m D R i ++ PM m.Prime D R (m.Actions.getD i [])
theorem spA_len {R : Mx} : ∀ i,(spA m D R i).length = R.length + i * R.length
 | 0 => by have _ := hm;have _ := hn;simp [spA]
 | i + 1 => by rw [spA,List.length_append,spA_len i,PM_length,Nat.succ_mul];omega
theorem spA_all {R : Mx} {P : List Int → Prop} (h0 : ∀ r ∈ R,P r) (h1 : ∀ r ∈ R,∀ i,i < n → P (rowM m.Prime D r (m.Actions.getD i []))) : ∀ i,i ≤ n → ∀ r ∈ spA m D R i,P r
 | 0,_,r,hr => by
  have _ := hm;have _ := hn
  exact h0 r hr
 | i + 1,hi,r,hr => by
  rw [spA,List.mem_append] at hr
  rcases hr with h | h
  ·exact spA_all h0 h1 i (by omega) r h
  ·obtain ⟨s,hs,rfl⟩ := List.mem_map.1 h
   exact h1 s hs i (by omega)
theorem spA_in {R : Mx} : ∀ i,∀ r ∈ R,r ∈ spA m D R i
 | 0,_,h => by
  have _ := hm;have _ := hn
  exact h
 | i + 1,r,h => by rw [spA,List.mem_append];exact .inl (spA_in i r h)
end
end Go.Pl

namespace Go.Pl
open Go Go.Ab Go.Wk Go.Pc
theorem eqMatrix {x : SMatrix} (h : S2 x.Rows) : f_laws_eqMatrix x x = some true := by
 unfold f_laws_eqMatrix
 rw [bne_self_eq_false,cnd_f,bne_self_eq_false,cnd_f,eqInt64SS h,bs,beq_self_eq_true,Bool.not_true,cnd_f]
theorem markMatrix {x : SMatrix} {k : Int} (h : S2 x.Rows) (k0 : 0 ≤ k) (k1 : k ≤ 1000000000) : f_laws_markMatrix x k = some (k + sm c1 x.Rows,SMatrix.mk x.Prime x.Columns (m2 k x.Rows)) := by
 have g2 := sm2_le (x := x.Rows)
 have h' := h
 simp only [S2] at h'
 unfold f_laws_markMatrix
 rw [markInt64SS h k0 (by omega),bs]
theorem heldMatrix {x : SMatrix} {k p d : Int} (h : S2 x.Rows) (k0 : 0 ≤ k) (k1 : k ≤ 1000000000) : f_laws_heldMatrix (SMatrix.mk p d (m2 k x.Rows)) k = some (k + sm c1 x.Rows) := by
 have g2 := sm2_le (x := x.Rows)
 have h' := h
 simp only [S2] at h'
 unfold f_laws_heldMatrix
 simp only
 rw [heldInt64SS h k0 (by omega),bs,decide_eq_false (by omega),cnd_f]
end Go.Pl

namespace Go.Pl
open Go Go.Ab Go.Wk Go.Pc
theorem index_impl {v : List Int} {k : Nat} (hl : v.length ≤ 1000000) (hk : k < v.length) (h0 : ∀ j,j < k → at0 v j = 0) (h1 : at0 v k ≠ 0) : f_slices_IndexFunc_int64_int64 v = some (k : Int) := by
 unfold f_slices_IndexFunc_int64_int64
 have := loopO_seq (body := l1_slices_IndexFunc_int64_int64 v) (r := .inr (k : Int)) (fun i => (i : Int)) k (fun i hi => by
  unfold l1_slices_IndexFunc_int64_int64 f_impl_pivots_1
  rw [lt_t (by omega),cnd_t,ixO_at (by omega),bs,bs,h0 i hi,bne_self_eq_false,cnd_f,rng_of (by omega) (by omega),bs,cs]) (by
  unfold l1_slices_IndexFunc_int64_int64 f_impl_pivots_1
  rw [lt_t hk,cnd_t,ixO_at hk,bs,bs,bne_t h1,cnd_t])
 have e : loopO (l1_slices_IndexFunc_int64_int64 v) 0 = some (.inr (k : Int)) := this
 rw [e,bs]
section
variable {p : Int} (hp : Prime p) {n : Nat} (hn : n ≤ 100000) {R : Mx} {pv : Nat → Nat} (h : Red p n R pv) {v : List Int} (hv : Row p n v)
 include hp hn h
theorem pivots_impl (hm : R.length ≤ 100000) : f_impl_pivots R = some (gl R.length fun i => (pv i : Int)) := by
 have h7 := hp.pos
 unfold f_impl_pivots
 rw [map_loop (body := l1_impl_pivots R) R.length (fun i => (pv i : Int)) (fun i acc hi ha => by
  have hr := h.row i hi
  have h1 := h.one i hi
  unfold l1_impl_pivots
  simp only
  rw [lt_t hi,cnd_t,ixO_d [] hi,bs,index_impl (k := pv i) (by rw [hr.1];omega) (by rw [hr.1];exact h.lt i hi) (fun j hj => h.low i hi j hj) (by simp only [ent] at h1;omega),bs,appO_of (by simp;omega),bs,rng_of (by omega) (by omega),bs,cs]) (fun acc => by
  unfold l1_impl_pivots
  simp only
  rw [lt_f,cnd_f]),bs]
 include hv
theorem cl_neg {i : Nat} (hi : i < R.length) : addM p n (cl p n R pv v i) (0 - at0 (cl p n R pv v i) (pv i)) (R.getD i []) = cl p n R pv v (i + 1) := by
 have _ := hp;have _ := hn;have _ := h;have _ := hv;have _ := hi
 rw [cl]
 refine mkv_congr fun j _ => ?_
 generalize at0 (cl p n R pv v i) (pv i) = a
 generalize at0 (R.getD i []) j = b
 rw [Int.sub_mul,Int.sub_mul,Int.zero_mul]
 have e : at0 (cl p n R pv v i) j + (p * b - a * b) = at0 (cl p n R pv v i) j + (0 - a * b) + p * b := by omega
 rw [e,Int.add_mul_emod_self_left]
theorem remainder_impl {c : Int} (hm : R.length ≤ 100000) : f_impl_remainderMod (SMatrix.mk p c R) v = some (cl p n R pv v R.length) := by
 have h7 := hp.pos
 have := loopO_seq (body := l1_impl_remainderMod (SMatrix.mk p c R) (gl R.length fun i => (pv i : Int))) (r := cl p n R pv v R.length) (fun i => (cl p n R pv v i,(i : Int))) R.length (fun i hi => by
  have hr := cl_row hp hn h hv i
  have ha := hr.2 (pv i) (h.lt i hi)
  unfold l1_impl_remainderMod
  simp only
  rw [gl_len,lt_t hi,cnd_t,gl_ix hi,bs,ixO_d [] hi,bs,ixO_at (by rw [hr.1];exact h.lt i hi),bs,rng_of (by omega) (by omega),bs,addM_impl hp hr (h.row i hi) (by omega) (by omega),bs,rng_of (by omega) (by omega),bs,cs,cl_neg hp hn h hv hi]) (by
  unfold l1_impl_remainderMod
  simp only
  rw [gl_len,lt_f,cnd_f])
 unfold f_impl_remainderMod
 rw [clone_impl (by rw [hv.1];omega),bs]
 simp only
 rw [pivots_impl hp hn h hm,bs]
 have e : loopO (l1_impl_remainderMod (SMatrix.mk p c R) (gl R.length fun i => (pv i : Int))) (v,0) = some (cl p n R pv v R.length) := this
 rw [e,bs]
theorem cl_zero : (∀ j,j < n → at0 (cl p n R pv v R.length) j = 0) ↔ Sp p n R v := by
 have h7 := hp.pos
 obtain ⟨cf,hcf⟩ := cl_comb hp hn h hv R.length (Nat.le_refl _)
 have hr := cl_row hp hn h hv R.length
 have hs : Sp p n R (mkv n fun j => S R.length fun k => cf k * ent R k j) := ⟨cf,fun j hj => by rw [mkv_at hj]⟩
 constructor
 ·intro h0
  refine sp_add (v := mkv n fun _ => 0) (w := mkv n fun j => S R.length fun k => cf k * ent R k j) (k := -1) (sp_zero fun j hj => by rw [mkv_at hj];rfl) hs fun j hj => ?_
  have h1 := hcf j hj
  rw [h0 j hj] at h1
  rw [mkv_at hj,mkv_at hj]
  generalize (S R.length fun k => cf k * ent R k j) = s at h1 ⊢
  have h2 : (at0 v j + s) % p = 0 := by rw [← h1];rfl
  have h3 : (at0 v j - (0 + -1 * s)) % p = 0 := by rw [← h2];congr 1;omega
  exact Int.emod_eq_emod_iff_emod_sub_eq_zero.2 h3
 ·intro hsp j hj
  have h1 : Sp p n R (cl p n R pv v R.length) := sp_add (k := 1) hsp hs fun j hj => by rw [hcf j hj,mkv_at hj,Int.one_mul]
  have h2 := h.expand h1 j hj
  rw [S_congr (g := fun _ => 0) (fun i hi => by rw [cl_piv hp hn h hv R.length (Nat.le_refl _) i hi,Int.zero_mul]),S_zero] at h2
  have h3 := hr.2 j hj
  rw [Int.emod_eq_of_lt h3.1 (by omega)] at h2
  rw [h2];rfl
end
end Go.Pl

namespace Go.Pl
open Go Go.Ab Go.Wk Go.Pc
section
variable {p : Int} (hp : 1 < p) {n : Nat} {R R' : Mx} {pv pv' : Nat → Nat} (h : Red p n R pv) (h' : Red p n R' pv') (hs : ∀ i,i < R.length → Sp p n R' (R.getD i []))
 include hp h h' hs
theorem Red.lt_of {i i2 k k2 : Nat} (hii : i < i2) (hi2 : i2 < R.length) (hk : k < R'.length) (e : pv' k = pv i) (e2 : pv' k2 = pv i2) : k < k2 := by
 have _ := hp;have _ := hs
 have h1 := h.mono i i2 hii hi2
 refine Classical.byContradiction fun hn => ?_
 rcases Nat.lt_or_ge k2 k with g | g
 ·have := h'.mono k2 k g hk;omega
 ·have : k = k2 := by omega
  subst this;omega
theorem Red.low_in : ∀ i,i < R.length → ∃ k,k < R'.length ∧ pv' k = pv i ∧ i ≤ k := by
 intro i
 induction i with
 | zero => intro hi;obtain ⟨k,hk,e⟩ := h.piv_in hp h' hs hi;exact ⟨k,hk,e,by omega⟩
 | succ i ih =>
  intro hi
  obtain ⟨k,hk,e,hik⟩ := ih (by omega)
  obtain ⟨k2,hk2,e2⟩ := h.piv_in hp h' hs hi
  have := h.lt_of hp h' hs (show i < i + 1 by omega) hi hk e e2
  exact ⟨k2,hk2,e2,by omega⟩
theorem Red.high_in : ∀ d i,i + d + 1 = R.length → ∃ k,k + d < R'.length ∧ pv' k = pv i := by
 intro d
 induction d with
 | zero => intro i hi;obtain ⟨k,hk,e⟩ := h.piv_in hp h' hs (i := i) (by omega);exact ⟨k,by omega,e⟩
 | succ d ih =>
  intro i hi
  obtain ⟨k2,hk2,e2⟩ := ih (i + 1) (by omega)
  obtain ⟨k,hk,e⟩ := h.piv_in hp h' hs (i := i) (by omega)
  have := h.lt_of hp h' hs (show i < i + 1 by omega) (by omega) hk e e2
  exact ⟨k,by omega,e⟩
theorem Red.le_of : R.length ≤ R'.length := by
 rcases Nat.eq_zero_or_pos R.length with g | g
 ·omega
 ·obtain ⟨k,hk,_,hik⟩ := h.low_in hp h' hs (R.length - 1) (by omega)
  omega
theorem Red.eq_of (hl : R.length = R'.length) : R = R' := by
 have hpv : ∀ i,i < R.length → pv' i = pv i := fun i hi => by
  obtain ⟨k,hk,e,hik⟩ := h.low_in hp h' hs i hi
  obtain ⟨k2,hk2,e2⟩ := h.high_in hp h' hs (R.length - 1 - i) i (by omega)
  have h1 : k2 ≤ i := by omega
  rcases Nat.lt_or_ge k2 k with g | g
  ·have := h'.mono k2 k g hk;omega
  ·have : k = i := by omega
   subst this;exact e
 refine mx_ext (D := R.length) rfl hl.symm fun i hi => ?_
 have hi' : i < R'.length := by omega
 have r1 := h.row i hi
 have r2 := h'.row i hi'
 rw [mkv_eq r1.1,mkv_eq r2.1]
 refine mkv_congr fun j hj => ?_
 have h1 := h'.expand (hs i hi) j hj
 rw [S_one (k := i) hi' (fun k hk hne => by
  have h3 := h.off k i (by omega) hi (Ne.symm hne)
  simp only [ent] at h3
  rw [hpv k (by omega),h3,Int.zero_mul])] at h1
 have h4 := h.one i hi
 simp only [ent] at h4
 rw [hpv i hi,h4,Int.one_mul] at h1
 have b1 := r1.2 j hj
 have b2 := r2.2 j hj
 simp only [ent] at h1
 rwa [Int.emod_eq_of_lt b1.1 (by omega),Int.emod_eq_of_lt b2.1 (by omega)] at h1
end
end Go.Pl

namespace Go.Pl
open Go Go.Ab Go.Wk Go.Pc
def Inv (m : SModule) (n D : Nat) (R : Mx) : Prop := ∀ r ∈ R,∀ i,i < n → Sp m.Prime D R (rowM m.Prime D r (m.Actions.getD i []))
section
variable {n D : Nat} {m : SModule} (hm : MOk n m D) (hn : n ≤ 6)
 include hm hn
theorem spA_mem {R : Mx} {r : List Int} (hr : r ∈ R) {i : Nat} : ∀ j,i < j → rowM m.Prime D r (m.Actions.getD i []) ∈ spA m D R j
 | 0,h => by
  have _ := hm;have _ := hn
  omega
 | j + 1,h => by
  rw [spA,List.mem_append]
  by_cases e : i = j
  ·subst e;exact .inr (List.mem_map.2 ⟨r,hr,rfl⟩)
  ·exact .inl (spA_mem hr j (by omega))
theorem spin_step {R : Mx} {pv : Nat → Nat} (hR : Red m.Prime D R pv) : ∃ R2 pv2,Red m.Prime D R2 pv2 ∧ R.length ≤ R2.length ∧ (R2.length = R.length ↔ Inv m n D R) ∧ l2_spec_l21Spin m R = if R2.length = R.length then some (.inr R) else some (.inl R2) := by
 have h7 := hm.p.pos
 have h3 := hm.d3
 have hRl : R.length ≤ D := hR.len_le
 have hrow : ∀ r ∈ R,Row m.Prime D r := fun r h => by
  obtain ⟨i,hi,rfl⟩ := List.mem_iff_getElem.1 h
  have := hR.row i hi
  rwa [List.getD_eq_getElem?_getD,List.getElem?_eq_getElem hi] at this
 have hin : (loopO (l1_spec_l21Spin m R) (R,0)) = some (spA m D R n) := by
  have := loopO_seq (body := l1_spec_l21Spin m R) (r := spA m D R n) (fun i => (spA m D R i,(i : Int))) n (fun i hi => by
   have hl := spA_len hm hn (R := R) i
   have hl2 : i * R.length ≤ 6 * 3 := Nat.mul_le_mul (by omega) (by omega)
   unfold l1_spec_l21Spin
   simp only
   rw [hm.len,lt_t hi,cnd_t,ixO_d [] (by rw [hm.len];exact hi),bs,hm.d,product_rows hm.p h3 (by omega) hR.row (hm.mat i hi),bs,appO_of (by rw [hl,PM_length];omega),bs,rng_of (by omega) (by omega),bs,cs];rfl) (by
   unfold l1_spec_l21Spin
   simp only
   rw [hm.len,lt_f,cnd_f])
  exact this
 have hl := spA_len hm hn (R := R) n
 have hl2 : n * R.length ≤ 6 * 3 := Nat.mul_le_mul (by omega) (by omega)
 have hrows := spA_all hm hn (R := R) (P := Row m.Prime D) hrow (fun r _ i _ => rowM_row (by omega)) n (Nat.le_refl _)
 obtain ⟨R2,pv2,g1,_,g3,g4⟩ := reduce_both hm.p (n := D) (by omega) (rows := spA m D R n) (by omega) fun i hi => hrows _ (getD_mem hi)
 have hsub : ∀ i,i < R.length → Sp m.Prime D R2 (R.getD i []) := fun i hi => g4.iff.2 (sp_mem (spA_in hm hn n _ (getD_mem hi)))
 refine ⟨R2,pv2,g3,hR.le_of (by omega) g3 hsub,⟨fun hlen => ?_,fun hI => ?_⟩,?_⟩
 ·have hu := hR.eq_of (by omega) g3 hsub hlen.symm
  intro r hr i hi
  rw [hu]
  exact g4.iff.2 (sp_mem (hu ▸ spA_mem hm hn hr n hi))
 ·have hin2 : ∀ r ∈ spA m D R n,Sp m.Prime D R r := spA_all hm hn (R := R) (P := Sp m.Prime D R) (fun r h => sp_mem h) (fun r h i hi => hI r h i hi) n (Nat.le_refl _)
  have := g3.le_of (by omega) hR fun i hi => sp_trans (fun j hj => hin2 _ (getD_mem hj)) (g4.1 i hi)
  have := hR.le_of (by omega) g3 hsub
  omega
 ·unfold l2_spec_l21Spin
  rw [own2_spec (by omega) (fun i hi => by rw [(hR.row i hi).1];omega),bs,hin,bs,g1,bs]
  by_cases e : R2.length = R.length
  ·rw [if_pos e,e];simp only [beq_self_eq_true,cnd_t]
  ·rw [if_neg e,show ((R2.length : Int) == (R.length : Int)) = false from by simp;omega,cnd_f]
end
end Go.Pl

namespace Go.Pl
open Go Go.Ab Go.Wk Go.Pc
end Go.Pl

namespace Go.Pl
open Go Go.Ab Go.Wk Go.Pc
theorem Row.len {p : Int} {n : Nat} {R : Mx} (h : ∀ i,i < R.length → Row p n (R.getD i [])) : ∀ r ∈ R,r.length = n := fun r hr => by
 obtain ⟨i,hi,rfl⟩ := List.mem_iff_getElem.1 hr
 have := (h i hi).1
 rwa [List.getD_eq_getElem?_getD,List.getElem?_eq_getElem hi] at this
theorem isZeroG_impl {v : List Int} (hl : v.length ≤ 1000000) : IsB (f_impl_isZero v) (∀ i,i < v.length → at0 v i = 0) := by
 refine all_fn v.length (fun i => at0 v i = 0) rfl (fun i hi _ => ?_) ?_
 ·refine one_chk (o := some (at0 v i == 0)) (IsB.of_bool (by simp)) (by omega) ?_
  unfold l1_impl_isZero
  rw [lt_t hi,cnd_t,ixO_at hi,bs,bs];rfl
 ·unfold l1_impl_isZero
  rw [lt_f,cnd_f]
theorem productR_impl {p : Int} (hp : Prime p) {D : Nat} (hD : D ≤ 3) {A B : Mx} {q : Int} (hl : A.length ≤ 1000) (hA : ∀ i,i < A.length → Row p D (A.getD i [])) (hB : Mat p D B) : f_impl_product (SMatrix.mk p q A) (SMatrix.mk p (D : Int) B) = some (SMatrix.mk p (D : Int) (PM p D A B)) := by
 unfold f_impl_product
 have := loopO_seq (body := l1_impl_product (SMatrix.mk p q A) (SMatrix.mk p (D : Int) B)) (r := PM p D A B) (fun i => ((PM p D A B).take i,(i : Int))) A.length (fun i hi => by
  unfold l1_impl_product
  simp only
  rw [lt_t hi,cnd_t,ixO_d [] (by omega),bs,vectorTimes_impl hp (by omega) (hA i hi) hB rfl,bs,appO_of (by rw [List.length_take,PM_length];simp;omega),bs,rng_of (by omega) (by omega),bs,cs,prod_take hp (by omega) (by omega)]) (by
  unfold l1_impl_product
  simp only
  rw [lt_f,cnd_f,List.take_of_length_le (by rw [PM_length];omega)])
 rw [show ((0 : Nat) : Int) = 0 from rfl,List.take_zero] at this
 rw [this,bs]
section
variable {n D : Nat} {m : SModule} (hm : MOk n m D) (hn : n ≤ 6)
 include hm
def Fit (m : SModule) (D : Nat) (u : SMatrix) : Prop := u.Prime = m.Prime ∧ u.Columns = (D : Int) ∧ ∃ pv,Red m.Prime D u.Rows pv
 include hn
theorem invRows_iff {R : Mx} : (∀ i,i < n → ∀ k,k < R.length → Sp m.Prime D R (rowM m.Prime D (R.getD k []) (m.Actions.getD i []))) ↔ Inv m n D R := by
 have _ := hm;have _ := hn
 constructor
 ·intro h r hr i hi
  obtain ⟨k,hk,rfl⟩ := List.mem_iff_getElem.1 hr
  have := h i hi k hk
  rwa [List.getD_eq_getElem?_getD,List.getElem?_eq_getElem hk] at this
 ·intro h i hi k hk
  exact h _ (getD_mem hk) i hi
theorem isSub_impl {u : SMatrix} (hu : Fit m D u) : IsB (f_impl_isSubmodule m u) (Inv m n D u.Rows) := by
 obtain ⟨e1,e2,pv,hR⟩ := hu
 have h7 := hm.p.pos
 have h3 := hm.d3
 have hRl : u.Rows.length ≤ D := hR.len_le
 have hu : u = SMatrix.mk m.Prime (D : Int) u.Rows := by rw [← e1,← e2]
 refine IsB.iff ?_ (invRows_iff hm hn)
 refine all_fn (body := l2_impl_isSubmodule m u) n (fun i => ∀ k,k < u.Rows.length → Sp m.Prime D u.Rows (rowM m.Prime D (u.Rows.getD k []) (m.Actions.getD i []))) rfl (fun i hi _ => ?_) ?_
 ·unfold l2_impl_isSubmodule
  rw [hm.len,lt_t hi,cnd_t,actionAt_impl hm hn hi,bs]
  have hpr : f_impl_product u (SMatrix.mk m.Prime (D : Int) (m.Actions.getD i [])) = some (SMatrix.mk m.Prime (D : Int) (PM m.Prime D u.Rows (m.Actions.getD i []))) := by
   conv => lhs;rw [hu]
   exact productR_impl hm.p h3 (by omega) hR.row (hm.mat i hi)
  rw [hpr,bs]
  have hin := chk (body := l1_impl_isSubmodule u (SMatrix.mk m.Prime (D : Int) (PM m.Prime D u.Rows (m.Actions.getD i [])))) u.Rows.length 0 (Nat.zero_le _) (fun k => Sp m.Prime D u.Rows (rowM m.Prime D (u.Rows.getD k []) (m.Actions.getD i []))) (fun _ => false) (fun k _ hk _ => by
   have hw : Row m.Prime D (rowM m.Prime D (u.Rows.getD k []) (m.Actions.getD i [])) := rowM_row (by omega)
   have hcl := cl_row hm.p (by omega) hR hw u.Rows.length
   refine one_chk ((isZeroG_impl (by rw [hcl.1];omega)).iff (by rw [hcl.1];exact cl_zero hm.p (by omega) hR hw)) (by omega) ?_
   unfold l1_impl_isSubmodule
   simp only
   rw [PM_length,lt_t hk,cnd_t,ixO_d [] (by rw [PM_length];exact hk),bs,PM_get hk]
   conv => lhs;rw [hu]
   rw [remainder_impl hm.p (by omega) hR hw (by omega),bs]) (by
   unfold l1_impl_isSubmodule
   simp only
   rw [PM_length,lt_f,cnd_f])
  rcases hin with ⟨g1,g2⟩ | ⟨k,_,hk,g1,g2⟩
  ·left
   rw [show ((0 : Nat) : Int) = 0 from rfl] at g1
   rw [g1,bs]
   simp only
   rw [rng_of (by omega) (by omega),bs,cs]
   exact ⟨rfl,fun k hk => g2 k (Nat.zero_le _) hk⟩
  ·right
   rw [show ((0 : Nat) : Int) = 0 from rfl] at g1
   rw [g1,bs]
   exact ⟨rfl,fun g => g2 (g k hk)⟩
 ·unfold l2_impl_isSubmodule
  rw [hm.len,lt_f,cnd_f]
end
end Go.Pl

namespace Go.Pl
open Go Go.Ab Go.Wk Go.Pc
end Go.Pl

namespace Go.Pl
open Go Go.Ab Go.Wk Go.Pc
section
variable {n D : Nat} {m : SModule} (hm : MOk n m D) (hn : n ≤ 6)
 include hm hn
theorem spin_more {x : SPresentation} (hx : x.Orders.length = n) {R : Mx} {pv : Nat → Nat} (hR : Red m.Prime D R pv) : loopO (l2_impl_SubmoduleOf x m (m.Prime,(D : Int),R)) (R,0) = some (spA m D R n) := by
 have h3 := hm.d3
 have hRl : R.length ≤ D := hR.len_le
 have := loopO_seq (body := l2_impl_SubmoduleOf x m (m.Prime,(D : Int),R)) (r := spA m D R n) (fun i => (spA m D R i,(i : Int))) n (fun i hi => by
  have hl := spA_len hm hn (R := R) i
  have hl2 : i * R.length ≤ 6 * 3 := Nat.mul_le_mul (by omega) (by omega)
  unfold l2_impl_SubmoduleOf
  simp only
  rw [hx,lt_t hi,cnd_t,actionAt_impl hm hn hi,bs,productR_impl hm.p h3 (by omega) hR.row (hm.mat i hi),bs]
  simp only
  rw [appO_of (by rw [hl,PM_length];omega),bs,rng_of (by omega) (by omega),bs,cs];rfl) (by
  unfold l2_impl_SubmoduleOf
  simp only
  rw [hx,lt_f,cnd_f])
 exact this
theorem spin_both {x : SPresentation} (hx : x.Orders.length = n) : ∀ (d : Nat) (R : Mx) (pv : Nat → Nat),Red m.Prime D R pv → D - R.length ≤ d → ∃ W pv',loopO (l2_spec_l21Spin m) R = some W ∧ loopO (l3_impl_SubmoduleOf x m) (m.Prime,(D : Int),R) = some (m.Prime,(D : Int),W) ∧ Red m.Prime D W pv' := by
 have h3 := hm.d3
 have h7 := hm.p.pos
 have step : ∀ (R : Mx) (pv : Nat → Nat),Red m.Prime D R pv → (l2_spec_l21Spin m R = some (.inr R) ∧ l3_impl_SubmoduleOf x m (m.Prime,(D : Int),R) = some (.inr (m.Prime,(D : Int),R))) ∨
   ∃ R2 pv2,Red m.Prime D R2 pv2 ∧ R.length < R2.length ∧ l2_spec_l21Spin m R = some (.inl R2) ∧ l3_impl_SubmoduleOf x m (m.Prime,(D : Int),R) = some (.inl (m.Prime,(D : Int),R2)) := fun R pv hR => by
  have hRl : R.length ≤ D := hR.len_le
  obtain ⟨R2,pv2,g1,g2,g3,g4⟩ := spin_step hm hn hR
  have hsub := isSub_impl hm hn (u := SMatrix.mk m.Prime (D : Int) R) ⟨rfl,rfl,pv,hR⟩
  by_cases e : R2.length = R.length
  ·left
   rw [if_pos e] at g4
   refine ⟨g4,?_⟩
   rcases hsub with ⟨k1,_⟩ | ⟨_,k2⟩
   ·unfold l3_impl_SubmoduleOf
    simp only
    rw [k1,bs,Bool.not_true,cnd_f]
   ·exact absurd (g3.1 e) k2
  ·right
   rw [if_neg e] at g4
   refine ⟨R2,pv2,g1,by omega,g4,?_⟩
   rcases hsub with ⟨_,k2⟩ | ⟨k1,_⟩
   ·exact absurd (g3.2 k2) e
   ·have hrow : ∀ r ∈ R,Row m.Prime D r := fun r h => by
     obtain ⟨i,hi,rfl⟩ := List.mem_iff_getElem.1 h
     have := hR.row i hi
     rwa [List.getD_eq_getElem?_getD,List.getElem?_eq_getElem hi] at this
    have hl := spA_len hm hn (R := R) n
    have hl2 : n * R.length ≤ 6 * 3 := Nat.mul_le_mul (by omega) (by omega)
    have hrows := spA_all hm hn (R := R) (P := Row m.Prime D) hrow (fun r _ i _ => rowM_row (by omega)) n (Nat.le_refl _)
    obtain ⟨R3,pv3,q1,q2,_,_⟩ := reduce_both hm.p (n := D) (by omega) (rows := spA m D R n) (by omega) fun i hi => hrows _ (getD_mem hi)
    have hin : (loopO (l1_spec_l21Spin m R) (R,0)) = some (spA m D R n) := by
     have := loopO_seq (body := l1_spec_l21Spin m R) (r := spA m D R n) (fun i => (spA m D R i,(i : Int))) n (fun i hi => by
      have hl := spA_len hm hn (R := R) i
      have hl2 : i * R.length ≤ 6 * 3 := Nat.mul_le_mul (by omega) (by omega)
      unfold l1_spec_l21Spin
      simp only
      rw [hm.len,lt_t hi,cnd_t,ixO_d [] (by rw [hm.len];exact hi),bs,hm.d,product_rows hm.p h3 (by omega) hR.row (hm.mat i hi),bs,appO_of (by rw [hl,PM_length];omega),bs,rng_of (by omega) (by omega),bs,cs];rfl) (by
      unfold l1_spec_l21Spin
      simp only
      rw [hm.len,lt_f,cnd_f])
     exact this
    have e3 : R3 = R2 := by
     have g5 := g4
     unfold l2_spec_l21Spin at g5
     rw [own2_spec (by omega) (fun i hi => by rw [(hR.row i hi).1];omega),bs,hin,bs,q1,bs] at g5
     by_cases e4 : R3.length = R.length
     ·rw [e4,beq_self_eq_true,cnd_t] at g5
      simp at g5
     ·rw [show ((R3.length : Int) == (R.length : Int)) = false from by simp;omega,cnd_f] at g5
      exact Sum.inl.inj (Option.some.inj g5)
    unfold l3_impl_SubmoduleOf
    simp only
    rw [k1,bs,Bool.not_false,cnd_t,copyRows_impl (by omega) (fun i hi => by rw [(hR.row i hi).1];omega),bs,spin_more hm hn hx hR,bs]
    unfold f_impl_spanOf
    rw [q2,e3,hm.d]
    simp only [bs]
 intro d
 induction d with
 | zero =>
  intro R pv hR hd
  have hRl : R.length ≤ D := hR.len_le
  rcases step R pv hR with ⟨a,b⟩ | ⟨R2,pv2,g1,g2,_,_⟩
  ·exact ⟨R,pv,by rw [loopO_eq,a],by rw [loopO_eq,b],hR⟩
  ·have h2 : R2.length ≤ D := g1.len_le
   omega
 | succ d ih =>
  intro R pv hR hd
  rcases step R pv hR with ⟨a,b⟩ | ⟨R2,pv2,g1,g2,a,b⟩
  ·exact ⟨R,pv,by rw [loopO_eq,a],by rw [loopO_eq,b],hR⟩
  ·obtain ⟨W,pv',w1,w2,w3⟩ := ih R2 pv2 g1 (by omega)
   exact ⟨W,pv',by rw [loopO_eq,a];exact w1,by rw [loopO_eq,b];exact w2,w3⟩
def Vecs (m : SModule) (D : Nat) (rows : Mx) : Prop := ∀ i,i < rows.length → Row m.Prime D (rows.getD i [])
theorem vectors_spec {rows : Mx} (hl : rows.length ≤ 1048576) : IsB (f_spec_l21Vectors m rows) (Vecs m D rows) := by
 have _ := hn
 have h3 := hm.d3
 refine all_fn (body := l1_spec_l21Vectors m rows) rows.length (fun i => Row m.Prime D (rows.getD i [])) rfl (fun i hi _ => ?_) ?_
 ·refine one_chk (vector_spec hm.p (D := D) (by omega)) (by omega) ?_
  unfold l1_spec_l21Vectors
  rw [lt_t hi,cnd_t,ixO_d [] hi,bs,hm.d]
 ·unfold l1_spec_l21Vectors
  rw [lt_f,cnd_f]
theorem vectors_impl {rows : Mx} (hl : rows.length ≤ 1048576) : (loopO (l1_impl_SubmoduleOf m rows) 0 = some (.inl ()) ∧ Vecs m D rows) ∨ (loopO (l1_impl_SubmoduleOf m rows) 0 = some (.inr (SMatrix.mk 0 0 [],1)) ∧ ¬ Vecs m D rows) := by
 have _ := hn
 have h3 := hm.d3
 rcases chk (body := l1_impl_SubmoduleOf m rows) rows.length 0 (Nat.zero_le _) (fun i => Row m.Prime D (rows.getD i [])) (fun _ => (SMatrix.mk 0 0 [],1)) (fun i _ hi _ => by
  refine one_chk (vector_impl hm.p (D := D) (by omega)) (by omega) ?_
  unfold l1_impl_SubmoduleOf
  rw [lt_t hi,cnd_t,ixO_d [] hi,bs,hm.d]) (by
  unfold l1_impl_SubmoduleOf
  rw [lt_f,cnd_f]) with ⟨g1,g2⟩ | ⟨i,_,hi,g1,g2⟩
 ·exact .inl ⟨g1,fun i hi => g2 i (Nat.zero_le _) hi⟩
 ·exact .inr ⟨g1,fun h => g2 (h i hi)⟩
end
theorem SubmoduleOf_agree {x : SPresentation} {m : SModule} {rows : Mx} (hx : SPres x) (hm : SMod m) (hr : S2 rows) : ∃ g k,f_spec_SubmoduleOf x m rows = some (g,k) ∧ f_impl_SubmoduleOf x m rows = some (g,k) ∧ S2 g.Rows := by
 have hl : x.Orders.length ≤ 1048576 := hx.1
 have hml := S3.len hm
 have hnil : S2 ([] : Mx) := by simp [S2,c2,sm]
 unfold f_spec_SubmoduleOf f_impl_SubmoduleOf
 rcases (IsModule_spec (m := m) hl).both (isModule_impl (m := m) hl hml) with ⟨s1,i1,hM⟩ | ⟨s1,i1,hM⟩
 ·obtain ⟨hc,D,hD,_⟩ := hM
  have h6 := hc.1.os.1
  have h3 := hD.d3
  have h1 := hD.d1
  have h7 := hD.p.pos
  simp only [s1,i1,bs,Bool.not_true,cnd_f]
  rcases vectors_spec hD h6 (rows := rows) hr.len with ⟨v1,v2⟩ | ⟨v1,v2⟩
  ·rcases vectors_impl hD h6 (rows := rows) hr.len with ⟨w1,_⟩ | ⟨_,w2⟩
   ·have hlen : rows.length ≤ 600000 := by
     have hs : rows.length * 1 ≤ sm c1 rows := by
      have key : ∀ xs : Mx,(∀ r ∈ xs,1 ≤ c1 r) → xs.length * 1 ≤ sm c1 xs := by
       intro xs
       induction xs with
       | nil => intro _;simp [sm]
       | cons y ys ih =>
        intro h
        have := ih fun r hr => h r (by simp [hr])
        have := h y (by simp)
        simp only [sm,List.length_cons];omega
      refine key rows fun r hr => ?_
      rw [c1,Row.len v2 r hr];exact h1
     simp only [S2,c2] at hr
     omega
    obtain ⟨R,pv,r1,r2,r3,r4⟩ := reduce_both hD.p (n := D) (by omega) (rows := rows) hlen v2
    obtain ⟨W,pv',q1,q2,q3⟩ := spin_both hD h6 rfl D R pv r3 (by omega)
    have hWl : W.length ≤ D := q3.len_le
    rw [v1,w1]
    simp only [bs,Bool.not_true,cnd_f]
    unfold f_spec_l21Spin f_impl_spanOf f_spec_l02Make
    rw [r1,r2,hD.d]
    simp only [bs]
    rw [q1,q2]
    simp only [bs]
    rw [own2_spec (by omega) (fun i hi => by rw [(q3.row i hi).1];omega)]
    simp only [bs]
    exact ⟨_,_,rfl,rfl,q3.small (by omega)⟩
   ·exact absurd v2 w2
  ·rcases vectors_impl hD h6 (rows := rows) hr.len with ⟨_,w2⟩ | ⟨w1,_⟩
   ·exact absurd w2 v2
   ·rw [v1,w1]
    simp only [bs,Bool.not_false,cnd_t]
    exact ⟨_,_,rfl,rfl,hnil⟩
 ·simp only [s1,i1,bs,Bool.not_false,cnd_t]
  exact ⟨_,_,rfl,rfl,hnil⟩
theorem law_SubmoduleOf (x0 : SPresentation) (x1 : SModule) (x2 : Mx) (v0 : VPres x0) (v1 : VMod x1) (v2 : VL (VL VI) x2)
  (h : SPres x0 → SMod x1 → S2 x2 → ∃ g k,f_spec_SubmoduleOf x0 x1 x2 = some (g,k) ∧ f_impl_SubmoduleOf x0 x1 x2 = some (g,k) ∧ S2 g.Rows) : f_laws_FnExactSubmoduleOf x0 x1 x2 = some true := by
 unfold f_laws_FnExactSubmoduleOf
 rw [szPresentation v0 (by decide) (by decide),bs]
 rcases sz_case (c := cPres x0) (b := 1048576) (by decide) (by decide) with e | ⟨e,a1,a2,a3⟩ <;> rw [e]
 ·rfl
 rw [cnd_f,szModule v1 a1 a2,bs]
 rcases sz_case (c := cMod x1) a1 a2 with e | ⟨e,b1,b2,b3⟩ <;> rw [e]
 ·rfl
 rw [cnd_f,szInt64SS v2 b1 b2,bs]
 rcases sz_case (c := c2 x2) b1 b2 with e | ⟨e,d1,d2,d3⟩ <;> rw [e]
 ·rfl
 have s0 := SPres.of a3
 have s1 := SMod.of b3
 have s2 : S2 x2 := d3
 obtain ⟨g,k,hs,hi,sg⟩ := h s0 s1 s2
 have t0 := totP_le s0
 have q1 := sm3_le (x := x1.Actions)
 have q2 := sm2_le (x := g.Rows)
 have q3 := sm2_le (x := x2)
 simp only [cMod] at b3
 rw [cnd_f,toPresentation s0,bs,toModule s1,bs,toInt64SS s2,bs]
 simp only [bs]
 rw [hs,bs,hi,bs]
 simp only
 rw [eqMatrix sg,bs]
 simp only [Bool.not_true,cnd_f,bne_self_eq_false]
 rw [eqPresentation s0,bs,Bool.not_true,cnd_f,eqModule s1,bs,Bool.not_true,cnd_f,eqInt64SS s2,bs,beq_self_eq_true,Bool.not_true,cnd_f,markPresentation_eq s0 (by decide) (by decide),bs]
 simp only
 rw [markModule s1 (by omega) (by omega),bs]
 simp only
 rw [markInt64SS s2 (by omega) (by omega),bs]
 simp only
 rw [decide_eq_false (by omega),cnd_f,bs,Bool.not_true,cnd_f]
 rw [markMatrix sg (by decide) (by decide),bs]
 simp only
 rw [heldMatrix sg (by decide) (by decide),bs,decide_eq_false (by omega),cnd_f,bne_self_eq_false,cnd_f,bs]
 simp only
 rw [eqMatrix sg,bs,Bool.not_true,cnd_f,bne_self_eq_false,cnd_f,bs,decide_eq_false (by omega),cnd_f,bne_self_eq_false,cnd_f]
theorem SubmoduleOf_plain (x0 : SPresentation) (x1 : SModule) (x2 : Mx) (v0 : VPres x0) (v1 : VMod x1) (v2 : VL (VL VI) x2) : f_laws_FnExactSubmoduleOf x0 x1 x2 = some true :=
 law_SubmoduleOf x0 x1 x2 v0 v1 v2 SubmoduleOf_agree
end Go.Pl
