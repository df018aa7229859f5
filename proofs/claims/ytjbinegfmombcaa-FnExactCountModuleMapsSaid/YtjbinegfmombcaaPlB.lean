/- The program and the reference count the module maps alike, for all arguments (FnExactCountModuleMaps). This file is a part of the proof. -/
import Derived.Test.YtjbinegfmombcaaPlA
namespace Go.Pl
open Go Go.Ab Go.Wk Go.Pc
section
variable {p : Int} (hp : Prime p) {n : Nat} {out : Mx} {pv : Nat → Nat} (h : Red p n out pv) {u : List Int} {k q : Nat} (hu : Row p n u) (hk : k < n) (u1 : at0 u k = 1) (ul : ∀ j,j < k → at0 u j = 0) (up : ∀ i,i < out.length → at0 u (pv i) = 0) (hq : q ≤ out.length) (q1 : ∀ i,i < q → pv i < k) (q2 : ∀ i,q ≤ i → i < out.length → k < pv i)
def oth (p : Int) (n : Nat) (out : Mx) (u : List Int) (k i : Nat) : List Int := addM p n (out.getD i []) (p - at0 (out.getD i []) k) u
def newR (p : Int) (n : Nat) (out : Mx) (u : List Int) (k q i : Nat) : List Int := if i < q then oth p n out u k i else if i = q then u else oth p n out u k (i - 1)
def newP (pv : Nat → Nat) (k q i : Nat) : Nat := if i < q then pv i else if i = q then k else pv (i - 1)
 include hp h hu hk u1 ul up hq q1 q2
theorem oth_at {i j : Nat} (hj : j < n) : at0 (oth p n out u k i) j = (at0 (out.getD i []) j - at0 (out.getD i []) k * at0 u j) % p := by
 have _ := hp;have _ := h;have _ := hu;have _ := hk;have _ := u1;have _ := ul;have _ := up;have _ := hq;have _ := q1;have _ := q2
 rw [oth,addM,mkv_at hj,show at0 (out.getD i []) j + (p - at0 (out.getD i []) k) * at0 u j = at0 (out.getD i []) j - at0 (out.getD i []) k * at0 u j + p * at0 u j from by rw [Int.sub_mul];omega,Int.add_mul_emod_self_left]
theorem oth_same {i j : Nat} (hi : i < out.length) (hj : j < n) (hz : at0 (out.getD i []) k = 0 ∨ at0 u j = 0) : at0 (oth p n out u k i) j = ent out i j := by
 rw [oth_at hp h hu hk u1 ul up hq q1 q2 hj]
 have := (h.row i hi).2 j hj
 have e : at0 (out.getD i []) k * at0 u j = 0 := by rcases hz with g | g <;> rw [g] <;> simp
 rw [e,Int.sub_zero];exact Int.emod_eq_of_lt this.1 (by omega)
theorem oth_k {i : Nat} : at0 (oth p n out u k i) k = 0 := by
 rw [oth_at hp h hu hk u1 ul up hq q1 q2 hk,u1,Int.mul_one,Int.sub_self];rfl
theorem oth_low {i j : Nat} (hi : i < out.length) (hj : j < pv i) (hne : pv i ≠ k) : at0 (oth p n out u k i) j = 0 := by
 have hlt := h.lt i hi
 rcases Nat.lt_or_ge (pv i) k with g | g
 ·rw [oth_same hp h hu hk u1 ul up hq q1 q2 hi (by omega) (.inr (ul j (by omega)))];exact h.low i hi j hj
 ·have := h.low i hi k (by omega)
  rw [oth_same hp h hu hk u1 ul up hq q1 q2 hi (by omega) (.inl this)];exact h.low i hi j hj
theorem pv_ne {i : Nat} (hi : i < out.length) : pv i ≠ k := by
 have _ := h;have _ := q1;have _ := q2
 have _ := hp;have _ := hu;have _ := hk;have _ := ul;have _ := hq
 intro e
 have := up i hi
 rw [e,u1] at this;cases this
theorem new_cases {i : Nat} (hi : i < out.length + 1) : (i = q ∧ newR p n out u k q i = u ∧ newP pv k q i = k) ∨ ∃ a,a < out.length ∧ (i < q ∧ a = i ∨ q < i ∧ i = a + 1) ∧ newR p n out u k q i = oth p n out u k a ∧ newP pv k q i = pv a := by
 have _ := hp;have _ := h;have _ := hu;have _ := hk;have _ := u1;have _ := ul;have _ := up;have _ := q1;have _ := q2
 unfold newR newP
 rcases Nat.lt_trichotomy i q with g | g | g
 ·exact .inr ⟨i,by omega,.inl ⟨g,rfl⟩,by rw [if_pos g],by rw [if_pos g]⟩
 ·exact .inl ⟨g,by rw [if_neg (by omega),if_pos g],by rw [if_neg (by omega),if_pos g]⟩
 ·exact .inr ⟨i - 1,by omega,.inr ⟨g,by omega⟩,by rw [if_neg (by omega),if_neg (by omega)],by rw [if_neg (by omega),if_neg (by omega)]⟩
theorem insert_red : Red p n (mkR (out.length + 1) (newR p n out u k q)) (newP pv k q) := by
 have nc := fun i hi => new_cases hp h hu hk u1 ul up hq q1 q2 (i := i) hi
 have pn := fun i hi => pv_ne hp h hu hk u1 ul up hq q1 q2 (i := i) hi
 refine ⟨fun i hi => ?_,fun i hi => ?_,fun i hi => ?_,fun i hi j hj => ?_,fun i j hi hj hne => ?_,fun i j hij hj => ?_⟩ <;> rw [mkR_len] at *
 ·rw [mkR_get hi]
  rcases nc i hi with ⟨_,e,_⟩ | ⟨a,_,_,e,_⟩ <;> rw [e]
  ·exact hu
  ·exact addM_row hp
 ·rcases nc i hi with ⟨_,_,e⟩ | ⟨a,ha,_,_,e⟩ <;> rw [e]
  ·exact hk
  ·exact h.lt a ha
 ·rw [mkR_ent hi]
  rcases nc i hi with ⟨_,e1,e2⟩ | ⟨a,ha,_,e1,e2⟩ <;> rw [e1,e2]
  ·exact u1
  ·rw [oth_same hp h hu hk u1 ul up hq q1 q2 ha (h.lt a ha) (.inr (up a ha))];exact h.one a ha
 ·rw [mkR_ent hi]
  rcases nc i hi with ⟨_,e1,e2⟩ | ⟨a,ha,_,e1,e2⟩ <;> rw [e2] at hj <;> rw [e1]
  ·exact ul j hj
  ·exact oth_low hp h hu hk u1 ul up hq q1 q2 ha hj (pn a ha)
 ·rw [mkR_ent hj]
  rcases nc i hi with ⟨g1,_,e2⟩ | ⟨a,ha,ga,_,e2⟩ <;> rw [e2] <;> rcases nc j hj with ⟨g3,e3,_⟩ | ⟨b,hb,gb,e3,_⟩ <;> rw [e3]
  ·omega
  ·exact oth_k hp h hu hk u1 ul up hq q1 q2
  ·exact up a ha
  ·rw [oth_same hp h hu hk u1 ul up hq q1 q2 hb (h.lt a ha) (.inr (up a ha))]
   exact h.off a b ha hb (by omega)
 ·rcases nc i (by omega) with ⟨g1,_,e2⟩ | ⟨a,ha,ga,_,e2⟩ <;> rw [e2] <;> rcases nc j hj with ⟨g3,_,e4⟩ | ⟨b,hb,gb,_,e4⟩ <;> rw [e4]
  ·omega
  ·exact q2 b (by omega) hb
  ·exact q1 a (by omega)
  ·exact h.mono a b (by omega) hb
theorem insert_sp : (∀ i,i < out.length + 1 → Sp p n (out ++ [u]) (newR p n out u k q i)) ∧ (∀ i,i < out.length → Sp p n (mkR (out.length + 1) (newR p n out u k q)) (out.getD i [])) ∧ Sp p n (mkR (out.length + 1) (newR p n out u k q)) u := by
 have hul : Sp p n (out ++ [u]) u := by
  have := sp_row (p := p) (n := n) (R := out ++ [u]) (i := out.length) (by simp)
  simpa [List.getD_eq_getElem?_getD] using this
 have hol : ∀ i,i < out.length → Sp p n (out ++ [u]) (out.getD i []) := fun i hi => by
  have := sp_row (p := p) (n := n) (R := out ++ [u]) (i := i) (by simp;omega)
  simpa [List.getD_eq_getElem?_getD,List.getElem?_append_left hi] using this
 have hoth : ∀ i,i < out.length → Sp p n (out ++ [u]) (oth p n out u k i) := fun i hi =>
  sp_add (k := p - at0 (out.getD i []) k) (hol i hi) hul fun j hj => by rw [oth,addM,mkv_at hj,Int.emod_emod]
 have hsu : Sp p n (mkR (out.length + 1) (newR p n out u k q)) u := by
  have := sp_mkR_row (p := p) (n := n) (m := out.length + 1) (F := newR p n out u k q) (i := q) (by omega)
  rw [show newR p n out u k q q = u from by unfold newR;rw [if_neg (by omega),if_pos rfl]] at this
  exact this
 refine ⟨fun i hi => ?_,fun i hi => ?_,hsu⟩
 ·rcases new_cases hp h hu hk u1 ul up hq q1 q2 hi with ⟨_,e,_⟩ | ⟨a,ha,_,e,_⟩ <;> rw [e]
  ·exact hul
  ·exact hoth a ha
 ·have hi2 : ∃ b,b < out.length + 1 ∧ newR p n out u k q b = oth p n out u k i := by
   rcases Nat.lt_or_ge i q with g | g
   ·exact ⟨i,by omega,by unfold newR;rw [if_pos g]⟩
   ·exact ⟨i + 1,by omega,by unfold newR;rw [if_neg (by omega),if_neg (by omega)];rfl⟩
  obtain ⟨b,hb,e⟩ := hi2
  have h1 := sp_mkR_row (p := p) (n := n) (m := out.length + 1) (F := newR p n out u k q) hb
  rw [e] at h1
  refine sp_add (k := at0 (out.getD i []) k) h1 hsu fun j hj => ?_
  rw [oth_at hp h hu hk u1 ul up hq q1 q2 hj,Int.add_emod,Int.emod_emod,← Int.add_emod,show at0 (out.getD i []) j - at0 (out.getD i []) k * at0 u j + at0 (out.getD i []) k * at0 u j = at0 (out.getD i []) j from by omega]
theorem insert_loop (hn : n ≤ 100000) (hm : out.length ≤ 100000) {x : Int} :
  ((loopO (l1_spec_l02Reduce p (out,x) (k : Int) u) ([],false,0)).bind fun r32 => cond (!r32.2) ((appO r32.1 [u]).bind fun v33 => some v33) (some r32.1)) = some (mkR (out.length + 1) (newR p n out u k q)) := by
 have _ := u1;have _ := ul;have _ := up
 have h7 := hp.pos
 have ho : ∀ i,i < out.length → f_spec_l02Add p (out.getD i []) (p - at0 (out.getD i []) k) u = some (oth p n out u k i) ∧ ixO (out.getD i []) (k : Int) = some (at0 (out.getD i []) k) ∧ 0 ≤ at0 (out.getD i []) k ∧ at0 (out.getD i []) k ≤ p - 1 ∧ f_spec_l02Lead (out.getD i []) = some (pv i : Int) := fun i hi => by
  have hr := h.row i hi
  have hk2 := hr.2 k hk
  have hone := h.one i hi
  have hlow := h.low i hi
  simp only [ent] at hone hlow
  exact ⟨by rw [l02Add_spec hp hr hu ⟨by omega,by omega⟩ (by omega)];rfl,ixO_at (by rw [hr.1];exact hk),hk2.1,hk2.2,lead_is hr.1 (by omega) (h.lt i hi) hlow (by rw [hone];decide)⟩
 have hsn : ∀ {m : Nat} {F : Nat → List Int},mkR m F ++ [F m] = mkR (m + 1) F := fun {m F} => by simp [mkR,List.range_succ]
 have := loopO_seq (body := l1_spec_l02Reduce p (out,x) (k : Int) u) (r := (if out.length ≤ q then (mkR out.length (newR p n out u k q),false) else (mkR (out.length + 1) (newR p n out u k q),true)))
  (fun j => if j ≤ q then (mkR j (newR p n out u k q),false,(j : Int)) else (mkR (j + 1) (newR p n out u k q),true,(j : Int))) out.length (fun j hj => by
   obtain ⟨a1,a2,a3,a4,a5⟩ := ho j hj
   have hrg : rng (p - at0 (out.getD j []) k) = some (p - at0 (out.getD j []) k) := rng_of (by omega) (by omega)
   rcases Nat.lt_trichotomy j q with g | g | g
   ·have hpj := q1 j g
    rw [if_pos (by omega),if_pos (by omega)]
    unfold l1_spec_l02Reduce
    simp only
    rw [lt_t hj,cnd_t,Bool.not_false,cnd_t,ixO_d [] hj]
    simp only [bs,a5]
    rw [decide_eq_false (by omega),cnd_f,a2]
    simp only [bs,hrg,a1]
    rw [appO_of (by rw [mkR_len];simp;omega),bs,rng_of (by omega) (by omega),bs,cs]
    have : newR p n out u k q j = oth p n out u k j := by unfold newR;rw [if_pos g]
    rw [← this,hsn]
   ·subst g
    have hpj := q2 j (Nat.le_refl _) hj
    rw [if_pos (by omega),if_neg (by omega)]
    unfold l1_spec_l02Reduce
    simp only
    rw [lt_t hj,cnd_t,Bool.not_false,cnd_t,ixO_d [] hj]
    simp only [bs,a5]
    rw [decide_eq_true (by omega),cnd_t,appO_of (by rw [mkR_len];simp;omega),a2]
    simp only [bs,hrg,a1]
    have e1 : newR p n out u k j j = u := by unfold newR;rw [if_neg (by omega),if_pos rfl]
    have e2 : newR p n out u k j (j + 1) = oth p n out u k j := by unfold newR;rw [if_neg (by omega),if_neg (by omega)];rfl
    have e3 : mkR j (newR p n out u k j) ++ [u] = mkR (j + 1) (newR p n out u k j) := by rw [← hsn,e1]
    rw [e3,appO_of (by rw [mkR_len];simp;omega),bs,rng_of (by omega) (by omega),bs,cs,← e2,hsn]
   ·rw [if_neg (by omega),if_neg (by omega)]
    unfold l1_spec_l02Reduce
    simp only
    rw [lt_t hj,cnd_t,Bool.not_true,cnd_f,ixO_d [] hj]
    simp only [bs,a2,hrg,a1]
    have e2 : newR p n out u k q (j + 1) = oth p n out u k j := by unfold newR;rw [if_neg (by omega),if_neg (by omega)];rfl
    rw [appO_of (by rw [mkR_len];simp;omega),bs,rng_of (by omega) (by omega),bs,cs,← e2,hsn]) (by
   by_cases g : out.length ≤ q
   ·rw [if_pos g,if_pos g]
    unfold l1_spec_l02Reduce
    simp only
    rw [lt_f,cnd_f]
   ·rw [if_neg g,if_neg g]
    unfold l1_spec_l02Reduce
    simp only
    rw [lt_f,cnd_f])
 rw [if_pos (Nat.zero_le _),show ((0 : Nat) : Int) = 0 from rfl,show mkR 0 (newR p n out u k q) = [] from rfl] at this
 rw [this,bs]
 by_cases g : out.length ≤ q
 ·have e1 : newR p n out u k q out.length = u := by unfold newR;rw [if_neg (by omega),if_pos (by omega)]
  rw [if_pos g]
  simp only
  rw [Bool.not_false,cnd_t,appO_of (by rw [mkR_len];simp;omega),bs]
  congr 1
  rw [← hsn,e1]
 ·rw [if_neg g]
  simp only
  rw [Bool.not_true,cnd_f]
end
end Go.Pl

namespace Go.Pl
open Go Go.Ab Go.Wk Go.Pc
theorem sp_sum {p : Int} {n : Nat} {R out : Mx} {cf : Nat → Int} (ho : ∀ i,i < out.length → Sp p n R (out.getD i [])) {u : List Int} (hu : ∀ j,j < n → at0 u j % p = (S out.length fun k => cf k * ent out k j) % p) : Sp p n R u :=
 sp_trans ho ⟨cf,fun j hj => (hu j hj).symm⟩
theorem Red.len_le {p : Int} {n : Nat} {R : Mx} {pv : Nat → Nat} (h : Red p n R pv) : R.length ≤ n := by
 have key : ∀ i,i < R.length → i ≤ pv i := by
  intro i
  induction i with
  | zero => intro _;omega
  | succ i ih =>
   intro hi
   have h1 := ih (by omega)
   have h2 := h.mono i (i + 1) (by omega) hi
   omega
 rcases Nat.eq_zero_or_pos R.length with g | g
 ·omega
 ·have h1 := key (R.length - 1) (by omega)
  have h2 := h.lt (R.length - 1) (by omega)
  omega
theorem getD_snoc {xs : Mx} {v : List Int} {i : Nat} (h : i < xs.length) : (xs ++ [v]).getD i [] = xs.getD i [] := by
 simp only [List.getD_eq_getElem?_getD,List.getElem?_append_left h]
theorem getD_last {xs : Mx} {v : List Int} : (xs ++ [v]).getD xs.length [] = v := by simp [List.getD_eq_getElem?_getD]
section
variable {p : Int} (hp : Prime p) {n : Nat} (hn : n ≤ 100000)
 include hp hn
theorem scale_spec {w : List Int} (hw : Row p n w) {r : Int} (h0 : 0 ≤ r) (h1 : r ≤ p - 1) : f_spec_l02Scale p r w = some (mkv n fun j => (at0 w j * r) % p) := by
 have h7 := hp.pos
 unfold f_spec_l02Scale
 rw [hw.1,lenOk_nat (by omega),bs,l02Add_spec hp (z0_row (by omega)) hw ⟨by omega,by omega⟩ (by omega),bs]
 congr 1
 refine mkv_congr fun j hj => ?_
 rw [show at0 (z0 n) j = 0 from by simp [z0,at0,List.getD_eq_getElem?_getD,hj],Int.zero_add,Int.mul_comm]
variable {rows : Mx} (hm : rows.length ≤ 600000) (hr : ∀ i,i < rows.length → Row p n (rows.getD i []))
 include hm hr
theorem reduce_specL : ∃ R pv,f_spec_l02Reduce p rows = some R ∧ (Red p n R pv ∧ R.length ≤ rows.length) ∧ SpEq p n R rows := by
 have h7 := hp.pos
 unfold f_spec_l02Reduce
 have main := loopO_tot (body := l2_spec_l02Reduce p rows) (s := ([],0)) (Q := fun R => ∃ pv,(Red p n R pv ∧ R.length ≤ rows.length) ∧ SpEq p n R rows)
  (fun i s => ∃ (out : Mx) (pv : Nat → Nat),s = (out,(i : Int)) ∧ Red p n out pv ∧ SpEq p n out (rows.take i) ∧ out.length ≤ i ∧ i ≤ rows.length) rows.length (fun i s hi hI => ?_) (fun s hI => ?_) ⟨[],fun _ => 0,rfl,Red.empty,by rw [List.take_zero];exact SpEq.refl,Nat.zero_le _,Nat.zero_le _⟩
 ·obtain ⟨R,h1,pv,h2,h3⟩ := main
  rw [h1,bs]
  exact ⟨R,pv,rfl,h2,h3⟩
 ·obtain ⟨out,pv,rfl,h,hs,hl,_⟩ := hI
  have hon : out.length ≤ n := h.len_le
  left
  have hv := hr i hi
  have hw := cl_row hp hn h hv out.length
  have hcl := clear_spec hp hn h hv (by omega)
  have hpz := cl_piv hp hn h hv out.length (Nat.le_refl _)
  obtain ⟨cf,hcf⟩ := cl_comb hp hn h hv out.length (Nat.le_refl _)
  obtain ⟨k,k1,k2,k3,k4⟩ := lead_spec hw.1 (by omega)
  have htk : rows.take (i + 1) = rows.take i ++ [rows.getD i []] := by
   rw [List.take_succ_eq_append_getElem hi,List.getD_eq_getElem?_getD,List.getElem?_eq_getElem hi];rfl
  have hti : (rows.take i).length = i := by rw [List.length_take];omega
  have hup : ∀ u,Sp p n (rows.take i) u → Sp p n (rows.take (i + 1)) u := fun u hu => sp_trans (fun a ha => by
   have := sp_row (p := p) (n := n) (R := rows.take (i + 1)) (i := a) (by rw [htk,List.length_append];omega)
   rw [htk,getD_snoc ha,← htk] at this;exact this) hu
  have hvs : Sp p n (rows.take (i + 1)) (rows.getD i []) := by
   have := sp_row (p := p) (n := n) (R := rows.take (i + 1)) (i := i) (by rw [htk,List.length_append,hti];simp)
   rw [htk] at this
   have e : (rows.take i ++ [rows.getD i []]).getD i [] = rows.getD i [] := by
    have := getD_last (xs := rows.take i) (v := rows.getD i [])
    rw [hti] at this;exact this
   rw [e,← htk] at this;exact this
  by_cases hkn : k = n
  ·
   refine ⟨(out,((i + 1 : Nat) : Int)),?_,out,pv,rfl,h,⟨fun a ha => hup _ (hs.1 a ha),fun a ha => ?_⟩,by omega,by omega⟩
   ·unfold l2_spec_l02Reduce
    simp only
    rw [lt_t hi,cnd_t,ixO_d [] hi]
    simp only [bs,hcl,k2]
    rw [hw.1,beq_t (by omega),cnd_t,rng_of (by omega) (by omega),bs,cs]
   ·rw [htk,List.length_append,hti,List.length_singleton] at ha
    rw [htk]
    rcases Nat.lt_or_ge a i with g | g
    ·rw [getD_snoc (by omega)];exact hs.2 a (by omega)
    ·have : a = i := by omega
     subst this
     have e : (rows.take a ++ [rows.getD a []]).getD a [] = rows.getD a [] := by
      have := getD_last (xs := rows.take a) (v := rows.getD a [])
      rw [hti] at this;exact this
     rw [e]
     refine sp_sum (out := out) (cf := fun q => -1 * cf q) (fun a ha => sp_row ha) fun j hj => ?_
     have h1 := hcf j hj
     rw [k3 j (by omega)] at h1
     rw [S_congr (g := fun q => -1 * (cf q * ent out q j)) (fun q _ => by rw [Int.mul_assoc]),S_mul']
     have h2 : (at0 (rows.getD a []) j + S out.length fun q => cf q * ent out q j) % p = 0 := by rw [← h1];rfl
     rw [show at0 (rows.getD a []) j = (at0 (rows.getD a []) j + S out.length fun q => cf q * ent out q j) + -1 * (S out.length fun q => cf q * ent out q j) from by omega,Int.add_emod,h2,Int.zero_add,Int.emod_emod]
  ·have hk : k < n := by omega
   have hwk := hw.2 k hk
   have hne := k4 hk
   obtain ⟨r,r1,r2,r3,r4⟩ := inv_spec hp (x := at0 (cl p n out pv (rows.getD i []) out.length) k) (by omega) (by omega)
   have hsc := scale_spec hp hn hw r2 r3
   have hu : Row p n (mkv n fun j => (at0 (cl p n out pv (rows.getD i []) out.length) j * r) % p) := ⟨mkv_length _ _,fun j hj => by
    have e1 := Int.emod_nonneg (at0 (cl p n out pv (rows.getD i []) out.length) j * r) (show p ≠ 0 by omega)
    have e2 := Int.emod_lt_of_pos (at0 (cl p n out pv (rows.getD i []) out.length) j * r) (show 0 < p by omega)
    rw [mkv_at hj];omega⟩
   have ua : ∀ j,j < n → at0 (mkv n fun j => (at0 (cl p n out pv (rows.getD i []) out.length) j * r) % p) j = (at0 (cl p n out pv (rows.getD i []) out.length) j * r) % p := fun j hj => mkv_at hj
   generalize mkv n (fun j => (at0 (cl p n out pv (rows.getD i []) out.length) j * r) % p) = u at hsc hu ua
   have u1 : at0 u k = 1 := by rw [ua k hk];exact r4
   have ul : ∀ j,j < k → at0 u j = 0 := fun j hj => by rw [ua j (by omega),k3 j hj];simp
   have up : ∀ a,a < out.length → at0 u (pv a) = 0 := fun a ha => by rw [ua _ (h.lt a ha),hpz a ha];simp
   obtain ⟨q,⟨hq,hq2⟩,hmin⟩ := least (p := fun q => q ≤ out.length ∧ (q < out.length → k < pv q)) ⟨out.length,Nat.le_refl _,fun g => by omega⟩
   have q1 : ∀ a,a < q → pv a < k := fun a ha => by
    have h1 : ¬ (k < pv a) := fun g => hmin a ha ⟨by omega,fun _ => g⟩
    have h2 : pv a ≠ k := fun e => by
     have := up a (by omega)
     rw [e,u1] at this;cases this
    omega
   have q2 : ∀ a,q ≤ a → a < out.length → k < pv a := fun a ha ha2 => by
    have h1 := hq2 (by omega)
    rcases Nat.lt_or_ge q a with g | g
    ·have := h.mono q a g ha2;omega
    ·rw [show a = q from by omega];exact h1
   have hins := insert_loop hp h hu hk u1 ul up hq q1 q2 hn (by omega) (x := (i : Int))
   have hred := insert_red hp h hu hk u1 ul up hq q1 q2
   obtain ⟨s1,s2,s3⟩ := insert_sp hp h hu hk u1 ul up hq q1 q2
   refine ⟨(mkR (out.length + 1) (newR p n out u k q),((i + 1 : Nat) : Int)),?_,_,_,rfl,hred,⟨fun a ha => ?_,fun a ha => ?_⟩,by rw [mkR_len];omega,by omega⟩
   ·unfold l2_spec_l02Reduce
    simp only
    rw [lt_t hi,cnd_t,ixO_d [] hi]
    simp only [bs,hcl,k2]
    rw [hw.1,beq_f (by omega),cnd_f,ixO_at (by rw [hw.1];exact hk)]
    simp only [bs,r1,hsc]
    cases hlo : loopO (l1_spec_l02Reduce p (out,(i : Int)) (k : Int) u) ([],false,0) with
    | none => rw [hlo] at hins;cases hins
    | some r32 =>
     rw [hlo,bs] at hins
     simp only [bs]
     obtain ⟨a1,a2⟩ := r32
     cases a2 with
     | true =>
      simp only [Bool.not_true,cnd_f] at hins ⊢
      rw [rng_of (by omega) (by omega),bs,cs,Option.some.inj hins]
     | false =>
      simp only [Bool.not_false,cnd_t] at hins ⊢
      cases hap : appO a1 [u] with
      | none => rw [hap] at hins;cases hins
      | some v33 =>
       rw [hap,bs] at hins
       simp only [bs]
       rw [rng_of (by omega) (by omega),bs,cs,Option.some.inj hins]
   ·rw [mkR_len] at ha
    rw [mkR_get ha]
    refine sp_trans (fun b hb => ?_) (s1 a ha)
    rw [List.length_append,List.length_singleton] at hb
    rcases Nat.lt_or_ge b out.length with g | g
    ·rw [getD_snoc g];exact hup _ (hs.1 b g)
    ·rw [show b = out.length from by omega,getD_last]
     have hwS : Sp p n (rows.take (i + 1)) (cl p n out pv (rows.getD i []) out.length) := by
      have hcS : Sp p n (rows.take (i + 1)) (mkv n fun j => S out.length fun k => cf k * ent out k j) := sp_sum (out := out) (cf := cf) (fun b hb => hup _ (hs.1 b hb)) fun j hj => by rw [mkv_at hj]
      refine sp_add (k := 1) hvs hcS fun j hj => ?_
      rw [hcf j hj,mkv_at hj,Int.one_mul]
     refine sp_add (k := r) (sp_zero (u := []) fun j _ => by simp [at0]) hwS fun j hj => ?_
     rw [ua j hj,Int.emod_emod,show at0 ([] : List Int) j = 0 from by simp [at0],Int.zero_add,Int.mul_comm]
   ·rw [htk,List.length_append,hti,List.length_singleton] at ha
    rw [htk]
    rcases Nat.lt_or_ge a i with g | g
    ·rw [getD_snoc (by omega)]
     exact sp_trans s2 (hs.2 a (by omega))
    ·have hai : a = i := by omega
     subst hai
     have e : (rows.take a ++ [rows.getD a []]).getD a [] = rows.getD a [] := by
      have := getD_last (xs := rows.take a) (v := rows.getD a [])
      rw [hti] at this;exact this
     rw [e]
     have hwS : Sp p n (mkR (out.length + 1) (newR p n out u k q)) (cl p n out pv (rows.getD a []) out.length) := by
      refine sp_add (k := at0 (cl p n out pv (rows.getD a []) out.length) k) (sp_zero (u := []) fun j _ => by simp [at0]) s3 fun j hj => ?_
      rw [ua j hj,show at0 ([] : List Int) j = 0 from by simp [at0],Int.zero_add]
      rw [Int.mul_emod,Int.emod_emod,← Int.mul_emod,← Int.mul_assoc,Int.mul_comm (at0 (cl p n out pv (rows.getD a []) out.length) k),Int.mul_assoc,Int.mul_emod,r4,Int.mul_one,Int.emod_emod]
     have hcS : Sp p n (mkR (out.length + 1) (newR p n out u k q)) (mkv n fun j => S out.length fun k => cf k * ent out k j) := sp_sum (out := out) (cf := cf) s2 fun j hj => by rw [mkv_at hj]
     refine sp_add (k := -1) hwS hcS fun j hj => ?_
     rw [mkv_at hj,Int.add_emod,hcf j hj,← Int.add_emod]
     congr 1;omega
 ·obtain ⟨out,pv,rfl,h,hs,hl,_⟩ := hI
  refine ⟨out,?_,pv,⟨h,hl⟩,by rw [List.take_length] at hs;exact hs⟩
  unfold l2_spec_l02Reduce
  simp only
  rw [lt_f,cnd_f]
theorem reduce_spec : ∃ R pv,f_spec_l02Reduce p rows = some R ∧ Red p n R pv ∧ SpEq p n R rows := by
 obtain ⟨R,pv,h1,h2,h3⟩ := reduce_specL hp hn hm hr
 exact ⟨R,pv,h1,h2.1,h3⟩
theorem reduce_len {R : Mx} {pv : Nat → Nat} (h : Red p n R pv) (hs : SpEq p n R rows) : R.length ≤ rows.length := by
 have h7 := hp.pos
 obtain ⟨R',pv',_,h2,h3⟩ := reduce_specL hp hn hm hr
 rw [h.unique (by omega) h2.1 (hs.trans h3.symm)];exact h2.2
theorem reduce_both : ∃ R pv,f_spec_l02Reduce p rows = some R ∧ f_impl_reduceRows p rows = some R ∧ Red p n R pv ∧ SpEq p n R rows := by
 have h7 := hp.pos
 obtain ⟨R,pv,h1,h2,h3⟩ := reduce_spec hp hn hm hr
 obtain ⟨R',pv',g1,g2,g3⟩ := reduce_impl hp hn hm hr
 have e := h2.unique (by omega) g2 (h3.trans g3.symm)
 exact ⟨R,pv,h1,by rw [e];exact g1,h2,h3⟩
end
end Go.Pl

namespace Go.Pl
open Go Go.Ab Go.Wk Go.Pc
theorem map_loop {β : Type} {body : List β × Int → Option ((List β × Int) ⊕ List β)} (n : Nat) (F : Nat → β) (h : ∀ i acc,i < n → acc.length = i → body (acc,(i : Int)) = some (.inl (acc ++ [F i],((i + 1 : Nat) : Int)))) (he : ∀ acc,body (acc,(n : Int)) = some (.inr acc)) :
  loopO body ([],0) = some ((List.range n).map F) := by
 have := loopO_seq (body := body) (r := (List.range n).map F) (fun i => ((List.range i).map F,(i : Int))) n (fun i hi => by
  rw [h i _ hi (by simp),List.range_succ,List.map_append];rfl) (he _)
 exact this
theorem row_iff {p : Int} {L : Nat} {v : List Int} : Row p L v ↔ v.length = L ∧ ∀ a ∈ v,0 ≤ a ∧ a ≤ p - 1 := by
 constructor
 ·rintro ⟨h1,h2⟩
  refine ⟨h1,fun a ha => ?_⟩
  obtain ⟨i,hi,rfl⟩ := List.mem_iff_getElem.1 ha
  have := h2 i (by omega)
  simpa [at0,List.getD_eq_getElem?_getD,List.getElem?_eq_getElem hi] using this
 ·rintro ⟨h1,h2⟩
  refine ⟨h1,fun i hi => ?_⟩
  have := h2 v[i] (List.getElem_mem (by omega))
  simpa [at0,List.getD_eq_getElem?_getD,List.getElem?_eq_getElem (show i < v.length by omega)] using this
end Go.Pl

namespace Go.Pl
open Go Go.Ab Go.Wk Go.Pc
abbrev gl {β : Type} (m : Nat) (F : Nat → β) : List β := (List.range m).map F
theorem gl_len {β : Type} {m : Nat} {F : Nat → β} : (gl m F).length = m := by simp [gl]
theorem gl_ix {β : Type} {m : Nat} {F : Nat → β} {i : Nat} (h : i < m) : ixO (gl m F) (i : Int) = some (F i) := by
 rw [ixO_get (by rw [gl_len];exact h)];simp [gl]
theorem gl_congr {β : Type} {m : Nat} {F G : Nat → β} (h : ∀ i,i < m → F i = G i) : gl m F = gl m G := List.map_congr_left fun i hi => h i (List.mem_range.1 hi)
theorem gl_set {β : Type} {m : Nat} {F : Nat → β} {i : Nat} {a : β} : (gl m F).set i a = gl m (fun k => if k = i then a else F k) := by
 apply List.ext_getElem?
 intro k
 by_cases hk : k < m
 ·by_cases h : i = k
  ·subst h;simp [gl,hk]
  ·rw [List.getElem?_set_ne h];simp [gl,hk,Ne.symm h]
 ·rw [List.getElem?_eq_none (by simp [gl];omega),List.getElem?_eq_none (by simp [gl];omega)]
theorem gl_snoc {β : Type} {m : Nat} {F : Nat → β} : gl m F ++ [F m] = gl (m + 1) F := by simp [gl,List.range_succ]
end Go.Pl

namespace Go.Pl
open Go Go.Ab Go.Wk Go.Pc
end Go.Pl

namespace Go.Pl
open Go Go.Ab Go.Wk Go.Pc
end Go.Pl

namespace Go.Pl
open Go Go.Ab Go.Wk Go.Pc
end Go.Pl

namespace Go.Pl
open Go Go.Ab Go.Wk Go.Pc
theorem getD_mem {R : Mx} {i : Nat} (hi : i < R.length) : R.getD i [] ∈ R := by
 rw [List.getD_eq_getElem?_getD,List.getElem?_eq_getElem hi];exact List.getElem_mem hi
end Go.Pl

namespace Go.Pl
open Go Go.Ab Go.Wk Go.Pc
end Go.Pl

namespace Go.Pl
open Go Go.Ab Go.Wk Go.Pc
end Go.Pl

namespace Go.Pl
open Go Go.Ab Go.Wk Go.Pc
section
variable {p : Int} (hp : 1 < p) {n : Nat} {R R' : Mx} {pv pv' : Nat → Nat} (h : Red p n R pv) (h' : Red p n R' pv') (hs : ∀ i,i < R.length → Sp p n R' (R.getD i []))
 include hp h h' hs
theorem Red.lt_of {i i2 k k2 : Nat} (hii : i < i2) (hi2 : i2 < R.length) (hk : k < R'.length) (e : pv' k = pv i) (e2 : pv' k2 = pv i2) : k < k2 := by
 have _ := hp;have _ := hs
 have h1 := h.mono i i2 hii hi2
 refine Classical.byContradiction fun hn => ?_
 rcases Nat.lt_or_ge k2 k with g | g
 ·have := h'.mono k2 k g hk;omega
 ·have : k = k2 := by omega
  subst this;omega
theorem Red.low_in : ∀ i,i < R.length → ∃ k,k < R'.length ∧ pv' k = pv i ∧ i ≤ k := by
 intro i
 induction i with
 | zero => intro hi;obtain ⟨k,hk,e⟩ := h.piv_in hp h' hs hi;exact ⟨k,hk,e,by omega⟩
 | succ i ih =>
  intro hi
  obtain ⟨k,hk,e,hik⟩ := ih (by omega)
  obtain ⟨k2,hk2,e2⟩ := h.piv_in hp h' hs hi
  have := h.lt_of hp h' hs (show i < i + 1 by omega) hi hk e e2
  exact ⟨k2,hk2,e2,by omega⟩
theorem Red.le_of : R.length ≤ R'.length := by
 rcases Nat.eq_zero_or_pos R.length with g | g
 ·omega
 ·obtain ⟨k,hk,_,hik⟩ := h.low_in hp h' hs (R.length - 1) (by omega)
  omega
end
end Go.Pl

namespace Go.Pl
open Go Go.Ab Go.Wk Go.Pc
end Go.Pl

namespace Go.Pl
open Go Go.Ab Go.Wk Go.Pc
theorem at0_app {u v : List Int} {j : Nat} : at0 (u ++ v) j = if j < u.length then at0 u j else at0 v (j - u.length) := by
 simp only [at0,List.getD_eq_getElem?_getD]
 split
 ·next h => rw [List.getElem?_append_left h]
 ·next h => rw [List.getElem?_append_right (by omega)]
theorem at0_drop {v : List Int} {c j : Nat} : at0 (v.drop c) j = at0 v (c + j) := by
 simp only [at0,List.getD_eq_getElem?_getD,List.getElem?_drop]
theorem at0_take {v : List Int} {c j : Nat} (h : j < c) : at0 (v.take c) j = at0 v j := by
 simp only [at0,List.getD_eq_getElem?_getD,List.getElem?_take,if_pos h]
theorem S_shift {f : Nat → Int} (t : Nat) : ∀ d : Nat,S (t + d) f = S t f + S d (fun i => f (t + i))
 | 0 => by simp [S]
 | d + 1 => by rw [← Nat.add_assoc];simp only [S];rw [S_shift t d];omega
theorem S_late {f : Nat → Int} {t n : Nat} (ht : t ≤ n) (h : ∀ i,i < t → f i = 0) : S n f = S (n - t) (fun i => f (t + i)) := by
 have e : n = t + (n - t) := by omega
 conv => lhs;rw [e,S_shift,S_congr (g := fun _ => 0) h,S_zero]
 omega
theorem S_early {f : Nat → Int} {t n : Nat} (ht : t ≤ n) (h : ∀ i,t ≤ i → i < n → f i = 0) : S n f = S t f := by
 have e : n = t + (n - t) := by omega
 conv => lhs;rw [e,S_shift,S_congr (f := fun i => f (t + i)) (g := fun _ => 0) (fun i hi => h (t + i) (by omega) (by omega)),S_zero]
 omega
theorem gl_getD {F : Nat → List Int} {m i : Nat} (h : i < m) : (gl m F).getD i [] = F i := by simp [gl,List.getD_eq_getElem?_getD,h]
def ur (N i : Nat) : List Int := mkv N fun j => if j = i then 1 else 0
def wd (N : Nat) (A : Mx) : Mx := gl N fun i => A.getD i [] ++ ur N i
def Gr (p : Int) (c N : Nat) (A : Mx) (u : List Int) : Prop := ∀ j,j < c → at0 u j % p = (S N fun k => at0 u (c + k) * ent A k j) % p
section
variable {p : Int} (hp : 1 < p) {c N : Nat} {A : Mx} (hA : ∀ i,i < N → Row p c (A.getD i []))
 include hA
theorem wd_len : (wd N A).length = N := by
 have _ := hA
 exact gl_len
theorem wd_left {i j : Nat} (hi : i < N) (hj : j < c) : ent (wd N A) i j = ent A i j := by
 rw [ent,wd,gl_getD hi,at0_app,(hA i hi).1,if_pos hj]
theorem wd_right {i l : Nat} (hi : i < N) (hl : l < N) : ent (wd N A) i (c + l) = if l = i then 1 else 0 := by
 rw [ent,wd,gl_getD hi,at0_app,(hA i hi).1,if_neg (by omega),Nat.add_sub_cancel_left,ur,mkv_at hl]
 include hp
theorem wd_row {i : Nat} (hi : i < N) : Row p (c + N) ((wd N A).getD i []) := by
 refine ⟨by rw [wd,gl_getD hi,List.length_append,(hA i hi).1,ur,mkv_length],fun j hj => ?_⟩
 rcases Nat.lt_or_ge j c with g | g
 ·have := (hA i hi).2 j g
  have e := wd_left hA hi g
  simp only [ent] at e
  rw [e];exact this
 ·have e := wd_right hA (l := j - c) hi (by omega)
  rw [show c + (j - c) = j from by omega] at e
  simp only [ent] at e
  rw [e]
  split <;> omega
theorem wd_sp {u : List Int} : Sp p (c + N) (wd N A) u ↔ Gr p c N A u := by
 have _ := hp
 constructor
 ·rintro ⟨cf,hcf⟩ j hj
  rw [wd_len hA] at hcf
  rw [← hcf j (by omega)]
  refine S_mod fun k hk => ?_
  have h1 := hcf (c + k) (by omega)
  rw [S_one (k := k) hk (fun i hi hne => by rw [wd_right hA hi hk,if_neg (Ne.symm hne),Int.mul_zero]),wd_right hA hk hk,if_pos rfl,Int.mul_one] at h1
  rw [wd_left hA hk hj,Int.mul_emod,h1,← Int.mul_emod]
 ·intro h
  refine ⟨fun k => at0 u (c + k),fun j hj => ?_⟩
  rw [wd_len hA]
  rcases Nat.lt_or_ge j c with g | g
  ·rw [h j g]
   refine congrArg (· % p) (S_congr fun k hk => ?_)
   rw [wd_left hA hk g]
  ·obtain ⟨l,rfl⟩ : ∃ l,j = c + l := ⟨j - c,by omega⟩
   rw [S_one (k := l) (by omega) (fun i hi hne => by rw [wd_right hA hi (by omega),if_neg (Ne.symm hne),Int.mul_zero]),wd_right hA (by omega) (by omega),if_pos rfl,Int.mul_one]
variable {W : Mx} {pv : Nat → Nat} (hW : Red p (c + N) W pv) (hs : SpEq p (c + N) W (wd N A))
 include hW
theorem cut_at : ∃ t,t ≤ W.length ∧ (∀ i,i < t → pv i < c) ∧ ∀ i,t ≤ i → i < W.length → c ≤ pv i := by
 have _ := hA;have _ := hp
 obtain ⟨t,ht,hmin⟩ := least (p := fun t => W.length ≤ t ∨ c ≤ pv t) ⟨W.length,.inl (Nat.le_refl _)⟩
 have hlt : ∀ i,i < t → i < W.length ∧ pv i < c := fun i hi => by
  have := hmin i hi
  exact ⟨Nat.lt_of_not_le fun h => this (.inl h),Nat.lt_of_not_le fun h => this (.inr h)⟩
 refine ⟨t,Nat.le_of_not_lt fun h => ?_,fun i hi => (hlt i hi).2,fun i hi hi2 => ?_⟩
 ·have := (hlt W.length h).1;omega
 ·rcases ht with h | h
  ·omega
  ·rcases Nat.lt_or_ge t i with g | g
   ·have := hW.mono t i g hi2;omega
   ·rw [show i = t from by omega];exact h
def nul (c t : Nat) (W : Mx) : Mx := gl (W.length - t) fun i => (W.getD (t + i) []).drop c
def lft (c t : Nat) (W : Mx) : Mx := gl t fun i => (W.getD i []).take c
 omit hp hA hW in
theorem lft_ent {t i j : Nat} (hi : i < t) (hj : j < c) : ent (lft c t W) i j = ent W i j := by
  rw [ent,lft,gl_getD hi,at0_take hj]
variable {t : Nat} (ht : t ≤ W.length) (h1 : ∀ i,i < t → pv i < c) (h2 : ∀ i,t ≤ i → i < W.length → c ≤ pv i)
 include ht h1 h2
 include hs
theorem sp_W {u : List Int} : Sp p (c + N) W u ↔ Gr p c N A u := by
 have _ := hW;have _ := ht;have _ := h1;have _ := h2
 exact hs.iff.trans (wd_sp hp hA)
theorem lft_red : Red p c (lft c t W) pv := by
 have _ := hp;have _ := hA;have _ := hs;have _ := h2
 have hl : (lft c t W).length = t := gl_len
 refine ⟨fun i hi => ?_,fun i hi => h1 i (by omega),fun i hi => ?_,fun i hi j hj => ?_,fun i k hi hk hne => ?_,fun i j hij hj => hW.mono i j hij (by omega)⟩
 ·rw [hl] at hi
  have hr := hW.row i (by omega)
  refine ⟨by rw [lft,gl_getD hi,List.length_take,hr.1];omega,fun j hj => ?_⟩
  rw [lft,gl_getD hi,at0_take hj]
  exact hr.2 j (by omega)
 ·rw [hl] at hi
  rw [lft_ent hi (h1 i hi)];exact hW.one _ (by omega)
 ·rw [hl] at hi
  have := h1 i hi
  rw [lft_ent hi (by omega)];exact hW.low _ (by omega) _ hj
 ·rw [hl] at hi hk
  rw [lft_ent hk (h1 i hi)];exact hW.off _ _ (by omega) (by omega) hne
theorem lft_sp (hAl : A.length = N) : SpEq p c (lft c t W) A := by
 have hl : (lft c t W).length = t := gl_len
 constructor
 ·intro i hi
  rw [hl] at hi
  have hg := (sp_W hp hA hW hs ht h1 h2).1 (sp_row (p := p) (n := c + N) (R := W) (i := i) (by omega))
  refine ⟨fun k => ent W i (c + k),fun j hj => ?_⟩
  rw [hAl,lft,gl_getD hi,at0_take hj]
  exact (hg j hj).symm
 ·intro k hk
  rw [hAl] at hk
  obtain ⟨cf,hcf⟩ := hs.2 k (by rw [wd_len hA];exact hk)
  refine ⟨cf,fun j hj => ?_⟩
  have h3 := hcf j (by omega)
  have e := wd_left hA hk hj
  simp only [ent] at e
  rw [e,S_early ht (fun i g1 g2 => by rw [hW.low i g2 j (by have := h2 i g1 g2;omega),Int.mul_zero])] at h3
  rw [hl,← h3]
  exact congrArg (· % p) (S_congr fun i hi => by rw [lft_ent hi hj])
end
end Go.Pl

namespace Go.Pl
open Go Go.Ab Go.Wk Go.Pc
theorem productR_impl {p : Int} (hp : Prime p) {D : Nat} (hD : D ≤ 3) {A B : Mx} {q : Int} (hl : A.length ≤ 1000) (hA : ∀ i,i < A.length → Row p D (A.getD i [])) (hB : Mat p D B) : f_impl_product (SMatrix.mk p q A) (SMatrix.mk p (D : Int) B) = some (SMatrix.mk p (D : Int) (PM p D A B)) := by
 unfold f_impl_product
 have := loopO_seq (body := l1_impl_product (SMatrix.mk p q A) (SMatrix.mk p (D : Int) B)) (r := PM p D A B) (fun i => ((PM p D A B).take i,(i : Int))) A.length (fun i hi => by
  unfold l1_impl_product
  simp only
  rw [lt_t hi,cnd_t,ixO_d [] (by omega),bs,vectorTimes_impl hp (by omega) (hA i hi) hB rfl,bs,appO_of (by rw [List.length_take,PM_length];simp;omega),bs,rng_of (by omega) (by omega),bs,cs,prod_take hp (by omega) (by omega)]) (by
  unfold l1_impl_product
  simp only
  rw [lt_f,cnd_f,List.take_of_length_le (by rw [PM_length];omega)])
 rw [show ((0 : Nat) : Int) = 0 from rfl,List.take_zero] at this
 rw [this,bs]
end Go.Pl

namespace Go.Pl
open Go Go.Ab Go.Wk Go.Pc
end Go.Pl

namespace Go.Pl
open Go Go.Ab Go.Wk Go.Pc
end Go.Pl

namespace Go.Pl
open Go Go.Ab Go.Wk Go.Pc
structure Nul (p : Int) (c N : Nat) (A W : Mx) (pv : Nat → Nat) (t : Nat) : Prop where
 row : ∀ i,i < N → Row p c (A.getD i [])
 len : A.length = N
 red : Red p (c + N) W pv
 sp : SpEq p (c + N) W (wd N A)
 le : t ≤ W.length
 lo : ∀ i,i < t → pv i < c
 hi : ∀ i,t ≤ i → i < W.length → c ≤ pv i
section
variable {p : Int} (hp : Prime p) {c N : Nat} (hcN : c + N ≤ 100000) {A W : Mx} {pv : Nat → Nat} {t : Nat}
 include hp hcN
theorem Nul.get (hr : ∀ i,i < N → Row p c (A.getD i [])) (hl : A.length = N) : ∃ W pv t,Nul p c N A W pv t ∧ f_spec_l02Reduce p (wd N A) = some W ∧ f_impl_reduceRows p (wd N A) = some W := by
 have h7 := hp.pos
 obtain ⟨W,pv,r1,r2,r3,r4⟩ := reduce_both hp (n := c + N) hcN (rows := wd N A) (by rw [wd_len hr];omega) (fun i hi => wd_row (by omega) hr (by rwa [wd_len hr] at hi))
 obtain ⟨t,t1,t2,t3⟩ := cut_at (by omega) hr r3
 exact ⟨W,pv,t,⟨hr,hl,r3,r4,t1,t2,t3⟩,r1,r2⟩
variable (h : Nul p c N A W pv t)
 include h
theorem Nul.full : W.length = N := by
 have h7 := hp.pos
 have g1 : W.length ≤ (wd N A).length := reduce_len hp (n := c + N) hcN (by rw [wd_len h.row];omega) (fun i hi => wd_row (by omega) h.row (by rwa [wd_len h.row] at hi)) h.red h.sp
 rw [wd_len h.row] at g1
 have hl : (gl W.length fun i => (W.getD i []).drop c).length = W.length := gl_len
 have hR : ∀ i,i < W.length → Row p N ((gl W.length fun i => (W.getD i []).drop c).getD i []) := fun i hi => by
  have hr := h.red.row i hi
  rw [gl_getD hi]
  refine ⟨by rw [List.length_drop,hr.1];omega,fun j hj => ?_⟩
  rw [at0_drop];exact hr.2 (c + j) (by omega)
 obtain ⟨R3,pv3,_,_,g3,g4⟩ := reduce_both hp (n := N) (by omega) (rows := gl W.length fun i => (W.getD i []).drop c) (by omega) (by rw [hl];exact hR)
 have g5 := reduce_len hp (n := N) (by omega) (by omega) (by rw [hl];exact hR) g3 g4
 have hul : (gl N (ur N)).length = N := gl_len
 have hent : ∀ i j,i < N → j < N → ent (gl N (ur N)) i j = if j = i then 1 else 0 := fun i j hi hj => by rw [ent,gl_getD hi,ur,mkv_at hj]
 have hid : Red p N (gl N (ur N)) (fun i => i) := by
  refine ⟨fun i hi => ?_,fun i hi => by omega,fun i hi => ?_,fun i hi j hj => ?_,fun i k hi hk hne => ?_,fun i j hij hj => hij⟩
  ·rw [hul] at hi
   rw [gl_getD hi]
   refine ⟨mkv_length _ _,fun j hj => ?_⟩
   rw [ur,mkv_at hj]
   split <;> omega
  ·rw [hul] at hi
   rw [hent i i hi hi,if_pos rfl]
  ·rw [hul] at hi
   rw [hent i j hi (by omega),if_neg (by omega)]
  ·rw [hul] at hi hk
   rw [hent k i hk hi,if_neg (Ne.symm hne)]
 have g6 := hid.le_of (by omega) g3 (fun i hi => by
  rw [hul] at hi
  refine g4.iff.2 ?_
  obtain ⟨cf,hcf⟩ := h.sp.2 i (by rw [wd_len h.row];exact hi)
  refine ⟨cf,fun j hj => ?_⟩
  have h1 := hcf (c + j) (by omega)
  have h2 := wd_right h.row hi hj
  simp only [ent] at h2
  rw [h2] at h1
  have h3 := hent i j hi hj
  simp only [ent] at h3
  rw [h3,hl,← h1]
  exact congrArg (· % p) (S_congr fun k hk => by rw [ent,gl_getD hk,at0_drop]))
 omega
theorem Nul.count {R : Mx} {pr : Nat → Nat} (hR : Red p c R pr) (hs : SpEq p c R A) : (nul c t W).length = N - R.length ∧ R.length ≤ N := by
 have h7 := hp.pos
 have e := hR.unique (by omega) (lft_red (by omega) h.row h.red h.sp h.le h.lo h.hi) (hs.trans (lft_sp (by omega) h.row h.red h.sp h.le h.lo h.hi h.len).symm)
 have h1 := h.full hp hcN
 have h2 := h.le
 have e2 : R.length = t := by rw [e];exact gl_len
 have e3 : (nul c t W).length = W.length - t := gl_len
 omega
 omit h in
theorem unitG_spec {N : Nat} (hN : N ≤ 100000) : f_spec_l02Unit (N : Int) = some (gl N (ur N)) := by
  have _ := hp;have _ := hcN
  unfold f_spec_l02Unit
  rw [map_loop (body := l1_spec_l02Unit (N : Int)) N (ur N) (fun i acc hi ha => by
    unfold l1_spec_l02Unit
    simp only
    rw [lt_t hi,cnd_t,lenOk_nat (by omega),bs,ixO_nat,List.getElem?_replicate,if_pos hi,bs,Int.toNat_natCast,mkv_zero,mkv_set,appO_of (by simp;omega),bs,rng_of (by omega) (by omega),bs,cs];rfl) (fun acc => by
    unfold l1_spec_l02Unit
    simp only
    rw [lt_f,cnd_f]),bs]
 omit h in
theorem wide_spec (hr : ∀ i,i < N → Row p c (A.getD i [])) (hl : A.length = N) : f_spec_l02Wide p A = f_spec_l02Reduce p (wd N A) := by
  unfold f_spec_l02Wide
  rw [hl,unitG_spec hp hcN (by omega),bs,map_loop (body := l1_spec_l02Wide A (gl N (ur N))) N (fun i => A.getD i [] ++ ur N i) (fun i acc hi ha => by
    unfold l1_spec_l02Wide
    simp only
    rw [hl,lt_t hi,cnd_t,ixO_d [] (by omega),bs,own_spec (by rw [(hr i hi).1];omega),bs,gl_ix hi,bs,appO_of (by rw [(hr i hi).1,ur,mkv_length];omega),bs,appO_of (by simp;omega),bs,rng_of (by omega) (by omega),bs,cs]) (fun acc => by
    unfold l1_spec_l02Wide
    simp only
    rw [hl,lt_f,cnd_f]),bs]
  show (f_spec_l02Reduce p (wd N A)).bind _ = _
  cases f_spec_l02Reduce p (wd N A) <;> rfl
theorem null_loop : loopO (l1_spec_l02Null (c : Int) W) ([],0) = some (nul c t W) := by
 have hf := h.full hp hcN
 have hle := h.le
 have := loopO_seq (body := l1_spec_l02Null (c : Int) W) (r := nul c t W) (fun i => (gl (i - t) (fun k => (W.getD (t + k) []).drop c),(i : Int))) W.length (fun i hi => by
  have hr := h.red.row i hi
  have h1 := h.red.one i hi
  have hlt := h.red.lt i hi
  have hlead := lead_is (n := c + N) hr.1 (by omega) hlt (h.red.low i hi) (by simp only [ent] at h1;omega)
  unfold l1_spec_l02Null
  simp only
  rw [lt_t hi,cnd_t,ixO_d [] hi,bs,hlead,bs]
  rcases Nat.lt_or_ge i t with g | g
  ·have := h.lo i g
   rw [decide_eq_false (by omega),cnd_f,rng_of (by omega) (by omega),bs,cs,show i - t = 0 from by omega,show i + 1 - t = 0 from by omega]
  ·have := h.hi i g hi
   have e : sliceO (W.getD i []) (c : Int) ((W.getD i []).length : Int) = some ((W.getD i []).drop c) := by
    unfold sliceO
    rw [if_pos ⟨by omega,by rw [hr.1];omega,by omega⟩,Int.toNat_natCast,Int.toNat_natCast,List.take_of_length_le (by rw [List.length_drop];omega)]
   rw [decide_eq_true (by omega),cnd_t,bs,e,bs,own_spec (by rw [List.length_drop,hr.1];omega),bs,appO_of (by rw [gl_len];simp;omega),bs,rng_of (by omega) (by omega),bs,cs,show i + 1 - t = (i - t) + 1 from by omega,← gl_snoc,show t + (i - t) = i from by omega]) (by
  unfold l1_spec_l02Null
  simp only
  rw [lt_f,cnd_f];rfl)
 rw [show 0 - t = 0 from by omega] at this
 exact this
 omit h in
theorem null_spec (hr : ∀ i,i < N → Row p c (A.getD i [])) (hl : A.length = N) : ∃ W pv t,Nul p c N A W pv t ∧ f_spec_l02Null p A (c : Int) = some (nul c t W) := by
  obtain ⟨W,pv,t,h1,h2,_⟩ := Nul.get hp hcN hr hl
  refine ⟨W,pv,t,h1,?_⟩
  unfold f_spec_l02Null
  rw [wide_spec hp hcN hr hl,h2,bs,null_loop hp hcN h1,bs]
end
end Go.Pl

namespace Go.Pl
open Go Go.Ab Go.Wk Go.Pc
theorem gl_succ {β : Type} {n : Nat} {F : Nat → β} : gl (n + 1) F = gl n F ++ [F n] := gl_snoc.symm
theorem cat_len {β : Type} {L : Nat} {F : Nat → List β} : ∀ {n : Nat},(∀ i,i < n → (F i).length = L) → (gl n F).flatten.length = n * L
 | 0,_ => by simp [gl]
 | n + 1,h => by
  rw [gl_succ,List.flatten_append,List.length_append,cat_len fun i hi => h i (by omega),Nat.succ_mul]
  simp [h n (by omega)]
theorem cat_loop {β : Type} {body : List β × Int → Option ((List β × Int) ⊕ List β)} (n L : Nat) (F : Nat → List β) (a0 : List β) (hF : ∀ i,i < n → (F i).length = L)
  (h : ∀ i acc,i < n → acc.length = a0.length + i * L → body (acc,(i : Int)) = some (.inl (acc ++ F i,((i + 1 : Nat) : Int)))) (he : ∀ acc,body (acc,(n : Int)) = some (.inr acc)) :
  loopO body (a0,0) = some (a0 ++ (gl n F).flatten) := by
 have := loopO_seq (body := body) (r := a0 ++ (gl n F).flatten) (fun i => (a0 ++ (gl i F).flatten,(i : Int))) n (fun i hi => by
  rw [h i _ hi (by rw [List.length_append,cat_len fun j hj => hF j (by omega)]),gl_succ,List.flatten_append,List.append_assoc]
  simp) (he _)
 simpa [gl] using this
theorem one_cat {f : Nat → Int} : ∀ {n : Nat},(gl n fun i => [f i]).flatten = mkv n f
 | 0 => rfl
 | n + 1 => by
  rw [gl_succ,List.flatten_append,one_cat]
  simp [mkv,List.range_succ]
def rowR (p : Int) (D E : Nat) (r : List Int) (B : Mx) : List Int := mkv E fun j => S D (fun l => at0 r l * ent B l j) % p
section
variable {p : Int} (hp : Prime p)
 include hp
theorem rowR_row {D E : Nat} {r : List Int} {B : Mx} : Row p E (rowR p D E r B) := by
 have h7 := hp.pos
 refine ⟨mkv_length _ _,fun j hj => ?_⟩
 rw [rowR,mkv_at hj]
 have e1 := Int.emod_nonneg (S D fun l => at0 r l * ent B l j) (show p ≠ 0 by omega)
 have e2 := Int.emod_lt_of_pos (S D fun l => at0 r l * ent B l j) (show 0 < p by omega)
 omega
theorem vtR_impl {D E : Nat} (hD : D ≤ 1000) (hE : E ≤ 1000) {r : List Int} {B : Mx} (hr : Row p D r) (hl : B.length = D) (hB : ∀ i,i < D → Row p E (B.getD i [])) : f_impl_vectorTimes r (SMatrix.mk p (E : Int) B) = some (rowR p D E r B) := by
 have h7 := hp.pos
 have hrl := hr.1
 unfold f_impl_vectorTimes
 simp only
 rw [lenOk_nat (by omega),bs]
 have := loopO_seq (body := l1_impl_vectorTimes r (SMatrix.mk p (E : Int) B)) (r := rowR p D E r B) (fun i => (rowR p i E r B,(i : Int))) D (fun i hi => by
  have ha := hr.2 i hi
  unfold l1_impl_vectorTimes
  simp only
  rw [hrl,lt_t hi,cnd_t,ixO_at (by omega),bs,ixO_d [] (by omega),bs,addM_impl hp (rowR_row hp) (hB i hi) (by omega) (by omega),bs,rng_of (by omega) (by omega),bs,cs]
  congr 3
  refine mkv_congr fun j hj => ?_
  rw [rowR,mkv_at hj]
  simp only [S]
  rw [Int.add_emod,Int.emod_emod,← Int.add_emod]) (by
  unfold l1_impl_vectorTimes
  simp only
  rw [hrl,lt_f,cnd_f])
 rw [show ((0 : Nat) : Int) = 0 from rfl] at this
 have e : List.replicate E (0 : Int) = rowR p 0 E r B := by
  rw [mkv_zero]
  exact mkv_congr fun j _ => by simp [S]
 rw [e,this,bs]
theorem productRR_impl {D E : Nat} (hD : D ≤ 1000) (hE : E ≤ 1000) {A B : Mx} {q : Int} (hA : ∀ i,i < A.length → Row p D (A.getD i [])) (hAl : A.length ≤ 1000) (hl : B.length = D) (hB : ∀ i,i < D → Row p E (B.getD i [])) :
  f_impl_product (SMatrix.mk p q A) (SMatrix.mk p (E : Int) B) = some (SMatrix.mk p (E : Int) (gl A.length fun k => rowR p D E (A.getD k []) B)) := by
 unfold f_impl_product
 have := map_loop (body := l1_impl_product (SMatrix.mk p q A) (SMatrix.mk p (E : Int) B)) A.length (fun k => rowR p D E (A.getD k []) B) (fun i acc hi ha => by
  unfold l1_impl_product
  simp only
  rw [lt_t hi,cnd_t,ixO_d [] hi,bs,vtR_impl hp hD hE (hA i hi) hl hB,bs,appO_of (by simp;omega),bs,rng_of (by omega) (by omega),bs,cs]) (fun acc => by
  unfold l1_impl_product
  simp only
  rw [lt_f,cnd_f])
 rw [this,bs]
end
section
variable {n D E : Nat} {m q : SModule} (hm : MOk n m D) (hq : MOk n q E) (hn : n ≤ 6) (hpq : q.Prime = m.Prime)
def cv (m q : SModule) (a b g k l : Nat) : Int := ((if l = b then ent (m.Actions.getD g []) k a else 0) - (if k = a then ent (q.Actions.getD g []) b l else 0)) % m.Prime
def crow (m q : SModule) (E a b g k : Nat) : List Int := mkv E fun l => cv m q a b g k l
def cgen (m q : SModule) (D E a b g : Nat) : List Int := (gl D fun k => crow m q E a b g k).flatten
def cfull (m q : SModule) (n D E a b : Nat) : List Int := (gl n fun g => cgen m q D E a b g).flatten
def crows (m q : SModule) (n D E a : Nat) : Mx := gl E fun b => cfull m q n D E a b
def call (m q : SModule) (n D E : Nat) : Mx := (gl D fun a => crows m q n D E a).flatten
theorem cgen_len {a b g : Nat} : (cgen m q D E a b g).length = D * E := cat_len fun _ _ => mkv_length _ _
theorem cfull_len {a b : Nat} : (cfull m q n D E a b).length = n * (D * E) := cat_len fun _ _ => cgen_len
theorem call_len : (call m q n D E).length = D * E := cat_len fun _ _ => gl_len
 include hm hq hn hpq
theorem call_row : ∀ i,i < D * E → Row m.Prime (n * (D * E)) ((call m q n D E).getD i []) := by
 have h7 := hm.p.pos
 have _ := hq;have _ := hn;have _ := hpq
 intro i hi
 have h := getD_mem (R := call m q n D E) (i := i) (by rw [call_len];exact hi)
 obtain ⟨r1,h1,h2⟩ := List.mem_flatten.1 h
 obtain ⟨a,_,rfl⟩ := List.mem_map.1 h1
 obtain ⟨b,_,e⟩ := List.mem_map.1 h2
 rw [← e]
 refine row_iff.2 ⟨cfull_len,fun v hv => ?_⟩
 obtain ⟨r2,h3,h4⟩ := List.mem_flatten.1 hv
 obtain ⟨g,_,rfl⟩ := List.mem_map.1 h3
 obtain ⟨r3,h5,h6⟩ := List.mem_flatten.1 h4
 obtain ⟨k,_,rfl⟩ := List.mem_map.1 h5
 obtain ⟨l,_,rfl⟩ := List.mem_map.1 h6
 have e1 := Int.emod_nonneg ((if l = b then ent (m.Actions.getD g []) k a else 0) - (if k = a then ent (q.Actions.getD g []) b l else 0)) (show m.Prime ≠ 0 by omega)
 have e2 := Int.emod_lt_of_pos ((if l = b then ent (m.Actions.getD g []) k a else 0) - (if k = a then ent (q.Actions.getD g []) b l else 0)) (show 0 < m.Prime by omega)
 simp only [cv]
 omega
theorem cmaps_spec : loopO (l5_spec_CountModuleMaps m q) ([],0) = some (call m q n D E) := by
 have h7 := hm.p.pos
 have h3 := hm.d3
 have k3 := hq.d3
 have hDE : D * E ≤ 3 * 3 := Nat.mul_le_mul h3 k3
 have hnDE : n * (D * E) ≤ 6 * 9 := Nat.mul_le_mul hn hDE
 refine (cat_loop D E (fun a => crows m q n D E a) [] (fun _ _ => gl_len) (fun a acc ha hacc => ?_) (fun acc => ?_)).trans (by rw [List.nil_append];rfl)
 ·unfold l5_spec_CountModuleMaps
  simp only
  have hin := loopO_seq (body := l4_spec_CountModuleMaps m q (acc,(a : Int))) (r := acc ++ crows m q n D E a) (fun b => (acc ++ gl b (fun b => cfull m q n D E a b),(b : Int))) E (fun b hb => by
   have h1 : (gl b fun b => cfull m q n D E a b).length = b := gl_len
   have haE : a * E ≤ 3 * 3 := Nat.mul_le_mul (by omega) k3
   unfold l4_spec_CountModuleMaps
   simp only
   have hrow : ∀ st : List (List Int) × Int,st.2 = (b : Int) → loopO (l3_spec_CountModuleMaps m q (acc,(a : Int)) st) ([],0) = some (cfull m q n D E a b) := fun st hst => by
    refine (cat_loop n (D * E) (fun g => cgen m q D E a b g) [] (fun _ _ => cgen_len) (fun g w hg hw => ?_) (fun w => ?_)).trans (by rw [List.nil_append];rfl)
    ·unfold l3_spec_CountModuleMaps
     simp only
     rw [hm.len,lt_t hg,cnd_t]
     simp only [List.length_nil,Nat.zero_add] at hw
     have hgD : g * (D * E) ≤ 6 * 9 := Nat.mul_le_mul (by omega) hDE
     have hgen : ∀ sg : List Int × Int,sg.2 = (g : Int) → loopO (l2_spec_CountModuleMaps m q (acc,(a : Int)) st sg) (w,0) = some (w ++ cgen m q D E a b g) := fun sg hsg => by
      refine cat_loop D E (fun k => crow m q E a b g k) w (fun _ _ => mkv_length _ _) (fun k z hk hz => ?_) (fun z => ?_)
      ·unfold l2_spec_CountModuleMaps
       simp only
       rw [hm.d,lt_t hk,cnd_t]
       have hkE : k * E ≤ 3 * 3 := Nat.mul_le_mul (by omega) k3
       have hone : ∀ sk : List Int × Int,sk.2 = (k : Int) → loopO (l1_spec_CountModuleMaps m q (acc,(a : Int)) st sg sk) (z,0) = some (z ++ crow m q E a b g k) := fun sk hsk => by
        refine (cat_loop E 1 (fun l => [cv m q a b g k l]) z (fun _ _ => rfl) (fun l y hl hy => ?_) (fun y => ?_)).trans (by rw [one_cat];rfl)
        ·have hA := hm.mat g hg
         have hB := hq.mat g hg
         obtain ⟨a1,a2,_,a4⟩ := ent_ix hA hk ha
         obtain ⟨b1,b2,_,b4⟩ := ent_ix hB hb hl
         have happ : ∀ v : Int,appO y [v] = some (y ++ [v]) := fun v => appO_of (by simp;omega)
         have hr1 : rng ((l : Int) + 1) = some ((l + 1 : Nat) : Int) := by rw [rng_of (by omega) (by omega),cs]
         unfold l1_spec_CountModuleMaps
         simp only
         rw [hq.d,lt_t hl,cnd_t,hst,hsg,hsk]
         have hmix : ixO m.Actions (g : Int) = some (m.Actions.getD g []) := ixO_d [] (by rw [hm.len];exact hg)
         have hqix : ixO q.Actions (g : Int) = some (q.Actions.getD g []) := ixO_d [] (by rw [hq.len];exact hg)
         rw [hpq] at b4
         by_cases e1 : l = b
         ·rw [beq_t (by omega : (l : Int) = (b : Int)),cnd_t,hmix,bs,a1,bs,a2,bs]
          by_cases e2 : k = a
          ·rw [beq_t (by omega : (k : Int) = (a : Int)),cnd_t,hqix,bs,b1,bs,b2,bs,rng_of (by omega) (by omega),bs,mod_spec hm.p (by omega) (by omega),bs,happ,bs,hr1,bs]
           simp only [cv,if_pos e1,if_pos e2]
          ·rw [show ((k : Int) == (a : Int)) = false from by simp;omega,cnd_f,mod_spec hm.p (by omega) (by omega),bs,happ,bs,hr1,bs]
           simp only [cv,if_pos e1,if_neg e2,Int.sub_zero]
         ·rw [show ((l : Int) == (b : Int)) = false from by simp;omega,cnd_f]
          by_cases e2 : k = a
          ·rw [beq_t (by omega : (k : Int) = (a : Int)),cnd_t,hqix,bs,b1,bs,b2,bs,rng_of (by omega) (by omega),bs,mod_spec hm.p (by omega) (by omega),bs,happ,bs,hr1,bs]
           simp only [cv,if_neg e1,if_pos e2]
          ·rw [show ((k : Int) == (a : Int)) = false from by simp;omega,cnd_f,mod_spec hm.p (by omega) (by omega),bs,happ,bs,hr1,bs]
           simp only [cv,if_neg e1,if_neg e2,Int.sub_zero]
        ·unfold l1_spec_CountModuleMaps
         simp only
         rw [hq.d,lt_f,cnd_f]
       rw [hone _ rfl,bs,rng_of (by omega) (by omega),bs,cs]
      ·unfold l2_spec_CountModuleMaps
       simp only
       rw [hm.d,lt_f,cnd_f]
     rw [hgen _ rfl,bs,rng_of (by omega) (by omega),bs,cs]
    ·unfold l3_spec_CountModuleMaps
     simp only
     rw [hm.len,lt_f,cnd_f]
   rw [hq.d,lt_t hb,cnd_t,hrow _ rfl,bs,appO_of (by rw [List.length_append,h1];simp at hacc ⊢;omega),bs,rng_of (by omega) (by omega),bs,cs,List.append_assoc,gl_snoc]) (by
   unfold l4_spec_CountModuleMaps
   simp only
   rw [hq.d,lt_f,cnd_f];rfl)
  have hin' : loopO (l4_spec_CountModuleMaps m q (acc,(a : Int))) (acc,0) = some (acc ++ crows m q n D E a) := by simpa [gl] using hin
  rw [hm.d,lt_t ha,cnd_t,hin',bs,rng_of (by omega) (by omega),bs,cs]
 ·unfold l5_spec_CountModuleMaps
  simp only
  rw [hm.d,lt_f,cnd_f]
end
end Go.Pl

namespace Go.Pl
open Go Go.Ab Go.Wk Go.Pc
section
variable {n D E : Nat} {m q : SModule} (hm : MOk n m D) (hq : MOk n q E) (hn : n ≤ 6) (hpq : q.Prime = m.Prime)
def em (D E a b : Nat) : Mx := gl D fun k => if k = a then ur E b else mkv E fun _ => 0
theorem em_len {a b : Nat} : (em D E a b).length = D := gl_len
theorem em_ent {a b i j : Nat} (hi : i < D) (hj : j < E) : ent (em D E a b) i j = if i = a ∧ j = b then 1 else 0 := by
 rw [ent,em,gl_getD hi]
 by_cases h : i = a
 ·rw [if_pos h,ur,mkv_at hj];simp [h]
 ·rw [if_neg h,mkv_at hj,if_neg (by omega)]
 include hm hq hn hpq
theorem em_row {a b : Nat} : ∀ i,i < D → Row m.Prime E ((em D E a b).getD i []) := by
 have h7 := hm.p.pos
 have _ := hq;have _ := hn;have _ := hpq
 intro i hi
 refine ⟨?_,fun j hj => ?_⟩
 ·rw [em,gl_getD hi];split <;> exact mkv_length _ _
 ·have e := em_ent (D := D) (E := E) (a := a) (b := b) hi hj
  simp only [ent] at e
  rw [e];split <;> omega
theorem em_impl {a b : Nat} (ha : a < D) (hb : b < E) {s t : List (List Int) × Int} (hs : s.2 = (a : Int)) (ht : t.2 = (b : Int)) : loopO (l1_impl_CountModuleMaps m q s t) ([],0) = some (em D E a b) := by
 have _ := hn;have _ := hpq
 have h3 := hm.d3
 have k3 := hq.d3
 refine map_loop (body := l1_impl_CountModuleMaps m q s t) D (fun k => if k = a then ur E b else mkv E fun _ => 0) (fun k acc hk hacc => ?_) (fun acc => ?_)
 ·unfold l1_impl_CountModuleMaps
  simp only
  rw [hm.d,lt_t hk,cnd_t,hq.d,lenOk_nat (by omega),bs,appO_of (by simp;omega),bs,hs,ht]
  by_cases e : k = a
  ·have h1 : ixO (acc ++ [List.replicate E (0 : Int)]) (k : Int) = some (List.replicate E 0) := by
    rw [ixO_nat,List.getElem?_append_right (by omega)];simp [hacc]
   rw [beq_t (by omega : (k : Int) = (a : Int)),cnd_t,h1,bs,ixO_nat,List.getElem?_replicate,if_pos hb,bs,rng_of (by omega) (by omega),bs,cs,Int.toNat_natCast,Int.toNat_natCast,if_pos e]
   congr 3
   rw [List.set_append_right _ _ (by omega),hacc,Nat.sub_self,mkv_zero,mkv_set]
   rfl
  ·rw [show ((k : Int) == (a : Int)) = false from by simp;omega,cnd_f,rng_of (by omega) (by omega),bs,cs,if_neg e,mkv_zero]
 ·unfold l1_impl_CountModuleMaps
  simp only
  rw [hm.d,lt_f,cnd_f]
theorem crow_eq {a b g k : Nat} (ha : a < D) (hb : b < E) (hg : g < n) (hk : k < D) :
  addM m.Prime E (rowR m.Prime D E ((m.Actions.getD g []).getD k []) (em D E a b)) (-1) (rowM m.Prime E ((em D E a b).getD k []) (q.Actions.getD g [])) = crow m q E a b g k := by
 have h7 := hm.p.pos
 have _ := hn
 refine mkv_congr fun l hl => ?_
 have hA := ((hm.mat g hg).2 k hk).2 a ha
 have hB := ((hq.mat g hg).2 b hb).2 l hl
 rw [hpq] at hB
 have e1 : at0 (rowR m.Prime D E ((m.Actions.getD g []).getD k []) (em D E a b)) l = if l = b then ent (m.Actions.getD g []) k a else 0 := by
  rw [rowR,mkv_at hl,S_one (k := a) ha (fun i hi hne => by rw [em_ent hi hl,if_neg (by omega),Int.mul_zero]),em_ent ha hl]
  by_cases e : l = b
  ·rw [if_pos ⟨rfl,e⟩,if_pos e,Int.mul_one,mod_small hA]
  ·rw [if_neg (by omega),if_neg e];simp
 have e2 : at0 (rowM m.Prime E ((em D E a b).getD k []) (q.Actions.getD g [])) l = if k = a then ent (q.Actions.getD g []) b l else 0 := by
  have h : ∀ i,i < E → at0 ((em D E a b).getD k []) i = if k = a ∧ i = b then 1 else 0 := fun i hi => em_ent hk hi
  rw [rowM,mkv_at hl,S_one (k := b) hb (fun i hi hne => by rw [h i hi,if_neg (by omega),Int.zero_mul]),h b hb]
  by_cases e : k = a
  ·rw [if_pos ⟨e,rfl⟩,if_pos e,Int.one_mul,mod_small hB]
  ·rw [if_neg (by omega),if_neg e];simp
 rw [e1,e2,cv]
 congr 1
 omega
theorem cgen_impl {a b : Nat} (ha : a < D) (hb : b < E) {x : SPresentation} (hx : x.Orders.length = n) : loopO (l3_impl_CountModuleMaps x m q (em D E a b)) ([],0) = some (cfull m q n D E a b) := by
 have h7 := hm.p.pos
 have h3 := hm.d3
 have k3 := hq.d3
 have hDE : D * E ≤ 3 * 3 := Nat.mul_le_mul h3 k3
 refine (cat_loop n (D * E) (fun g => cgen m q D E a b g) [] (fun _ _ => cgen_len) (fun g w hg hw => ?_) (fun w => ?_)).trans (by rw [List.nil_append];rfl)
 ·simp only [List.length_nil,Nat.zero_add] at hw
  have hgD : g * (D * E) ≤ 6 * 9 := Nat.mul_le_mul (by omega) hDE
  have hA := hm.mat g hg
  have hB := hq.mat g hg
  rw [hpq] at hB
  have hL : (gl D fun k => rowR m.Prime D E ((m.Actions.getD g []).getD k []) (em D E a b)).length = D := gl_len
  have p1 := productRR_impl hm.p (D := D) (E := E) (q := (D : Int)) (by omega) (by omega) (A := m.Actions.getD g []) (B := em D E a b) (by rw [hA.1];exact hA.2) (by rw [hA.1];omega) em_len (em_row hm hq hn hpq)
  rw [hA.1] at p1
  have p2 := productR_impl hm.p (D := E) (q := (E : Int)) (by omega) (A := em D E a b) (B := q.Actions.getD g []) (by rw [em_len];omega) (by rw [em_len];exact em_row hm hq hn hpq) hB
  unfold l3_impl_CountModuleMaps
  simp only
  rw [hx,lt_t hg,cnd_t,actionAt_impl hm hn hg,bs,hq.d,p1,bs,actionAt_impl hq hn hg,bs,hpq,p2,bs]
  simp only
  have hin := loopO_seq (body := l2_impl_CountModuleMaps m (SMatrix.mk m.Prime (E : Int) (gl D fun k => rowR m.Prime D E ((m.Actions.getD g []).getD k []) (em D E a b))) (SMatrix.mk m.Prime (E : Int) (PM m.Prime E (em D E a b) (q.Actions.getD g []))))
   (r := w ++ cgen m q D E a b g) (fun k => (w ++ (gl k fun k => crow m q E a b g k).flatten,(gl D fun i => if i < k then crow m q E a b g i else rowR m.Prime D E ((m.Actions.getD g []).getD i []) (em D E a b)),(k : Int))) D (fun k hk => by
   have hc : (gl k fun k => crow m q E a b g k).flatten.length = k * E := cat_len fun _ _ => mkv_length _ _
   have hkE : k * E ≤ 3 * 3 := Nat.mul_le_mul (by omega) k3
   have hcl : (crow m q E a b g k).length = E := mkv_length _ _
   unfold l2_impl_CountModuleMaps
   simp only
   rw [hL,lt_t hk,cnd_t,gl_ix hk,bs,if_neg (by omega),ixO_d [] (by rw [PM_length,em_len];exact hk),bs,PM_get (by rw [em_len];exact hk),addM_impl hm.p (rowR_row hm.p) (rowM_row (by omega)) (by omega) (by omega),bs,crow_eq hm hq hn hpq ha hb hg hk,Int.toNat_natCast,gl_set,gl_ix hk,bs,if_pos rfl,appO_of (by rw [List.length_append,hc,hcl];omega),bs,rng_of (by omega) (by omega),bs,cs,gl_succ,List.flatten_append,List.append_assoc]
   have e : (gl D fun i => if i = k then crow m q E a b g k else if i < k then crow m q E a b g i else rowR m.Prime D E ((m.Actions.getD g []).getD i []) (em D E a b)) = gl D fun i => if i < k + 1 then crow m q E a b g i else rowR m.Prime D E ((m.Actions.getD g []).getD i []) (em D E a b) := gl_congr fun i _ => by
    by_cases e1 : i = k
    ·subst e1;rw [if_pos rfl,if_pos (by omega)]
    ·rw [if_neg e1]
     by_cases e2 : i < k
     ·rw [if_pos e2,if_pos (by omega)]
     ·rw [if_neg e2,if_neg (by omega)]
   rw [e]
   simp) (by
   unfold l2_impl_CountModuleMaps
   simp only
   rw [hL,lt_f,cnd_f];rfl)
  have hin' : loopO (l2_impl_CountModuleMaps m (SMatrix.mk m.Prime (E : Int) (gl D fun k => rowR m.Prime D E ((m.Actions.getD g []).getD k []) (em D E a b))) (SMatrix.mk m.Prime (E : Int) (PM m.Prime E (em D E a b) (q.Actions.getD g [])))) (w,(gl D fun k => rowR m.Prime D E ((m.Actions.getD g []).getD k []) (em D E a b)),0) = some (w ++ cgen m q D E a b g) := by
   simpa [gl] using hin
  rw [hin',bs,rng_of (by omega) (by omega),bs,cs]
 ·unfold l3_impl_CountModuleMaps
  simp only
  rw [hx,lt_f,cnd_f]
theorem cmaps_impl {x : SPresentation} (hx : x.Orders.length = n) : loopO (l5_impl_CountModuleMaps x m q) ([],0) = some (call m q n D E) := by
 have h7 := hm.p.pos
 have h3 := hm.d3
 have k3 := hq.d3
 refine (cat_loop D E (fun a => crows m q n D E a) [] (fun _ _ => gl_len) (fun a acc ha hacc => ?_) (fun acc => ?_)).trans (by rw [List.nil_append];rfl)
 ·simp only [List.length_nil,Nat.zero_add] at hacc
  have haE : a * E ≤ 3 * 3 := Nat.mul_le_mul (by omega) k3
  unfold l5_impl_CountModuleMaps
  simp only
  have hin := loopO_seq (body := l4_impl_CountModuleMaps x m q (acc,(a : Int))) (r := acc ++ crows m q n D E a) (fun b => (acc ++ gl b (fun b => cfull m q n D E a b),(b : Int))) E (fun b hb => by
   have h1 : (gl b fun b => cfull m q n D E a b).length = b := gl_len
   unfold l4_impl_CountModuleMaps
   simp only
   rw [hq.d,lt_t hb,cnd_t,em_impl hm hq hn hpq ha hb rfl rfl,bs,cgen_impl hm hq hn hpq ha hb hx,bs,appO_of (by rw [List.length_append,h1];simp;omega),bs,rng_of (by omega) (by omega),bs,cs,List.append_assoc,gl_snoc]) (by
   unfold l4_impl_CountModuleMaps
   simp only
   rw [hq.d,lt_f,cnd_f];rfl)
  have hin' : loopO (l4_impl_CountModuleMaps x m q (acc,(a : Int))) (acc,0) = some (acc ++ crows m q n D E a) := by simpa [gl] using hin
  rw [hm.d,lt_t ha,cnd_t,hin',bs,rng_of (by omega) (by omega),bs,cs]
 ·unfold l5_impl_CountModuleMaps
  simp only
  rw [hm.d,lt_f,cnd_f]
end
theorem CountModuleMaps_agree {x : SPresentation} {m q : SModule} (hx : SPres x) (hm : SMod m) (hq : SMod q) : ∃ g k,f_spec_CountModuleMaps x m q = some (g,k) ∧ f_impl_CountModuleMaps x m q = some (g,k) := by
 have hl : x.Orders.length ≤ 1048576 := hx.1
 have hml := S3.len hm
 have hql := S3.len hq
 unfold f_spec_CountModuleMaps f_impl_CountModuleMaps f_spec_l21Code f_impl_modulesCode
 rcases IsModule_spec (m := m) hl with ⟨s1,s2⟩ | ⟨s1,s2⟩ <;> rcases isModule_impl (m := m) hl hml with ⟨i1,i2⟩ | ⟨i1,i2⟩
 ·simp only [s1,i1,bs,Bool.not_true,cnd_f]
  rcases IsModule_spec (m := q) hl with ⟨t1,t2⟩ | ⟨t1,t2⟩ <;> rcases isModule_impl (m := q) hl hql with ⟨j1,j2⟩ | ⟨j1,j2⟩
  ·simp only [t1,j1,bs,Bool.not_true,cnd_f]
   by_cases hp : m.Prime = q.Prime
   ·have e0 : ((0 : Int) != 0) = false := rfl
    obtain ⟨hc,D,hD,_⟩ := s2
    obtain ⟨_,E,hE,_⟩ := t2
    have h6 := hc.1.os.1
    have h7 := hD.p.pos
    have d3 := hD.d3
    have e3 := hE.d3
    have hDE : D * E ≤ 3 * 3 := Nat.mul_le_mul d3 e3
    have hnDE : x.Orders.length * (D * E) ≤ 6 * 9 := Nat.mul_le_mul h6 hDE
    have hcl : (call m q x.Orders.length D E).length = D * E := call_len
    have hrow := call_row hD hE h6 hp.symm
    obtain ⟨W,pv,t,w1,w2⟩ := null_spec hD.p (c := x.Orders.length * (D * E)) (N := D * E) (by omega) hrow hcl
    obtain ⟨R,pr,_,r2,r3,r4⟩ := reduce_both hD.p (n := x.Orders.length * (D * E)) (by omega) (rows := call m q x.Orders.length D E) (by omega) (by rw [hcl];exact hrow)
    obtain ⟨k1,k2⟩ := w1.count hD.p (by omega) r3 r4
    have er1 : rng (m.Dim * q.Dim) = some ((D * E : Nat) : Int) := by rw [hD.d,hE.d,← Int.natCast_mul];exact rng_of (by omega) (by omega)
    have er2 : rng (((D * E : Nat) : Int) * (m.Actions.length : Int)) = some ((x.Orders.length * (D * E) : Nat) : Int) := by
     rw [hD.len,Int.mul_comm,← Int.natCast_mul];exact rng_of (by omega) (by omega)
    have er3 : rng (((D * E : Nat) : Int) - (R.length : Int)) = some ((nul (x.Orders.length * (D * E)) t W).length : Int) := by
     rw [rng_of (by omega) (by omega),k1];congr 1;omega
    simp only [bne_f hp,cnd_f,bs,e0,cmaps_spec hD hE h6 hp.symm,cmaps_impl hD hE h6 hp.symm rfl]
    rw [er1,bs,er2,bs,w2,bs,r2,bs,hcl,er3,bs]
    exact ⟨_,_,rfl,rfl⟩
   ·have e0 : ((5 : Int) != 0) = true := rfl
    simp only [bne_t hp,cnd_t,bs,e0]
    exact ⟨_,_,rfl,rfl⟩
  ·exact absurd t2 j2
  ·exact absurd j2 t2
  ·have e0 : ((1 : Int) != 0) = true := rfl
   simp only [t1,j1,bs,Bool.not_false,cnd_t,e0]
   exact ⟨_,_,rfl,rfl⟩
 ·exact absurd s2 i2
 ·exact absurd i2 s2
 ·have e0 : ((1 : Int) != 0) = true := rfl
  simp only [s1,i1,bs,Bool.not_false,cnd_t,e0]
  exact ⟨_,_,rfl,rfl⟩
theorem law_CountModuleMaps (x0 : SPresentation) (x1 x2 : SModule) (v0 : VPres x0) (v1 : VMod x1) (v2 : VMod x2)
  (h : SPres x0 → SMod x1 → SMod x2 → ∃ g k,f_spec_CountModuleMaps x0 x1 x2 = some (g,k) ∧ f_impl_CountModuleMaps x0 x1 x2 = some (g,k)) : f_laws_FnExactCountModuleMaps x0 x1 x2 = some true := by
 unfold f_laws_FnExactCountModuleMaps
 rw [szPresentation v0 (by decide) (by decide),bs]
 rcases sz_case (c := cPres x0) (b := 1048576) (by decide) (by decide) with e | ⟨e,a1,a2,a3⟩ <;> rw [e]
 ·rfl
 rw [cnd_f,szModule v1 a1 a2,bs]
 rcases sz_case (c := cMod x1) a1 a2 with e | ⟨e,b1,b2,b3⟩ <;> rw [e]
 ·rfl
 rw [cnd_f,szModule v2 b1 b2,bs]
 rcases sz_case (c := cMod x2) b1 b2 with e | ⟨e,d1,d2,d3⟩ <;> rw [e]
 ·rfl
 have s0 := SPres.of a3
 have s1 := SMod.of b3
 have s2 := SMod.of d3
 obtain ⟨g,k,hs,hi⟩ := h s0 s1 s2
 rw [cnd_f,toPresentation s0,bs,toModule s1,bs,toModule s2,bs]
 simp only [bs]
 rw [hs,bs,hi,bs]
 simp only
 rw [bne_self_eq_false,cnd_f,bne_self_eq_false,cnd_f,eqPresentation s0,bs,Bool.not_true,cnd_f,eqModule s1,bs,Bool.not_true,cnd_f,eqModule s2,bs,Bool.not_true,cnd_f]
theorem CountModuleMaps_plain (x0 : SPresentation) (x1 x2 : SModule) (v0 : VPres x0) (v1 : VMod x1) (v2 : VMod x2) : f_laws_FnExactCountModuleMaps x0 x1 x2 = some true :=
 law_CountModuleMaps x0 x1 x2 v0 v1 v2 CountModuleMaps_agree
end Go.Pl
