/- The program and the reference return the same modules modulo submodules, for all arguments (FnExactQuotientModule). This file is a part of the proof. -/
import Derived.Test.YtdcfglaicpidkabGreatPlA
namespace Go.Pl
open Go Go.Ab Go.Wk Go.Pc
section
variable {p:Int} (hp:Prime p) {n:Nat} {out:Mx} {pv:Nat → Nat} (h:Red p n out pv) {u:List Int} {k q:Nat} (hu:Row p n u) (hk:k < n) (u1:at0 u k = 1) (ul:∀ j,j < k → at0 u j = 0) (up:∀ i,i < out.length → at0 u (pv i) = 0) (hq:q ≤ out.length) (q1:∀ i,i < q → pv i < k) (q2:∀ i,q ≤ i → i < out.length → k < pv i)
def oth (p:Int) (n:Nat) (out:Mx) (u:List Int) (k i:Nat):List Int:=addM p n (out.getD i []) (p - at0 (out.getD i []) k) u
def newR (p:Int) (n:Nat) (out:Mx) (u:List Int) (k q i:Nat):List Int:=if i < q then oth p n out u k i else if i = q then u else oth p n out u k (i - 1)
def newP (pv:Nat → Nat) (k q i:Nat):Nat:=if i < q then pv i else if i = q then k else pv (i - 1)
 include hp h hu hk u1 ul up hq q1 q2
theorem oth_at {i j:Nat} (hj:j < n):at0 (oth p n out u k i) j = (at0 (out.getD i []) j - at0 (out.getD i []) k * at0 u j) % p:=by
 have _:=hp;have _:=h;have _:=hu;have _:=hk;have _:=u1;have _:=ul;have _:=up;have _:=hq;have _:=q1;have _:=q2
 rw [oth,addM,mkv_at hj,show at0 (out.getD i []) j + (p - at0 (out.getD i []) k) * at0 u j = at0 (out.getD i []) j - at0 (out.getD i []) k * at0 u j + p * at0 u j from by rw [Int.sub_mul];omega,Int.add_mul_emod_self_left]
theorem oth_same {i j:Nat} (hi:i < out.length) (hj:j < n) (hz:at0 (out.getD i []) k = 0 ∨ at0 u j = 0):at0 (oth p n out u k i) j = ent out i j:=by
 rw [oth_at hp h hu hk u1 ul up hq q1 q2 hj]
 have:=(h.row i hi).2 j hj
 have e:at0 (out.getD i []) k * at0 u j = 0:=by rcases hz with g | g <;> rw [g] <;> simp
 rw [e,Int.sub_zero];exact Int.emod_eq_of_lt this.1 (by omega)
theorem oth_k {i:Nat}:at0 (oth p n out u k i) k = 0:=by
 rw [oth_at hp h hu hk u1 ul up hq q1 q2 hk,u1,Int.mul_one,Int.sub_self];rfl
theorem oth_low {i j:Nat} (hi:i < out.length) (hj:j < pv i) (hne:pv i ≠ k):at0 (oth p n out u k i) j = 0:=by
 have hlt:=h.lt i hi
 rcases Nat.lt_or_ge (pv i) k with g | g
 ·rw [oth_same hp h hu hk u1 ul up hq q1 q2 hi (by omega) (.inr (ul j (by omega)))];exact h.low i hi j hj
 ·have:=h.low i hi k (by omega)
  rw [oth_same hp h hu hk u1 ul up hq q1 q2 hi (by omega) (.inl this)];exact h.low i hi j hj
theorem pv_ne {i:Nat} (hi:i < out.length):pv i ≠ k:=by
 have _:=h;have _:=q1;have _:=q2
 have _:=hp;have _:=hu;have _:=hk;have _:=ul;have _:=hq
 intro e
 have:=up i hi
 rw [e,u1] at this;cases this
theorem new_cases {i:Nat} (hi:i < out.length + 1):(i = q ∧ newR p n out u k q i = u ∧ newP pv k q i = k) ∨ ∃ a,a < out.length ∧ (i < q ∧ a = i ∨ q < i ∧ i = a + 1) ∧ newR p n out u k q i = oth p n out u k a ∧ newP pv k q i = pv a:=by
 have _:=hp;have _:=h;have _:=hu;have _:=hk;have _:=u1;have _:=ul;have _:=up;have _:=q1;have _:=q2
 unfold newR newP
 rcases Nat.lt_trichotomy i q with g | g | g
 ·exact .inr ⟨i,by omega,.inl ⟨g,rfl⟩,by rw [if_pos g],by rw [if_pos g]⟩
 ·exact .inl ⟨g,by rw [if_neg (by omega),if_pos g],by rw [if_neg (by omega),if_pos g]⟩
 ·exact .inr ⟨i - 1,by omega,.inr ⟨g,by omega⟩,by rw [if_neg (by omega),if_neg (by omega)],by rw [if_neg (by omega),if_neg (by omega)]⟩
theorem insert_red:Red p n (mkR (out.length + 1) (newR p n out u k q)) (newP pv k q):=by
 have nc:=fun i hi => new_cases hp h hu hk u1 ul up hq q1 q2 (i:=i) hi
 have pn:=fun i hi => pv_ne hp h hu hk u1 ul up hq q1 q2 (i:=i) hi
 refine ⟨fun i hi => ?_,fun i hi => ?_,fun i hi => ?_,fun i hi j hj => ?_,fun i j hi hj hne => ?_,fun i j hij hj => ?_⟩ <;> rw [mkR_len] at *
 ·rw [mkR_get hi]
  rcases nc i hi with ⟨_,e,_⟩ | ⟨a,_,_,e,_⟩ <;> rw [e]
  ·exact hu
  ·exact addM_row hp
 ·rcases nc i hi with ⟨_,_,e⟩ | ⟨a,ha,_,_,e⟩ <;> rw [e]
  ·exact hk
  ·exact h.lt a ha
 ·rw [mkR_ent hi]
  rcases nc i hi with ⟨_,e1,e2⟩ | ⟨a,ha,_,e1,e2⟩ <;> rw [e1,e2]
  ·exact u1
  ·rw [oth_same hp h hu hk u1 ul up hq q1 q2 ha (h.lt a ha) (.inr (up a ha))];exact h.one a ha
 ·rw [mkR_ent hi]
  rcases nc i hi with ⟨_,e1,e2⟩ | ⟨a,ha,_,e1,e2⟩ <;> rw [e2] at hj <;> rw [e1]
  ·exact ul j hj
  ·exact oth_low hp h hu hk u1 ul up hq q1 q2 ha hj (pn a ha)
 ·rw [mkR_ent hj]
  rcases nc i hi with ⟨g1,_,e2⟩ | ⟨a,ha,ga,_,e2⟩ <;> rw [e2] <;> rcases nc j hj with ⟨g3,e3,_⟩ | ⟨b,hb,gb,e3,_⟩ <;> rw [e3]
  ·omega
  ·exact oth_k hp h hu hk u1 ul up hq q1 q2
  ·exact up a ha
  ·rw [oth_same hp h hu hk u1 ul up hq q1 q2 hb (h.lt a ha) (.inr (up a ha))]
   exact h.off a b ha hb (by omega)
 ·rcases nc i (by omega) with ⟨g1,_,e2⟩ | ⟨a,ha,ga,_,e2⟩ <;> rw [e2] <;> rcases nc j hj with ⟨g3,_,e4⟩ | ⟨b,hb,gb,_,e4⟩ <;> rw [e4]
  ·omega
  ·exact q2 b (by omega) hb
  ·exact q1 a (by omega)
  ·exact h.mono a b (by omega) hb
theorem insert_sp:(∀ i,i < out.length + 1 → Sp p n (out ++ [u]) (newR p n out u k q i)) ∧ (∀ i,i < out.length → Sp p n (mkR (out.length + 1) (newR p n out u k q)) (out.getD i [])) ∧ Sp p n (mkR (out.length + 1) (newR p n out u k q)) u:=by
 have hul:Sp p n (out ++ [u]) u:=by
  have:=sp_row (p:=p) (n:=n) (R:=out ++ [u]) (i:=out.length) (by simp)
  simpa [List.getD_eq_getElem?_getD] using this
 have hol:∀ i,i < out.length → Sp p n (out ++ [u]) (out.getD i []):=fun i hi => by
  have:=sp_row (p:=p) (n:=n) (R:=out ++ [u]) (i:=i) (by simp;omega)
  simpa [List.getD_eq_getElem?_getD,List.getElem?_append_left hi] using this
 have hoth:∀ i,i < out.length → Sp p n (out ++ [u]) (oth p n out u k i):=fun i hi =>
  sp_add (k:=p - at0 (out.getD i []) k) (hol i hi) hul fun j hj => by rw [oth,addM,mkv_at hj,Int.emod_emod]
 have hsu:Sp p n (mkR (out.length + 1) (newR p n out u k q)) u:=by
  have:=sp_mkR_row (p:=p) (n:=n) (m:=out.length + 1) (F:=newR p n out u k q) (i:=q) (by omega)
  rw [show newR p n out u k q q = u from by unfold newR;rw [if_neg (by omega),if_pos rfl]] at this
  exact this
 refine ⟨fun i hi => ?_,fun i hi => ?_,hsu⟩
 ·rcases new_cases hp h hu hk u1 ul up hq q1 q2 hi with ⟨_,e,_⟩ | ⟨a,ha,_,e,_⟩ <;> rw [e]
  ·exact hul
  ·exact hoth a ha
 ·have hi2:∃ b,b < out.length + 1 ∧ newR p n out u k q b = oth p n out u k i:=by
   rcases Nat.lt_or_ge i q with g | g
   ·exact ⟨i,by omega,by unfold newR;rw [if_pos g]⟩
   ·exact ⟨i + 1,by omega,by unfold newR;rw [if_neg (by omega),if_neg (by omega)];rfl⟩
  obtain ⟨b,hb,e⟩:=hi2
  have h1:=sp_mkR_row (p:=p) (n:=n) (m:=out.length + 1) (F:=newR p n out u k q) hb
  rw [e] at h1
  refine sp_add (k:=at0 (out.getD i []) k) h1 hsu fun j hj => ?_
  rw [oth_at hp h hu hk u1 ul up hq q1 q2 hj,Int.add_emod,Int.emod_emod,← Int.add_emod,show at0 (out.getD i []) j - at0 (out.getD i []) k * at0 u j + at0 (out.getD i []) k * at0 u j = at0 (out.getD i []) j from by omega]
theorem insert_loop (hn:n ≤ 100000) (hm:out.length ≤ 100000) {x:Int} :
  ((loopO (l1_spec_l02Reduce p (out,x) (k:Int) u) ([],false,0)).bind fun r32 => cond (!r32.2) ((appO r32.1 [u]).bind fun v33 => some v33) (some r32.1)) = some (mkR (out.length + 1) (newR p n out u k q)):=by
 have _:=u1;have _:=ul;have _:=up
 have h7:=hp.pos
 have ho:∀ i,i < out.length → f_spec_l02Add p (out.getD i []) (p - at0 (out.getD i []) k) u = some (oth p n out u k i) ∧ ixO (out.getD i []) (k:Int) = some (at0 (out.getD i []) k) ∧ 0 ≤ at0 (out.getD i []) k ∧ at0 (out.getD i []) k ≤ p - 1 ∧ f_spec_l02Lead (out.getD i []) = some (pv i:Int):=fun i hi => by
  have hr:=h.row i hi
  have hk2:=hr.2 k hk
  have hone:=h.one i hi
  have hlow:=h.low i hi
  simp only [ent] at hone hlow
  exact ⟨by rw [l02Add_spec hp hr hu ⟨by omega,by omega⟩ (by omega)];rfl,ixO_at (by rw [hr.1];exact hk),hk2.1,hk2.2,lead_is hr.1 (by omega) (h.lt i hi) hlow (by rw [hone];decide)⟩
 have hsn:∀ {m:Nat} {F:Nat → List Int},mkR m F ++ [F m] = mkR (m + 1) F:=fun {m F} => by simp [mkR,List.range_succ]
 have:=loopO_seq (body:=l1_spec_l02Reduce p (out,x) (k:Int) u) (r:=(if out.length ≤ q then (mkR out.length (newR p n out u k q),false) else (mkR (out.length + 1) (newR p n out u k q),true)))
  (fun j => if j ≤ q then (mkR j (newR p n out u k q),false,(j:Int)) else (mkR (j + 1) (newR p n out u k q),true,(j:Int))) out.length (fun j hj => by
   obtain ⟨a1,a2,a3,a4,a5⟩:=ho j hj
   have hrg:rng (p - at0 (out.getD j []) k) = some (p - at0 (out.getD j []) k):=rng_of (by omega) (by omega)
   rcases Nat.lt_trichotomy j q with g | g | g
   ·have hpj:=q1 j g
    rw [if_pos (by omega),if_pos (by omega)]
    unfold l1_spec_l02Reduce
    simp only
    rw [lt_t hj,cnd_t,Bool.not_false,cnd_t,ixO_d [] hj]
    simp only [bs,a5]
    rw [decide_eq_false (by omega),cnd_f,a2]
    simp only [bs,hrg,a1]
    rw [appO_of (by rw [mkR_len];simp;omega),bs,rng_of (by omega) (by omega),bs,cs]
    have:newR p n out u k q j = oth p n out u k j:=by unfold newR;rw [if_pos g]
    rw [← this,hsn]
   ·subst g
    have hpj:=q2 j (Nat.le_refl _) hj
    rw [if_pos (by omega),if_neg (by omega)]
    unfold l1_spec_l02Reduce
    simp only
    rw [lt_t hj,cnd_t,Bool.not_false,cnd_t,ixO_d [] hj]
    simp only [bs,a5]
    rw [decide_eq_true (by omega),cnd_t,appO_of (by rw [mkR_len];simp;omega),a2]
    simp only [bs,hrg,a1]
    have e1:newR p n out u k j j = u:=by unfold newR;rw [if_neg (by omega),if_pos rfl]
    have e2:newR p n out u k j (j + 1) = oth p n out u k j:=by unfold newR;rw [if_neg (by omega),if_neg (by omega)];rfl
    have e3:mkR j (newR p n out u k j) ++ [u] = mkR (j + 1) (newR p n out u k j):=by rw [← hsn,e1]
    rw [e3,appO_of (by rw [mkR_len];simp;omega),bs,rng_of (by omega) (by omega),bs,cs,← e2,hsn]
   ·rw [if_neg (by omega),if_neg (by omega)]
    unfold l1_spec_l02Reduce
    simp only
    rw [lt_t hj,cnd_t,Bool.not_true,cnd_f,ixO_d [] hj]
    simp only [bs,a2,hrg,a1]
    have e2:newR p n out u k q (j + 1) = oth p n out u k j:=by unfold newR;rw [if_neg (by omega),if_neg (by omega)];rfl
    rw [appO_of (by rw [mkR_len];simp;omega),bs,rng_of (by omega) (by omega),bs,cs,← e2,hsn]) (by
   by_cases g:out.length ≤ q
   ·rw [if_pos g,if_pos g]
    unfold l1_spec_l02Reduce
    simp only
    rw [lt_f,cnd_f]
   ·rw [if_neg g,if_neg g]
    unfold l1_spec_l02Reduce
    simp only
    rw [lt_f,cnd_f])
 rw [if_pos (Nat.zero_le _),show ((0:Nat):Int) = 0 from rfl,show mkR 0 (newR p n out u k q) = [] from rfl] at this
 rw [this,bs]
 by_cases g:out.length ≤ q
 ·have e1:newR p n out u k q out.length = u:=by unfold newR;rw [if_neg (by omega),if_pos (by omega)]
  rw [if_pos g]
  simp only
  rw [Bool.not_false,cnd_t,appO_of (by rw [mkR_len];simp;omega),bs]
  congr 1
  rw [← hsn,e1]
 ·rw [if_neg g]
  simp only
  rw [Bool.not_true,cnd_f]
end
end Go.Pl

namespace Go.Pl
open Go Go.Ab Go.Wk Go.Pc
theorem sp_sum {p:Int} {n:Nat} {R out:Mx} {cf:Nat → Int} (ho:∀ i,i < out.length → Sp p n R (out.getD i [])) {u:List Int} (hu:∀ j,j < n → at0 u j % p = (S out.length fun k => cf k * ent out k j) % p):Sp p n R u :=
 sp_trans ho ⟨cf,fun j hj => (hu j hj).symm⟩
theorem Red.len_le {p:Int} {n:Nat} {R:Mx} {pv:Nat → Nat} (h:Red p n R pv):R.length ≤ n:=by
 have key:∀ i,i < R.length → i ≤ pv i:=by
  intro i
  induction i with
  | zero => intro _;omega
  | succ i ih =>
   intro hi
   have h1:=ih (by omega)
   have h2:=h.mono i (i + 1) (by omega) hi
   omega
 rcases Nat.eq_zero_or_pos R.length with g | g
 ·omega
 ·have h1:=key (R.length - 1) (by omega)
  have h2:=h.lt (R.length - 1) (by omega)
  omega
theorem getD_snoc {xs:Mx} {v:List Int} {i:Nat} (h:i < xs.length):(xs ++ [v]).getD i [] = xs.getD i []:=by
 simp only [List.getD_eq_getElem?_getD,List.getElem?_append_left h]
theorem getD_last {xs:Mx} {v:List Int}:(xs ++ [v]).getD xs.length [] = v:=by simp [List.getD_eq_getElem?_getD]
section
variable {p:Int} (hp:Prime p) {n:Nat} (hn:n ≤ 100000)
 include hp hn
theorem scale_spec {w:List Int} (hw:Row p n w) {r:Int} (h0:0 ≤ r) (h1:r ≤ p - 1):f_spec_l02Scale p r w = some (mkv n fun j => (at0 w j * r) % p):=by
 have h7:=hp.pos
 unfold f_spec_l02Scale
 rw [hw.1,lenOk_nat (by omega),bs,l02Add_spec hp (z0_row (by omega)) hw ⟨by omega,by omega⟩ (by omega),bs]
 congr 1
 refine mkv_congr fun j hj => ?_
 rw [show at0 (z0 n) j = 0 from by simp [z0,at0,List.getD_eq_getElem?_getD,hj],Int.zero_add,Int.mul_comm]
variable {rows:Mx} (hm:rows.length ≤ 600000) (hr:∀ i,i < rows.length → Row p n (rows.getD i []))
 include hm hr
theorem reduce_specL:∃ R pv,f_spec_l02Reduce p rows = some R ∧ (Red p n R pv ∧ R.length ≤ rows.length) ∧ SpEq p n R rows:=by
 have h7:=hp.pos
 unfold f_spec_l02Reduce
 have main:=loopO_tot (body:=l2_spec_l02Reduce p rows) (s:=([],0)) (Q:=fun R => ∃ pv,(Red p n R pv ∧ R.length ≤ rows.length) ∧ SpEq p n R rows)
  (fun i s => ∃ (out:Mx) (pv:Nat → Nat),s = (out,(i:Int)) ∧ Red p n out pv ∧ SpEq p n out (rows.take i) ∧ out.length ≤ i ∧ i ≤ rows.length) rows.length (fun i s hi hI => ?_) (fun s hI => ?_) ⟨[],fun _ => 0,rfl,Red.empty,by rw [List.take_zero];exact SpEq.refl,Nat.zero_le _,Nat.zero_le _⟩
 ·obtain ⟨R,h1,pv,h2,h3⟩:=main
  rw [h1,bs]
  exact ⟨R,pv,rfl,h2,h3⟩
 ·obtain ⟨out,pv,rfl,h,hs,hl,_⟩:=hI
  have hon:out.length ≤ n:=h.len_le
  left
  have hv:=hr i hi
  have hw:=cl_row hp hn h hv out.length
  have hcl:=clear_spec hp hn h hv (by omega)
  have hpz:=cl_piv hp hn h hv out.length (Nat.le_refl _)
  obtain ⟨cf,hcf⟩:=cl_comb hp hn h hv out.length (Nat.le_refl _)
  obtain ⟨k,k1,k2,k3,k4⟩:=lead_spec hw.1 (by omega)
  have htk:rows.take (i + 1) = rows.take i ++ [rows.getD i []]:=by
   rw [List.take_succ_eq_append_getElem hi,List.getD_eq_getElem?_getD,List.getElem?_eq_getElem hi];rfl
  have hti:(rows.take i).length = i:=by rw [List.length_take];omega
  have hup:∀ u,Sp p n (rows.take i) u → Sp p n (rows.take (i + 1)) u:=fun u hu => sp_trans (fun a ha => by
   have:=sp_row (p:=p) (n:=n) (R:=rows.take (i + 1)) (i:=a) (by rw [htk,List.length_append];omega)
   rw [htk,getD_snoc ha,← htk] at this;exact this) hu
  have hvs:Sp p n (rows.take (i + 1)) (rows.getD i []):=by
   have:=sp_row (p:=p) (n:=n) (R:=rows.take (i + 1)) (i:=i) (by rw [htk,List.length_append,hti];simp)
   rw [htk] at this
   have e:(rows.take i ++ [rows.getD i []]).getD i [] = rows.getD i []:=by
    have:=getD_last (xs:=rows.take i) (v:=rows.getD i [])
    rw [hti] at this;exact this
   rw [e,← htk] at this;exact this
  by_cases hkn:k = n
  ·
   refine ⟨(out,((i + 1:Nat):Int)),?_,out,pv,rfl,h,⟨fun a ha => hup _ (hs.1 a ha),fun a ha => ?_⟩,by omega,by omega⟩
   ·unfold l2_spec_l02Reduce
    simp only
    rw [lt_t hi,cnd_t,ixO_d [] hi]
    simp only [bs,hcl,k2]
    rw [hw.1,beq_t (by omega),cnd_t,rng_of (by omega) (by omega),bs,cs]
   ·rw [htk,List.length_append,hti,List.length_singleton] at ha
    rw [htk]
    rcases Nat.lt_or_ge a i with g | g
    ·rw [getD_snoc (by omega)];exact hs.2 a (by omega)
    ·have:a = i:=by omega
     subst this
     have e:(rows.take a ++ [rows.getD a []]).getD a [] = rows.getD a []:=by
      have:=getD_last (xs:=rows.take a) (v:=rows.getD a [])
      rw [hti] at this;exact this
     rw [e]
     refine sp_sum (out:=out) (cf:=fun q => -1 * cf q) (fun a ha => sp_row ha) fun j hj => ?_
     have h1:=hcf j hj
     rw [k3 j (by omega)] at h1
     rw [S_congr (g:=fun q => -1 * (cf q * ent out q j)) (fun q _ => by rw [Int.mul_assoc]),S_mul']
     have h2:(at0 (rows.getD a []) j + S out.length fun q => cf q * ent out q j) % p = 0:=by rw [← h1];rfl
     rw [show at0 (rows.getD a []) j = (at0 (rows.getD a []) j + S out.length fun q => cf q * ent out q j) + -1 * (S out.length fun q => cf q * ent out q j) from by omega,Int.add_emod,h2,Int.zero_add,Int.emod_emod]
  ·have hk:k < n:=by omega
   have hwk:=hw.2 k hk
   have hne:=k4 hk
   obtain ⟨r,r1,r2,r3,r4⟩:=inv_spec hp (x:=at0 (cl p n out pv (rows.getD i []) out.length) k) (by omega) (by omega)
   have hsc:=scale_spec hp hn hw r2 r3
   have hu:Row p n (mkv n fun j => (at0 (cl p n out pv (rows.getD i []) out.length) j * r) % p):=⟨mkv_length _ _,fun j hj => by
    have e1:=Int.emod_nonneg (at0 (cl p n out pv (rows.getD i []) out.length) j * r) (show p ≠ 0 by omega)
    have e2:=Int.emod_lt_of_pos (at0 (cl p n out pv (rows.getD i []) out.length) j * r) (show 0 < p by omega)
    rw [mkv_at hj];omega⟩
   have ua:∀ j,j < n → at0 (mkv n fun j => (at0 (cl p n out pv (rows.getD i []) out.length) j * r) % p) j = (at0 (cl p n out pv (rows.getD i []) out.length) j * r) % p:=fun j hj => mkv_at hj
   generalize mkv n (fun j => (at0 (cl p n out pv (rows.getD i []) out.length) j * r) % p) = u at hsc hu ua
   have u1:at0 u k = 1:=by rw [ua k hk];exact r4
   have ul:∀ j,j < k → at0 u j = 0:=fun j hj => by rw [ua j (by omega),k3 j hj];simp
   have up:∀ a,a < out.length → at0 u (pv a) = 0:=fun a ha => by rw [ua _ (h.lt a ha),hpz a ha];simp
   obtain ⟨q,⟨hq,hq2⟩,hmin⟩:=least (p:=fun q => q ≤ out.length ∧ (q < out.length → k < pv q)) ⟨out.length,Nat.le_refl _,fun g => by omega⟩
   have q1:∀ a,a < q → pv a < k:=fun a ha => by
    have h1:¬ (k < pv a):=fun g => hmin a ha ⟨by omega,fun _ => g⟩
    have h2:pv a ≠ k:=fun e => by
     have:=up a (by omega)
     rw [e,u1] at this;cases this
    omega
   have q2:∀ a,q ≤ a → a < out.length → k < pv a:=fun a ha ha2 => by
    have h1:=hq2 (by omega)
    rcases Nat.lt_or_ge q a with g | g
    ·have:=h.mono q a g ha2;omega
    ·rw [show a = q from by omega];exact h1
   have hins:=insert_loop hp h hu hk u1 ul up hq q1 q2 hn (by omega) (x:=(i:Int))
   have hred:=insert_red hp h hu hk u1 ul up hq q1 q2
   obtain ⟨s1,s2,s3⟩:=insert_sp hp h hu hk u1 ul up hq q1 q2
   refine ⟨(mkR (out.length + 1) (newR p n out u k q),((i + 1:Nat):Int)),?_,_,_,rfl,hred,⟨fun a ha => ?_,fun a ha => ?_⟩,by rw [mkR_len];omega,by omega⟩
   ·unfold l2_spec_l02Reduce
    simp only
    rw [lt_t hi,cnd_t,ixO_d [] hi]
    simp only [bs,hcl,k2]
    rw [hw.1,beq_f (by omega),cnd_f,ixO_at (by rw [hw.1];exact hk)]
    simp only [bs,r1,hsc]
    cases hlo:loopO (l1_spec_l02Reduce p (out,(i:Int)) (k:Int) u) ([],false,0) with
    | none => rw [hlo] at hins;cases hins
    | some r32 =>
     rw [hlo,bs] at hins
     simp only [bs]
     obtain ⟨a1,a2⟩:=r32
     cases a2 with
     | true =>
      simp only [Bool.not_true,cnd_f] at hins ⊢
      rw [rng_of (by omega) (by omega),bs,cs,Option.some.inj hins]
     | false =>
      simp only [Bool.not_false,cnd_t] at hins ⊢
      cases hap:appO a1 [u] with
      | none => rw [hap] at hins;cases hins
      | some v33 =>
       rw [hap,bs] at hins
       simp only [bs]
       rw [rng_of (by omega) (by omega),bs,cs,Option.some.inj hins]
   ·rw [mkR_len] at ha
    rw [mkR_get ha]
    refine sp_trans (fun b hb => ?_) (s1 a ha)
    rw [List.length_append,List.length_singleton] at hb
    rcases Nat.lt_or_ge b out.length with g | g
    ·rw [getD_snoc g];exact hup _ (hs.1 b g)
    ·rw [show b = out.length from by omega,getD_last]
     have hwS:Sp p n (rows.take (i + 1)) (cl p n out pv (rows.getD i []) out.length):=by
      have hcS:Sp p n (rows.take (i + 1)) (mkv n fun j => S out.length fun k => cf k * ent out k j):=sp_sum (out:=out) (cf:=cf) (fun b hb => hup _ (hs.1 b hb)) fun j hj => by rw [mkv_at hj]
      refine sp_add (k:=1) hvs hcS fun j hj => ?_
      rw [hcf j hj,mkv_at hj,Int.one_mul]
     refine sp_add (k:=r) (sp_zero (u:=[]) fun j _ => by simp [at0]) hwS fun j hj => ?_
     rw [ua j hj,Int.emod_emod,show at0 ([]:List Int) j = 0 from by simp [at0],Int.zero_add,Int.mul_comm]
   ·rw [htk,List.length_append,hti,List.length_singleton] at ha
    rw [htk]
    rcases Nat.lt_or_ge a i with g | g
    ·rw [getD_snoc (by omega)]
     exact sp_trans s2 (hs.2 a (by omega))
    ·have hai:a = i:=by omega
     subst hai
     have e:(rows.take a ++ [rows.getD a []]).getD a [] = rows.getD a []:=by
      have:=getD_last (xs:=rows.take a) (v:=rows.getD a [])
      rw [hti] at this;exact this
     rw [e]
     have hwS:Sp p n (mkR (out.length + 1) (newR p n out u k q)) (cl p n out pv (rows.getD a []) out.length):=by
      refine sp_add (k:=at0 (cl p n out pv (rows.getD a []) out.length) k) (sp_zero (u:=[]) fun j _ => by simp [at0]) s3 fun j hj => ?_
      rw [ua j hj,show at0 ([]:List Int) j = 0 from by simp [at0],Int.zero_add]
      rw [Int.mul_emod,Int.emod_emod,← Int.mul_emod,← Int.mul_assoc,Int.mul_comm (at0 (cl p n out pv (rows.getD a []) out.length) k),Int.mul_assoc,Int.mul_emod,r4,Int.mul_one,Int.emod_emod]
     have hcS:Sp p n (mkR (out.length + 1) (newR p n out u k q)) (mkv n fun j => S out.length fun k => cf k * ent out k j):=sp_sum (out:=out) (cf:=cf) s2 fun j hj => by rw [mkv_at hj]
     refine sp_add (k:=-1) hwS hcS fun j hj => ?_
     rw [mkv_at hj,Int.add_emod,hcf j hj,← Int.add_emod]
     congr 1;omega
 ·obtain ⟨out,pv,rfl,h,hs,hl,_⟩:=hI
  refine ⟨out,?_,pv,⟨h,hl⟩,by rw [List.take_length] at hs;exact hs⟩
  unfold l2_spec_l02Reduce
  simp only
  rw [lt_f,cnd_f]
theorem reduce_spec:∃ R pv,f_spec_l02Reduce p rows = some R ∧ Red p n R pv ∧ SpEq p n R rows:=by
 obtain ⟨R,pv,h1,h2,h3⟩:=reduce_specL hp hn hm hr
 exact ⟨R,pv,h1,h2.1,h3⟩
theorem reduce_both:∃ R pv,f_spec_l02Reduce p rows = some R ∧ f_impl_reduceRows p rows = some R ∧ Red p n R pv ∧ SpEq p n R rows:=by
 have h7:=hp.pos
 obtain ⟨R,pv,h1,h2,h3⟩:=reduce_spec hp hn hm hr
 obtain ⟨R',pv',g1,g2,g3⟩:=reduce_impl hp hn hm hr
 have e:=h2.unique (by omega) g2 (h3.trans g3.symm)
 exact ⟨R,pv,h1,by rw [e];exact g1,h2,h3⟩
end
end Go.Pl

namespace Go.Pl
open Go Go.Ab Go.Wk Go.Pc
theorem map_loop {β:Type} {body:List β × Int → Option ((List β × Int) ⊕ List β)} (n:Nat) (F:Nat → β) (h:∀ i acc,i < n → acc.length = i → body (acc,(i:Int)) = some (.inl (acc ++ [F i],((i + 1:Nat):Int)))) (he:∀ acc,body (acc,(n:Int)) = some (.inr acc)) :
  loopO body ([],0) = some ((List.range n).map F):=by
 have:=loopO_seq (body:=body) (r:=(List.range n).map F) (fun i => ((List.range i).map F,(i:Int))) n (fun i hi => by
  rw [h i _ hi (by simp),List.range_succ,List.map_append];rfl) (he _)
 exact this
end Go.Pl

namespace Go.Pl
open Go Go.Ab Go.Wk Go.Pc
abbrev gl {β:Type} (m:Nat) (F:Nat → β):List β:=(List.range m).map F
theorem gl_len {β:Type} {m:Nat} {F:Nat → β}:(gl m F).length = m:=by simp [gl]
theorem gl_ix {β:Type} {m:Nat} {F:Nat → β} {i:Nat} (h:i < m):ixO (gl m F) (i:Int) = some (F i):=by
 rw [ixO_get (by rw [gl_len];exact h)];simp [gl]
end Go.Pl

namespace Go.Pl
open Go Go.Ab Go.Wk Go.Pc
end Go.Pl

namespace Go.Pl
open Go Go.Ab Go.Wk Go.Pc
theorem sm_le {α:Type} {c:α → Nat} {b:Nat}:∀ {xs:List α},(∀ x ∈ xs,c x ≤ b) → sm c xs ≤ xs.length * b
 | [],_ => by simp [sm]
 | x :: xs,h => by
  have h1:=sm_le (xs:=xs) fun y hy => h y (by simp [hy])
  have h2:=h x (by simp)
  simp only [sm,List.length_cons,Nat.succ_mul];omega
end Go.Pl

namespace Go.Pl
open Go Go.Ab Go.Wk Go.Pc
def totP (x:SPresentation):Nat:=c1 x.Orders + sm c1 x.Powers + sm (sm c1) x.Conjugates
def markP (x:SPresentation) (k:Int):SPresentation:=⟨m1 k x.Orders,m2 (k + c1 x.Orders) x.Powers,m3 (k + c1 x.Orders + sm c1 x.Powers) x.Conjugates⟩
theorem totP_le {x:SPresentation} (h:SPres x):totP x ≤ 3145728:=by
 obtain ⟨h1,h2,h3⟩:=h
 have g2:=sm2_le (x:=x.Powers)
 have g3:=sm3_le (x:=x.Conjugates)
 simp only [S1] at h1
 simp only [S2] at h2
 simp only [S3] at h3
 simp only [totP];omega
theorem markPresentation_eq {x:SPresentation} {k:Int} (h:SPres x) (k0:0 ≤ k) (k1:k ≤ 1000000000):f_laws_markPresentation x k = some (k + totP x,markP x k):=by
 have ht:=totP_le h
 simp only [totP] at ht
 unfold f_laws_markPresentation
 rw [markInt64S h.1 k0 (by omega),bs,markInt64SS h.2.1 (by simp only;omega) (by simp only;omega),bs,markInt64SSS h.2.2 (by simp only;omega) (by simp only;omega),bs]
 simp only [totP,markP,Int.natCast_add,Int.add_assoc]
end Go.Pl

namespace Go.Pl
open Go Go.Ab Go.Wk Go.Pc
theorem own2_spec {xs:Mx} (h:xs.length ≤ 100000) (hl:∀ i,i < xs.length → (xs.getD i []).length ≤ 1000000):f_spec_l01Own2 xs = some xs:=by
 unfold f_spec_l01Own2
 rw [map_loop (body:=l1_spec_l01Own2 xs) xs.length (fun i => xs.getD i []) (fun i acc hi ha => by
  unfold l1_spec_l01Own2
  simp only
  rw [lt_t hi,cnd_t,ixO_d [] hi,bs,own_spec (hl i hi),bs,appO_of (by simp;omega),bs,rng_of (by omega) (by omega),bs,cs]) (fun acc => by
  unfold l1_spec_l01Own2
  simp only
  rw [lt_f,cnd_f]),bs]
 congr 1
 exact (mkR_eq rfl).symm
theorem product_rows {p:Int} (hp:Prime p) {D:Nat} (hD:D ≤ 3) {A B:Mx} (hl:A.length ≤ 1000) (hA:∀ i,i < A.length → Row p D (A.getD i [])) (hB:Mat p D B):f_spec_l02Product p A B (D:Int) = some (PM p D A B):=by
 unfold f_spec_l02Product
 have:=loopO_seq (body:=l1_spec_l02Product p A B (D:Int)) (r:=PM p D A B) (fun i => ((PM p D A B).take i,(i:Int))) A.length (fun i hi => by
  unfold l1_spec_l02Product
  simp only
  rw [lt_t hi,cnd_t,ixO_d [] (by omega),bs,times_spec hp (by omega) (hA i hi) hB,bs,appO_of (by rw [List.length_take,PM_length];simp;omega),bs,rng_of (by omega) (by omega),bs,cs,prod_take hp (by omega) (by omega)]) (by
  unfold l1_spec_l02Product
  simp only
  rw [lt_f,cnd_f,List.take_of_length_le (by rw [PM_length];omega)])
 rw [show ((0:Nat):Int) = 0 from rfl,List.take_zero] at this
 rw [this,bs]
theorem sp_mem {p:Int} {n:Nat} {R:Mx} {v:List Int} (h:v ∈ R):Sp p n R v:=by
 obtain ⟨i,hi,rfl⟩:=List.mem_iff_getElem.1 h
 have:=sp_row (p:=p) (n:=n) hi
 rwa [List.getD_eq_getElem?_getD,List.getElem?_eq_getElem hi] at this
theorem getD_mem {R:Mx} {i:Nat} (hi:i < R.length):R.getD i [] ∈ R:=by
 rw [List.getD_eq_getElem?_getD,List.getElem?_eq_getElem hi];exact List.getElem_mem hi
section
variable {n D:Nat} {m:SModule} (hm:MOk n m D) (hn:n ≤ 6)
 include hm hn
def spA (m:SModule) (D:Nat) (R:Mx):Nat → Mx
 | 0 => R
 | i + 1 => spA m D R i ++ PM m.Prime D R (m.Actions.getD i [])
theorem spA_len {R:Mx}:∀ i,(spA m D R i).length = R.length + i * R.length
 | 0 => by have _:=hm;have _:=hn;simp [spA]
 | i + 1 => by rw [spA,List.length_append,spA_len i,PM_length,Nat.succ_mul];omega
theorem spA_all {R:Mx} {P:List Int → Prop} (h0:∀ r ∈ R,P r) (h1:∀ r ∈ R,∀ i,i < n → P (rowM m.Prime D r (m.Actions.getD i []))):∀ i,i ≤ n → ∀ r ∈ spA m D R i,P r
 | 0,_,r,hr => by
  have _:=hm;have _:=hn
  exact h0 r hr
 | i + 1,hi,r,hr => by
  rw [spA,List.mem_append] at hr
  rcases hr with h | h
  ·exact spA_all h0 h1 i (by omega) r h
  ·obtain ⟨s,hs,rfl⟩:=List.mem_map.1 h
   exact h1 s hs i (by omega)
theorem spA_in {R:Mx}:∀ i,∀ r ∈ R,r ∈ spA m D R i
 | 0,_,h => by
  have _:=hm;have _:=hn
  exact h
 | i + 1,r,h => by rw [spA,List.mem_append];exact .inl (spA_in i r h)
end
end Go.Pl

namespace Go.Pl
open Go Go.Ab Go.Wk Go.Pc
theorem eqMatrix {x:SMatrix} (h:S2 x.Rows):f_laws_eqMatrix x x = some true:=by
 unfold f_laws_eqMatrix
 rw [bne_self_eq_false,cnd_f,bne_self_eq_false,cnd_f,eqInt64SS h,bs,beq_self_eq_true,Bool.not_true,cnd_f]
theorem markMatrix {x:SMatrix} {k:Int} (h:S2 x.Rows) (k0:0 ≤ k) (k1:k ≤ 1000000000):f_laws_markMatrix x k = some (k + sm c1 x.Rows,SMatrix.mk x.Prime x.Columns (m2 k x.Rows)):=by
 have g2:=sm2_le (x:=x.Rows)
 have h':=h
 simp only [S2] at h'
 unfold f_laws_markMatrix
 rw [markInt64SS h k0 (by omega),bs]
end Go.Pl

namespace Go.Pl
open Go Go.Ab Go.Wk Go.Pc
theorem index_impl {v:List Int} {k:Nat} (hl:v.length ≤ 1000000) (hk:k < v.length) (h0:∀ j,j < k → at0 v j = 0) (h1:at0 v k ≠ 0):f_slices_IndexFunc_int64_int64 v = some (k:Int):=by
 unfold f_slices_IndexFunc_int64_int64
 have:=loopO_seq (body:=l1_slices_IndexFunc_int64_int64 v) (r:=.inr (k:Int)) (fun i => (i:Int)) k (fun i hi => by
  unfold l1_slices_IndexFunc_int64_int64 f_impl_pivots_1
  rw [lt_t (by omega),cnd_t,ixO_at (by omega),bs,bs,h0 i hi,bne_self_eq_false,cnd_f,rng_of (by omega) (by omega),bs,cs]) (by
  unfold l1_slices_IndexFunc_int64_int64 f_impl_pivots_1
  rw [lt_t hk,cnd_t,ixO_at hk,bs,bs,bne_t h1,cnd_t])
 have e:loopO (l1_slices_IndexFunc_int64_int64 v) 0 = some (.inr (k:Int)):=this
 rw [e,bs]
section
variable {p:Int} (hp:Prime p) {n:Nat} (hn:n ≤ 100000) {R:Mx} {pv:Nat → Nat} (h:Red p n R pv) {v:List Int} (hv:Row p n v)
 include hp hn h
theorem pivots_impl (hm:R.length ≤ 100000):f_impl_pivots R = some (gl R.length fun i => (pv i:Int)):=by
 have h7:=hp.pos
 unfold f_impl_pivots
 rw [map_loop (body:=l1_impl_pivots R) R.length (fun i => (pv i:Int)) (fun i acc hi ha => by
  have hr:=h.row i hi
  have h1:=h.one i hi
  unfold l1_impl_pivots
  simp only
  rw [lt_t hi,cnd_t,ixO_d [] hi,bs,index_impl (k:=pv i) (by rw [hr.1];omega) (by rw [hr.1];exact h.lt i hi) (fun j hj => h.low i hi j hj) (by simp only [ent] at h1;omega),bs,appO_of (by simp;omega),bs,rng_of (by omega) (by omega),bs,cs]) (fun acc => by
  unfold l1_impl_pivots
  simp only
  rw [lt_f,cnd_f]),bs]
 include hv
theorem cl_neg {i:Nat} (hi:i < R.length):addM p n (cl p n R pv v i) (0 - at0 (cl p n R pv v i) (pv i)) (R.getD i []) = cl p n R pv v (i + 1):=by
 have _:=hp;have _:=hn;have _:=h;have _:=hv;have _:=hi
 rw [cl]
 refine mkv_congr fun j _ => ?_
 generalize at0 (cl p n R pv v i) (pv i) = a
 generalize at0 (R.getD i []) j = b
 rw [Int.sub_mul,Int.sub_mul,Int.zero_mul]
 have e:at0 (cl p n R pv v i) j + (p * b - a * b) = at0 (cl p n R pv v i) j + (0 - a * b) + p * b:=by omega
 rw [e,Int.add_mul_emod_self_left]
theorem remainder_impl {c:Int} (hm:R.length ≤ 100000):f_impl_remainderMod (SMatrix.mk p c R) v = some (cl p n R pv v R.length):=by
 have h7:=hp.pos
 have:=loopO_seq (body:=l1_impl_remainderMod (SMatrix.mk p c R) (gl R.length fun i => (pv i:Int))) (r:=cl p n R pv v R.length) (fun i => (cl p n R pv v i,(i:Int))) R.length (fun i hi => by
  have hr:=cl_row hp hn h hv i
  have ha:=hr.2 (pv i) (h.lt i hi)
  unfold l1_impl_remainderMod
  simp only
  rw [gl_len,lt_t hi,cnd_t,gl_ix hi,bs,ixO_d [] hi,bs,ixO_at (by rw [hr.1];exact h.lt i hi),bs,rng_of (by omega) (by omega),bs,addM_impl hp hr (h.row i hi) (by omega) (by omega),bs,rng_of (by omega) (by omega),bs,cs,cl_neg hp hn h hv hi]) (by
  unfold l1_impl_remainderMod
  simp only
  rw [gl_len,lt_f,cnd_f])
 unfold f_impl_remainderMod
 rw [clone_impl (by rw [hv.1];omega),bs]
 simp only
 rw [pivots_impl hp hn h hm,bs]
 have e:loopO (l1_impl_remainderMod (SMatrix.mk p c R) (gl R.length fun i => (pv i:Int))) (v,0) = some (cl p n R pv v R.length):=this
 rw [e,bs]
theorem cl_zero:(∀ j,j < n → at0 (cl p n R pv v R.length) j = 0) ↔ Sp p n R v:=by
 have h7:=hp.pos
 obtain ⟨cf,hcf⟩:=cl_comb hp hn h hv R.length (Nat.le_refl _)
 have hr:=cl_row hp hn h hv R.length
 have hs:Sp p n R (mkv n fun j => S R.length fun k => cf k * ent R k j):=⟨cf,fun j hj => by rw [mkv_at hj]⟩
 constructor
 ·intro h0
  refine sp_add (v:=mkv n fun _ => 0) (w:=mkv n fun j => S R.length fun k => cf k * ent R k j) (k:=-1) (sp_zero fun j hj => by rw [mkv_at hj];rfl) hs fun j hj => ?_
  have h1:=hcf j hj
  rw [h0 j hj] at h1
  rw [mkv_at hj,mkv_at hj]
  generalize (S R.length fun k => cf k * ent R k j) = s at h1 ⊢
  have h2:(at0 v j + s) % p = 0:=by rw [← h1];rfl
  have h3:(at0 v j - (0 + -1 * s)) % p = 0:=by rw [← h2];congr 1;omega
  exact Int.emod_eq_emod_iff_emod_sub_eq_zero.2 h3
 ·intro hsp j hj
  have h1:Sp p n R (cl p n R pv v R.length):=sp_add (k:=1) hsp hs fun j hj => by rw [hcf j hj,mkv_at hj,Int.one_mul]
  have h2:=h.expand h1 j hj
  rw [S_congr (g:=fun _ => 0) (fun i hi => by rw [cl_piv hp hn h hv R.length (Nat.le_refl _) i hi,Int.zero_mul]),S_zero] at h2
  have h3:=hr.2 j hj
  rw [Int.emod_eq_of_lt h3.1 (by omega)] at h2
  rw [h2];rfl
end
end Go.Pl

namespace Go.Pl
open Go Go.Ab Go.Wk Go.Pc
section
variable {p:Int} (hp:1 < p) {n:Nat} {R R':Mx} {pv pv':Nat → Nat} (h:Red p n R pv) (h':Red p n R' pv') (hs:∀ i,i < R.length → Sp p n R' (R.getD i []))
 include hp h h' hs
theorem Red.lt_of {i i2 k k2:Nat} (hii:i < i2) (hi2:i2 < R.length) (hk:k < R'.length) (e:pv' k = pv i) (e2:pv' k2 = pv i2):k < k2:=by
 have _:=hp;have _:=hs
 have h1:=h.mono i i2 hii hi2
 refine Classical.byContradiction fun hn => ?_
 rcases Nat.lt_or_ge k2 k with g | g
 ·have:=h'.mono k2 k g hk;omega
 ·have:k = k2:=by omega
  subst this;omega
theorem Red.low_in:∀ i,i < R.length → ∃ k,k < R'.length ∧ pv' k = pv i ∧ i ≤ k:=by
 intro i
 induction i with
 | zero => intro hi;obtain ⟨k,hk,e⟩:=h.piv_in hp h' hs hi;exact ⟨k,hk,e,by omega⟩
 | succ i ih =>
  intro hi
  obtain ⟨k,hk,e,hik⟩:=ih (by omega)
  obtain ⟨k2,hk2,e2⟩:=h.piv_in hp h' hs hi
  have:=h.lt_of hp h' hs (show i < i + 1 by omega) hi hk e e2
  exact ⟨k2,hk2,e2,by omega⟩
theorem Red.high_in:∀ d i,i + d + 1 = R.length → ∃ k,k + d < R'.length ∧ pv' k = pv i:=by
 intro d
 induction d with
 | zero => intro i hi;obtain ⟨k,hk,e⟩:=h.piv_in hp h' hs (i:=i) (by omega);exact ⟨k,by omega,e⟩
 | succ d ih =>
  intro i hi
  obtain ⟨k2,hk2,e2⟩:=ih (i + 1) (by omega)
  obtain ⟨k,hk,e⟩:=h.piv_in hp h' hs (i:=i) (by omega)
  have:=h.lt_of hp h' hs (show i < i + 1 by omega) (by omega) hk e e2
  exact ⟨k,by omega,e⟩
theorem Red.le_of:R.length ≤ R'.length:=by
 rcases Nat.eq_zero_or_pos R.length with g | g
 ·omega
 ·obtain ⟨k,hk,_,hik⟩:=h.low_in hp h' hs (R.length - 1) (by omega)
  omega
theorem Red.eq_of (hl:R.length = R'.length):R = R':=by
 have hpv:∀ i,i < R.length → pv' i = pv i:=fun i hi => by
  obtain ⟨k,hk,e,hik⟩:=h.low_in hp h' hs i hi
  obtain ⟨k2,hk2,e2⟩:=h.high_in hp h' hs (R.length - 1 - i) i (by omega)
  have h1:k2 ≤ i:=by omega
  rcases Nat.lt_or_ge k2 k with g | g
  ·have:=h'.mono k2 k g hk;omega
  ·have:k = i:=by omega
   subst this;exact e
 refine mx_ext (D:=R.length) rfl hl.symm fun i hi => ?_
 have hi':i < R'.length:=by omega
 have r1:=h.row i hi
 have r2:=h'.row i hi'
 rw [mkv_eq r1.1,mkv_eq r2.1]
 refine mkv_congr fun j hj => ?_
 have h1:=h'.expand (hs i hi) j hj
 rw [S_one (k:=i) hi' (fun k hk hne => by
  have h3:=h.off k i (by omega) hi (Ne.symm hne)
  simp only [ent] at h3
  rw [hpv k (by omega),h3,Int.zero_mul])] at h1
 have h4:=h.one i hi
 simp only [ent] at h4
 rw [hpv i hi,h4,Int.one_mul] at h1
 have b1:=r1.2 j hj
 have b2:=r2.2 j hj
 simp only [ent] at h1
 rwa [Int.emod_eq_of_lt b1.1 (by omega),Int.emod_eq_of_lt b2.1 (by omega)] at h1
end
end Go.Pl

namespace Go.Pl
open Go Go.Ab Go.Wk Go.Pc
def Inv (m:SModule) (n D:Nat) (R:Mx):Prop:=∀ r ∈ R,∀ i,i < n → Sp m.Prime D R (rowM m.Prime D r (m.Actions.getD i []))
section
variable {n D:Nat} {m:SModule} (hm:MOk n m D) (hn:n ≤ 6)
 include hm hn
theorem spA_mem {R:Mx} {r:List Int} (hr:r ∈ R) {i:Nat}:∀ j,i < j → rowM m.Prime D r (m.Actions.getD i []) ∈ spA m D R j
 | 0,h => by
  have _:=hm;have _:=hn
  omega
 | j + 1,h => by
  rw [spA,List.mem_append]
  by_cases e:i = j
  ·subst e;exact .inr (List.mem_map.2 ⟨r,hr,rfl⟩)
  ·exact .inl (spA_mem hr j (by omega))
theorem spin_step {R:Mx} {pv:Nat → Nat} (hR:Red m.Prime D R pv):∃ R2 pv2,Red m.Prime D R2 pv2 ∧ R.length ≤ R2.length ∧ (R2.length = R.length ↔ Inv m n D R) ∧ l2_spec_l21Spin m R = if R2.length = R.length then some (.inr R) else some (.inl R2):=by
 have h7:=hm.p.pos
 have h3:=hm.d3
 have hRl:R.length ≤ D:=hR.len_le
 have hrow:∀ r ∈ R,Row m.Prime D r:=fun r h => by
  obtain ⟨i,hi,rfl⟩:=List.mem_iff_getElem.1 h
  have:=hR.row i hi
  rwa [List.getD_eq_getElem?_getD,List.getElem?_eq_getElem hi] at this
 have hin:(loopO (l1_spec_l21Spin m R) (R,0)) = some (spA m D R n):=by
  have:=loopO_seq (body:=l1_spec_l21Spin m R) (r:=spA m D R n) (fun i => (spA m D R i,(i:Int))) n (fun i hi => by
   have hl:=spA_len hm hn (R:=R) i
   have hl2:i * R.length ≤ 6 * 3:=Nat.mul_le_mul (by omega) (by omega)
   unfold l1_spec_l21Spin
   simp only
   rw [hm.len,lt_t hi,cnd_t,ixO_d [] (by rw [hm.len];exact hi),bs,hm.d,product_rows hm.p h3 (by omega) hR.row (hm.mat i hi),bs,appO_of (by rw [hl,PM_length];omega),bs,rng_of (by omega) (by omega),bs,cs];rfl) (by
   unfold l1_spec_l21Spin
   simp only
   rw [hm.len,lt_f,cnd_f])
  exact this
 have hl:=spA_len hm hn (R:=R) n
 have hl2:n * R.length ≤ 6 * 3:=Nat.mul_le_mul (by omega) (by omega)
 have hrows:=spA_all hm hn (R:=R) (P:=Row m.Prime D) hrow (fun r _ i _ => rowM_row (by omega)) n (Nat.le_refl _)
 obtain ⟨R2,pv2,g1,_,g3,g4⟩:=reduce_both hm.p (n:=D) (by omega) (rows:=spA m D R n) (by omega) fun i hi => hrows _ (getD_mem hi)
 have hsub:∀ i,i < R.length → Sp m.Prime D R2 (R.getD i []):=fun i hi => g4.iff.2 (sp_mem (spA_in hm hn n _ (getD_mem hi)))
 refine ⟨R2,pv2,g3,hR.le_of (by omega) g3 hsub,⟨fun hlen => ?_,fun hI => ?_⟩,?_⟩
 ·have hu:=hR.eq_of (by omega) g3 hsub hlen.symm
  intro r hr i hi
  rw [hu]
  exact g4.iff.2 (sp_mem (hu ▸ spA_mem hm hn hr n hi))
 ·have hin2:∀ r ∈ spA m D R n,Sp m.Prime D R r:=spA_all hm hn (R:=R) (P:=Sp m.Prime D R) (fun r h => sp_mem h) (fun r h i hi => hI r h i hi) n (Nat.le_refl _)
  have:=g3.le_of (by omega) hR fun i hi => sp_trans (fun j hj => hin2 _ (getD_mem hj)) (g4.1 i hi)
  have:=hR.le_of (by omega) g3 hsub
  omega
 ·unfold l2_spec_l21Spin
  rw [own2_spec (by omega) (fun i hi => by rw [(hR.row i hi).1];omega),bs,hin,bs,g1,bs]
  by_cases e:R2.length = R.length
  ·rw [if_pos e,e];simp only [beq_self_eq_true,cnd_t]
  ·rw [if_neg e,show ((R2.length:Int) == (R.length:Int)) = false from by simp;omega,cnd_f]
theorem spin_any:∀ (d:Nat) (R:Mx) (pv:Nat → Nat),Red m.Prime D R pv → D - R.length ≤ d → ∃ W,loopO (l2_spec_l21Spin m) R = some W ∧ R.length ≤ W.length ∧ (W.length = R.length ↔ Inv m n D R):=by
 intro d
 induction d with
 | zero =>
  intro R pv hR hd
  have hRl:R.length ≤ D:=hR.len_le
  obtain ⟨R2,pv2,g1,g2,g3,g4⟩:=spin_step hm hn hR
  have h2:R2.length ≤ D:=g1.len_le
  have e:R2.length = R.length:=by omega
  rw [if_pos e] at g4
  exact ⟨R,by rw [loopO_eq,g4],Nat.le_refl _,⟨fun _ => g3.1 e,fun _ => rfl⟩⟩
 | succ d ih =>
  intro R pv hR hd
  obtain ⟨R2,pv2,g1,g2,g3,g4⟩:=spin_step hm hn hR
  by_cases e:R2.length = R.length
  ·rw [if_pos e] at g4
   exact ⟨R,by rw [loopO_eq,g4],Nat.le_refl _,⟨fun _ => g3.1 e,fun _ => rfl⟩⟩
  ·rw [if_neg e] at g4
   obtain ⟨W,w1,w2,_⟩:=ih R2 pv2 g1 (by omega)
   exact ⟨W,by rw [loopO_eq,g4];exact w1,by omega,⟨fun h => by omega,fun hI => absurd (g3.2 hI) e⟩⟩
end
end Go.Pl

namespace Go.Pl
open Go Go.Ab Go.Wk Go.Pc
end Go.Pl

namespace Go.Pl
open Go Go.Ab Go.Wk Go.Pc
def IsMx (u:SMatrix):Prop:=Prime u.Prime ∧ ∃ C:Nat,C ≤ 8 ∧ u.Columns = (C:Int) ∧ u.Rows.length ≤ 8 ∧ ∀ i,i < u.Rows.length → Row u.Prime C (u.Rows.getD i [])
theorem isMx_impl {u:SMatrix}:IsB (f_impl_IsMatrix u) (IsMx u):=by
 unfold f_impl_IsMatrix
 rcases prime_impl u.Prime with ⟨h1,h2⟩ | ⟨h1,h2⟩
 ·rw [h1,bs,Bool.not_true,cnd_f]
  rcases inside_impl u.Columns 0 8 with ⟨h3,h4⟩ | ⟨h3,h4⟩
  ·obtain ⟨C,hC⟩:∃ C:Nat,u.Columns = (C:Int):=⟨u.Columns.toNat,by omega⟩
   rw [h3,bs,Bool.not_true,cnd_f]
   by_cases hl:u.Rows.length ≤ 8
   ·rw [decide_eq_false (by omega),cnd_f]
    refine (all_fn (body:=l1_impl_IsMatrix u) u.Rows.length (fun i => Row u.Prime C (u.Rows.getD i [])) rfl (fun i hi _ => ?_) ?_).iff ⟨fun g => ⟨h2,C,by omega,hC,hl,g⟩,fun ⟨_,C',_,e,_,g⟩ => by
     have:C' = C:=by omega
     rw [← this];exact g⟩
    ·refine one_chk (vector_impl h2 (D:=C) (by omega)) (by omega) ?_
     unfold l1_impl_IsMatrix
     rw [lt_t hi,cnd_t,ixO_d [] hi,bs,hC]
    ·unfold l1_impl_IsMatrix
     rw [lt_f,cnd_f]
   ·rw [decide_eq_true (by omega),cnd_t]
    exact .inr ⟨rfl,fun ⟨_,_,_,_,g,_⟩ => hl g⟩
  ·rw [h3,bs,Bool.not_false,cnd_t]
   exact .inr ⟨rfl,fun ⟨_,C,g1,g2,_⟩ => h4 (by omega)⟩
 ·rw [h1,bs,Bool.not_false,cnd_t]
  exact .inr ⟨rfl,fun g => h2 g.1⟩
theorem isMx_spec {u:SMatrix}:IsB (f_spec_IsMatrix u) (IsMx u):=by
 unfold f_spec_IsMatrix
 rcases prime_spec u.Prime with ⟨h1,h2⟩ | ⟨h1,h2⟩
 ·rw [h1,bs,Bool.not_true,cnd_f]
  rcases inside_spec u.Columns 0 8 with ⟨h3,h4⟩ | ⟨h3,h4⟩
  ·obtain ⟨C,hC⟩:∃ C:Nat,u.Columns = (C:Int):=⟨u.Columns.toNat,by omega⟩
   rw [h3,bs,Bool.not_true,cnd_f]
   by_cases hl:u.Rows.length ≤ 8
   ·rw [decide_eq_false (by omega),cnd_f]
    refine (all_fn (body:=l1_spec_IsMatrix u) u.Rows.length (fun i => Row u.Prime C (u.Rows.getD i [])) rfl (fun i hi _ => ?_) ?_).iff ⟨fun g => ⟨h2,C,by omega,hC,hl,g⟩,fun ⟨_,C',_,e,_,g⟩ => by
     have:C' = C:=by omega
     rw [← this];exact g⟩
    ·refine one_chk (vector_spec h2 (D:=C) (by omega)) (by omega) ?_
     unfold l1_spec_IsMatrix
     rw [lt_t hi,cnd_t,ixO_d [] hi,bs,hC]
    ·unfold l1_spec_IsMatrix
     rw [lt_f,cnd_f]
   ·rw [decide_eq_true (by omega),cnd_t]
    exact .inr ⟨rfl,fun ⟨_,_,_,_,g,_⟩ => hl g⟩
  ·rw [h3,bs,Bool.not_false,cnd_t]
   exact .inr ⟨rfl,fun ⟨_,C,g1,g2,_⟩ => h4 (by omega)⟩
 ·rw [h1,bs,Bool.not_false,cnd_t]
  exact .inr ⟨rfl,fun g => h2 g.1⟩
def IsSs (u:SMatrix):Prop:=Prime u.Prime ∧ ∃ (C:Nat) (pv:Nat → Nat),C ≤ 8 ∧ u.Columns = (C:Int) ∧ Red u.Prime C u.Rows pv
theorem IsSs.mx {u:SMatrix} (h:IsSs u):IsMx u:=by
 obtain ⟨h1,C,pv,h2,h3,h4⟩:=h
 exact ⟨h1,C,h2,h3,by have:=h4.len_le;omega,h4.row⟩
theorem Row.len {p:Int} {n:Nat} {R:Mx} (h:∀ i,i < R.length → Row p n (R.getD i [])):∀ r ∈ R,r.length = n:=fun r hr => by
 obtain ⟨i,hi,rfl⟩:=List.mem_iff_getElem.1 hr
 have:=(h i hi).1
 rwa [List.getD_eq_getElem?_getD,List.getElem?_eq_getElem hi] at this
theorem subspace_impl {u:SMatrix}:IsB (f_impl_IsSubspace u) (IsSs u):=by
 unfold f_impl_IsSubspace
 rcases isMx_impl (u:=u) with ⟨h1,h2⟩ | ⟨h1,h2⟩
 ·obtain ⟨g1,C,g2,g3,g4,g5⟩:=h2
  obtain ⟨R,pv,r1,r2,r3,r4⟩:=reduce_both g1 (n:=C) (by omega) (rows:=u.Rows) (by omega) g5
  have hRl:R.length ≤ C:=r3.len_le
  rw [h1,bs,cnd_t]
  unfold f_impl_reduced f_impl_spanOf
  rw [r2]
  simp only [bs]
  rw [sameRows_impl (by omega) (fun r hr => by rw [Row.len r3.row r hr];omega)]
  simp only [bs]
  refine IsB.of_bool ⟨fun e => ?_,fun ⟨_,C',pv',_,e2,e3⟩ => ?_⟩
  ·have e:R = u.Rows:=by simpa using e
   exact ⟨g1,C,pv,g2,g3,e ▸ r3⟩
  ·obtain rfl:C' = C:=by omega
   have:=g1.pos
   have:=r3.unique (by omega) e3 r4
   simp [this]
 ·rw [h1,bs,cnd_f]
  exact .inr ⟨rfl,fun g => h2 g.mx⟩
theorem subspace_spec {u:SMatrix}:IsB (f_spec_IsSubspace u) (IsSs u):=by
 unfold f_spec_IsSubspace
 rcases isMx_spec (u:=u) with ⟨h1,h2⟩ | ⟨h1,h2⟩
 ·obtain ⟨g1,C,g2,g3,g4,g5⟩:=h2
  obtain ⟨R,pv,r1,r2,r3,r4⟩:=reduce_both g1 (n:=C) (by omega) (rows:=u.Rows) (by omega) g5
  have hRl:R.length ≤ C:=r3.len_le
  rw [h1,bs,cnd_t,r1]
  simp only [bs]
  rw [same2_spec (by omega) (fun r hr => by rw [Row.len r3.row r hr];omega)]
  simp only [bs]
  refine IsB.of_bool ⟨fun e => ?_,fun ⟨_,C',pv',_,e2,e3⟩ => ?_⟩
  ·have e:R = u.Rows:=by simpa using e
   exact ⟨g1,C,pv,g2,g3,e ▸ r3⟩
  ·obtain rfl:C' = C:=by omega
   have:=g1.pos
   have:=r3.unique (by omega) e3 r4
   simp [this]
 ·rw [h1,bs,cnd_f]
  exact .inr ⟨rfl,fun g => h2 g.mx⟩
theorem isZeroG_impl {v:List Int} (hl:v.length ≤ 1000000):IsB (f_impl_isZero v) (∀ i,i < v.length → at0 v i = 0):=by
 refine all_fn v.length (fun i => at0 v i = 0) rfl (fun i hi _ => ?_) ?_
 ·refine one_chk (o:=some (at0 v i == 0)) (IsB.of_bool (by simp)) (by omega) ?_
  unfold l1_impl_isZero
  rw [lt_t hi,cnd_t,ixO_at hi,bs,bs];rfl
 ·unfold l1_impl_isZero
  rw [lt_f,cnd_f]
theorem productR_impl {p:Int} (hp:Prime p) {D:Nat} (hD:D ≤ 3) {A B:Mx} {q:Int} (hl:A.length ≤ 1000) (hA:∀ i,i < A.length → Row p D (A.getD i [])) (hB:Mat p D B):f_impl_product (SMatrix.mk p q A) (SMatrix.mk p (D:Int) B) = some (SMatrix.mk p (D:Int) (PM p D A B)):=by
 unfold f_impl_product
 have:=loopO_seq (body:=l1_impl_product (SMatrix.mk p q A) (SMatrix.mk p (D:Int) B)) (r:=PM p D A B) (fun i => ((PM p D A B).take i,(i:Int))) A.length (fun i hi => by
  unfold l1_impl_product
  simp only
  rw [lt_t hi,cnd_t,ixO_d [] (by omega),bs,vectorTimes_impl hp (by omega) (hA i hi) hB rfl,bs,appO_of (by rw [List.length_take,PM_length];simp;omega),bs,rng_of (by omega) (by omega),bs,cs,prod_take hp (by omega) (by omega)]) (by
  unfold l1_impl_product
  simp only
  rw [lt_f,cnd_f,List.take_of_length_le (by rw [PM_length];omega)])
 rw [show ((0:Nat):Int) = 0 from rfl,List.take_zero] at this
 rw [this,bs]
section
variable {n D:Nat} {m:SModule} (hm:MOk n m D) (hn:n ≤ 6)
 include hm
def Fit (m:SModule) (D:Nat) (u:SMatrix):Prop:=u.Prime = m.Prime ∧ u.Columns = (D:Int) ∧ ∃ pv,Red m.Prime D u.Rows pv
theorem fit_iff {u:SMatrix}:(IsSs u ∧ u.Prime = m.Prime ∧ u.Columns = m.Dim) ↔ Fit m D u:=by
 have h3:=hm.d3
 have hd:=hm.d
 constructor
 ·rintro ⟨⟨_,C,pv,_,g2,g3⟩,e1,e2⟩
  obtain rfl:C = D:=by omega
  exact ⟨e1,g2,pv,e1 ▸ g3⟩
 ·rintro ⟨e1,e2,pv,e3⟩
  exact ⟨⟨e1 ▸ hm.p,D,pv,by omega,e2,e1 ▸ e3⟩,e1,by omega⟩
theorem fit_impl {u:SMatrix}:IsB (f_impl_fitsModule m u) (Fit m D u):=by
 refine IsB.iff ?_ (fit_iff hm)
 unfold f_impl_fitsModule
 rcases subspace_impl (u:=u) with ⟨h1,h2⟩ | ⟨h1,h2⟩
 ·rw [h1,bs,cnd_t]
  by_cases e1:u.Prime = m.Prime
  ·rw [beq_t e1,cnd_t]
   by_cases e2:u.Columns = m.Dim
   ·rw [beq_t e2];exact .inl ⟨rfl,h2,e1,e2⟩
   ·rw [show (u.Columns == m.Dim) = false from by simpa using e2];exact .inr ⟨rfl,fun g => e2 g.2.2⟩
  ·rw [show (u.Prime == m.Prime) = false from by simpa using e1,cnd_f];exact .inr ⟨rfl,fun g => e1 g.2.1⟩
 ·rw [h1,bs,cnd_f];exact .inr ⟨rfl,fun g => h2 g.1⟩
theorem fit_spec {u:SMatrix}:IsB (f_spec_l21Space m u) (Fit m D u):=by
 refine IsB.iff ?_ (fit_iff hm)
 unfold f_spec_l21Space
 rcases subspace_spec (u:=u) with ⟨h1,h2⟩ | ⟨h1,h2⟩
 ·rw [h1,bs,cnd_t]
  by_cases e1:u.Prime = m.Prime
  ·rw [beq_t e1,cnd_t]
   by_cases e2:u.Columns = m.Dim
   ·rw [beq_t e2];exact .inl ⟨rfl,h2,e1,e2⟩
   ·rw [show (u.Columns == m.Dim) = false from by simpa using e2];exact .inr ⟨rfl,fun g => e2 g.2.2⟩
  ·rw [show (u.Prime == m.Prime) = false from by simpa using e1,cnd_f];exact .inr ⟨rfl,fun g => e1 g.2.1⟩
 ·rw [h1,bs,cnd_f];exact .inr ⟨rfl,fun g => h2 g.1⟩
 include hn
theorem invRows_iff {R:Mx}:(∀ i,i < n → ∀ k,k < R.length → Sp m.Prime D R (rowM m.Prime D (R.getD k []) (m.Actions.getD i []))) ↔ Inv m n D R:=by
 have _:=hm;have _:=hn
 constructor
 ·intro h r hr i hi
  obtain ⟨k,hk,rfl⟩:=List.mem_iff_getElem.1 hr
  have:=h i hi k hk
  rwa [List.getD_eq_getElem?_getD,List.getElem?_eq_getElem hk] at this
 ·intro h i hi k hk
  exact h _ (getD_mem hk) i hi
theorem isSub_impl {u:SMatrix} (hu:Fit m D u):IsB (f_impl_isSubmodule m u) (Inv m n D u.Rows):=by
 obtain ⟨e1,e2,pv,hR⟩:=hu
 have h7:=hm.p.pos
 have h3:=hm.d3
 have hRl:u.Rows.length ≤ D:=hR.len_le
 have hu:u = SMatrix.mk m.Prime (D:Int) u.Rows:=by rw [← e1,← e2]
 refine IsB.iff ?_ (invRows_iff hm hn)
 refine all_fn (body:=l2_impl_isSubmodule m u) n (fun i => ∀ k,k < u.Rows.length → Sp m.Prime D u.Rows (rowM m.Prime D (u.Rows.getD k []) (m.Actions.getD i []))) rfl (fun i hi _ => ?_) ?_
 ·unfold l2_impl_isSubmodule
  rw [hm.len,lt_t hi,cnd_t,actionAt_impl hm hn hi,bs]
  have hpr:f_impl_product u (SMatrix.mk m.Prime (D:Int) (m.Actions.getD i [])) = some (SMatrix.mk m.Prime (D:Int) (PM m.Prime D u.Rows (m.Actions.getD i []))):=by
   conv => lhs;rw [hu]
   exact productR_impl hm.p h3 (by omega) hR.row (hm.mat i hi)
  rw [hpr,bs]
  have hin:=chk (body:=l1_impl_isSubmodule u (SMatrix.mk m.Prime (D:Int) (PM m.Prime D u.Rows (m.Actions.getD i [])))) u.Rows.length 0 (Nat.zero_le _) (fun k => Sp m.Prime D u.Rows (rowM m.Prime D (u.Rows.getD k []) (m.Actions.getD i []))) (fun _ => false) (fun k _ hk _ => by
   have hw:Row m.Prime D (rowM m.Prime D (u.Rows.getD k []) (m.Actions.getD i [])):=rowM_row (by omega)
   have hcl:=cl_row hm.p (by omega) hR hw u.Rows.length
   refine one_chk ((isZeroG_impl (by rw [hcl.1];omega)).iff (by rw [hcl.1];exact cl_zero hm.p (by omega) hR hw)) (by omega) ?_
   unfold l1_impl_isSubmodule
   simp only
   rw [PM_length,lt_t hk,cnd_t,ixO_d [] (by rw [PM_length];exact hk),bs,PM_get hk]
   conv => lhs;rw [hu]
   rw [remainder_impl hm.p (by omega) hR hw (by omega),bs]) (by
   unfold l1_impl_isSubmodule
   simp only
   rw [PM_length,lt_f,cnd_f])
  rcases hin with ⟨g1,g2⟩ | ⟨k,_,hk,g1,g2⟩
  ·left
   rw [show ((0:Nat):Int) = 0 from rfl] at g1
   rw [g1,bs]
   simp only
   rw [rng_of (by omega) (by omega),bs,cs]
   exact ⟨rfl,fun k hk => g2 k (Nat.zero_le _) hk⟩
  ·right
   rw [show ((0:Nat):Int) = 0 from rfl] at g1
   rw [g1,bs]
   exact ⟨rfl,fun g => g2 (g k hk)⟩
 ·unfold l2_impl_isSubmodule
  rw [hm.len,lt_f,cnd_f]
theorem reduce_id {R:Mx} {pv:Nat → Nat} (hR:Red m.Prime D R pv):f_spec_l02Reduce m.Prime R = some R ∧ f_impl_reduceRows m.Prime R = some R:=by
 have _:=hn
 have h7:=hm.p.pos
 have h3:=hm.d3
 have hRl:R.length ≤ D:=hR.len_le
 obtain ⟨R2,pv2,r1,r2,r3,r4⟩:=reduce_both hm.p (n:=D) (by omega) (rows:=R) (by omega) hR.row
 rw [← r3.unique (by omega) hR r4]
 rw [← r3.unique (by omega) hR r4] at r1 r2
 exact ⟨r1,r2⟩
theorem isSub_spec {u:SMatrix} (hu:Fit m D u):IsB (f_spec_l21Sub m u.Rows) (Inv m n D u.Rows):=by
 obtain ⟨e1,e2,pv,hR⟩:=hu
 obtain ⟨W,w1,w2,w3⟩:=spin_any hm hn D u.Rows pv hR (by omega)
 unfold f_spec_l21Sub f_spec_l21Spin
 rw [(reduce_id hm hn hR).1,bs,w1]
 simp only [bs]
 exact IsB.of_bool (by rw [← w3];simp;omega)
end
end Go.Pl

namespace Go.Pl
open Go Go.Ab Go.Wk Go.Pc
def VMat (x:SMatrix):Prop:=VI x.Prime ∧ VI x.Columns ∧ VL (VL VI) x.Rows
theorem szMatrix {x:SMatrix} {b:Int} (h:VMat x) (b0:0 ≤ b) (b1:b ≤ 1048576):f_laws_szMatrix x b = some (szR (c2 x.Rows) b):=by
 unfold f_laws_szMatrix
 rw [szInt64SS h.2.2 b0 b1,bs]
 by_cases g:szR (c2 x.Rows) b < 0
 ·rw [decide_eq_true g,cnd_t]
  unfold szR at g ⊢
  split
  ·next h1 => rw [if_pos h1] at g;omega
  ·rfl
 ·rw [decide_eq_false g,cnd_f]
theorem toMatrix {x:SMatrix} (h:S2 x.Rows):f_laws_toMatrix x = some x:=by
 unfold f_laws_toMatrix
 rw [toInt64SS h,bs]
end Go.Pl

namespace Go.Pl
open Go Go.Ab Go.Wk Go.Pc
end Go.Pl

namespace Go.Pl
open Go Go.Ab Go.Wk Go.Pc
end Go.Pl

namespace Go.Pl
open Go Go.Ab Go.Wk Go.Pc
end Go.Pl

namespace Go.Pl
open Go Go.Ab Go.Wk Go.Pc
end Go.Pl

namespace Go.Pl
open Go Go.Ab Go.Wk Go.Pc
end Go.Pl

namespace Go.Pl
open Go Go.Ab Go.Wk Go.Pc
theorem mats_small {D n:Nat} {F:Nat → Mx} (hD:D ≤ 3) (hn:n ≤ 6) (h:∀ i,i < n → (F i).length = D ∧ ∀ r ∈ F i,r.length = D):S3 (gl n F):=by
 have hl:(gl n F).length = n:=gl_len
 have h1:sm c2 (gl n F) ≤ (gl n F).length * 12:=sm_le fun x hx => by
  obtain ⟨i,hi,rfl⟩:=List.mem_map.1 hx
  obtain ⟨g1,g2⟩:=h i (List.mem_range.1 hi)
  have:=sm_le (c:=c1) (b:=3) (xs:=F i) fun r hr => by rw [c1,g2 r hr];exact hD
  simp only [c2];omega
 simp only [S3,c3];omega
end Go.Pl

namespace Go.Pl
open Go Go.Ab Go.Wk Go.Pc
end Go.Pl

namespace Go.Pl
open Go Go.Ab Go.Wk Go.Pc
end Go.Pl

namespace Go.Pl
open Go Go.Ab Go.Wk Go.Pc
end Go.Pl

namespace Go.Pl
open Go Go.Ab Go.Wk Go.Pc
end Go.Pl

namespace Go.Pl
open Go Go.Ab Go.Wk Go.Pc
end Go.Pl

namespace Go.Pl
open Go Go.Ab Go.Wk Go.Pc
def offp (D N:Nat) (pv:Nat → Nat):List Nat:=(List.range D).filter fun c => (List.range N).all fun i => pv i != c
abbrev offI (D N:Nat) (pv:Nat → Nat):List Int:=(offp D N pv).map fun (c:Nat) => (c:Int)
theorem off_lt {D N:Nat} {pv:Nat → Nat} {a:Nat} (h:a < (offp D N pv).length):(offp D N pv).getD a 0 < D:=by
 have h2:=List.mem_range.1 (List.mem_filter.1 (show (offp D N pv)[a] ∈ (List.range D).filter (fun c => (List.range N).all fun i => pv i != c) from List.getElem_mem h)).1
 rw [List.getD_eq_getElem?_getD,List.getElem?_eq_getElem h];exact h2
theorem off_len {D N:Nat} {pv:Nat → Nat}:(offp D N pv).length ≤ D:=by
 have:=List.length_filter_le (fun c => (List.range N).all fun i => pv i != c) (List.range D)
 rw [List.length_range] at this;exact this
theorem offI_ix {D N:Nat} {pv:Nat → Nat} {a:Nat} (h:a < (offp D N pv).length):ixO (offI D N pv) (a:Int) = some (((offp D N pv).getD a 0:Nat):Int):=by
 rw [ixO_nat,List.getElem?_map,List.getElem?_eq_getElem h,List.getD_eq_getElem?_getD,List.getElem?_eq_getElem h];rfl
theorem off_succ {D N:Nat} {pv:Nat → Nat}:offI (D + 1) N pv = if (List.range N).all (fun i => pv i != D) then offI D N pv ++ [(D:Int)] else offI D N pv:=by
 simp only [offI,offp,List.range_succ,List.filter_append,List.map_append]
 by_cases h:(List.range N).all (fun i => pv i != D) = true
 ·rw [if_pos h];simp only [List.filter_cons,h,if_true,List.filter_nil,List.map_cons,List.map_nil]
 ·rw [if_neg h];simp only [List.filter_cons,h,List.filter_nil,List.map_nil,List.append_nil,Bool.false_eq_true,if_false]
theorem contains_impl {N:Nat} {pv:Nat → Nat} {c:Nat} (hN:N ≤ 1000000):f_slices_Contains_int_int (gl N fun i => (pv i:Int)) (c:Int) = some (!((List.range N).all fun i => pv i != c)):=by
 unfold f_slices_Contains_int_int f_slices_Index_int_int
 rcases chk (body:=l1_slices_Index_int_int (gl N fun i => (pv i:Int)) (c:Int)) N 0 (Nat.zero_le _) (fun i => pv i ≠ c) (fun i => (i:Int)) (fun i _ hi _ => by
   unfold l1_slices_Index_int_int
   rw [gl_len,lt_t hi,cnd_t,gl_ix hi,bs]
   by_cases e:pv i = c
   ·rw [beq_t (by omega:(c:Int) = (pv i:Int)),cnd_t];exact .inr ⟨rfl,fun h => h e⟩
   ·rw [beq_f (by omega:(c:Int) ≠ (pv i:Int)),cnd_f,rng_of (by omega) (by omega),bs,cs];exact .inl ⟨rfl,e⟩) (by
   unfold l1_slices_Index_int_int
   rw [gl_len,lt_f,cnd_f]) with ⟨g1,g2⟩ | ⟨i,_,hi,g1,g2⟩
 ·rw [show ((0:Nat):Int) = 0 from rfl] at g1
  have e:((List.range N).all fun i => pv i != c) = true:=List.all_eq_true.2 fun i hi => by
   have:=g2 i (Nat.zero_le _) (List.mem_range.1 hi)
   simpa using this
  rw [g1,bs,bs,e];rfl
 ·rw [show ((0:Nat):Int) = 0 from rfl] at g1
  have e:((List.range N).all fun i => pv i != c) = false:=by
   rw [← Bool.not_eq_true,List.all_eq_true]
   intro h
   have:=h i (List.mem_range.2 hi)
   simp at this
   exact g2 this
  rw [g1,bs,bs,e,decide_eq_true (by omega)];rfl
theorem free_loop {N:Nat} {pv:Nat → Nat} {c:Nat} {acc:List Int} (hN:N ≤ 1000000):loopO (l2_spec_l21Left (gl N fun i => (pv i:Int)) (acc,(c:Int))) (true,0) = some ((List.range N).all fun i => pv i != c):=by
 have:=loopO_seq (body:=l2_spec_l21Left (gl N fun i => (pv i:Int)) (acc,(c:Int))) (r:=(List.range N).all fun i => pv i != c) (fun k => ((List.range k).all (fun i => pv i != c),(k:Int))) N (fun i hi => by
  unfold l2_spec_l21Left
  simp only
  rw [gl_len,lt_t hi,cnd_t,List.range_succ,List.all_append]
  cases hb:(List.range i).all fun i => pv i != c
  ·rw [cnd_f,rng_of (by omega) (by omega),bs,cs];rfl
  ·rw [cnd_t,gl_ix hi,bs,rng_of (by omega) (by omega),bs,cs]
   have e:((pv i:Int) != (c:Int)) = (pv i != c):=by
    by_cases h:pv i = c
    ·rw [h,bne_self_eq_false,bne_self_eq_false]
    ·rw [bne_t (by omega:(pv i:Int) ≠ (c:Int))];simp [h]
   rw [e]
   simp) (by
  unfold l2_spec_l21Left
  simp only
  rw [gl_len,lt_f,cnd_f])
 exact this
section
variable {p:Int} (hp:Prime p) {D:Nat} (hD:D ≤ 1000) {U:Mx} {pv:Nat → Nat} (hU:Red p D U pv)
 include hp hD hU
theorem left_spec:f_spec_l21Left U (D:Int) = some (offI D U.length pv):=by
 have h7:=hp.pos
 have hUl:U.length ≤ D:=hU.len_le
 unfold f_spec_l21Left
 have e1:=map_loop (body:=l1_spec_l21Left U) U.length (fun i => (pv i:Int)) (fun i acc hi ha => by
  have hr:=hU.row i hi
  have h1:=hU.one i hi
  have hlead:=lead_is (n:=D) hr.1 (by omega) (hU.lt i hi) (hU.low i hi) (by simp only [ent] at h1;omega)
  unfold l1_spec_l21Left
  simp only
  rw [lt_t hi,cnd_t,ixO_d [] hi,bs,hlead,bs,appO_of (by simp;omega),bs,rng_of (by omega) (by omega),bs,cs]) (fun acc => by
  unfold l1_spec_l21Left
  simp only
  rw [lt_f,cnd_f])
 rw [e1,bs]
 have e2:=loopO_seq (body:=l3_spec_l21Left (D:Int) (gl U.length fun i => (pv i:Int))) (r:=offI D U.length pv) (fun c => (offI c U.length pv,(c:Int))) D (fun c hc => by
  have hl:(offI c U.length pv).length ≤ c:=by rw [List.length_map];exact off_len
  unfold l3_spec_l21Left
  simp only
  rw [lt_t hc,cnd_t,free_loop (by omega),bs,off_succ]
  cases (List.range U.length).all fun i => pv i != c
  ·rw [cnd_f,rng_of (by omega) (by omega),bs,cs];simp
  ·rw [cnd_t,appO_of (by simp only [List.length_singleton];omega),bs,rng_of (by omega) (by omega),bs,cs];simp) (by
  unfold l3_spec_l21Left
  simp only
  rw [lt_f,cnd_f])
 have e3:loopO (l3_spec_l21Left (D:Int) ((List.range U.length).map fun i => (pv i:Int))) ([],0) = some (offI D U.length pv):=e2
 rw [e3,bs]
theorem others_impl {m:SModule} {u:SMatrix} (hd:m.Dim = (D:Int)) (hu:u.Rows = U):loopO (l1_impl_QuotientModule m u) ([],0) = some (offI D U.length pv):=by
 have hUl:U.length ≤ D:=hU.len_le
 have e2:=loopO_seq (body:=l1_impl_QuotientModule m u) (r:=offI D U.length pv) (fun c => (offI c U.length pv,(c:Int))) D (fun c hc => by
  have hl:(offI c U.length pv).length ≤ c:=by rw [List.length_map];exact off_len
  unfold l1_impl_QuotientModule
  simp only
  rw [hd,lt_t hc,cnd_t,hu,pivots_impl hp (by omega) hU (by omega),bs,contains_impl (by omega),bs,Bool.not_not,off_succ]
  cases (List.range U.length).all fun i => pv i != c
  ·rw [cnd_f,rng_of (by omega) (by omega),bs,cs];simp
  ·rw [cnd_t,appO_of (by simp only [List.length_singleton];omega),bs,rng_of (by omega) (by omega),bs,cs];simp) (by
  unfold l1_impl_QuotientModule
  simp only
  rw [hd,lt_f,cnd_f])
 exact e2
end
def qtM (p:Int) (D:Nat) (U:Mx) (pv:Nat → Nat) (A:Mx):Mx:=gl (offp D U.length pv).length fun a => mkv (offp D U.length pv).length fun b => at0 (cl p D U pv (A.getD ((offp D U.length pv).getD a 0) []) U.length) ((offp D U.length pv).getD b 0)
section
variable {n D:Nat} {m:SModule} (hm:MOk n m D) (hn:n ≤ 6) {U:Mx} {pv:Nat → Nat} (hU:Red m.Prime D U pv)
 include hm hn hU
theorem quot_spec {u:SMatrix} (hu:u.Rows = U):loopO (l2_spec_QuotientModule m u (offI D U.length pv)) ([],0) = some (gl n fun i => qtM m.Prime D U pv (m.Actions.getD i [])):=by
 have h7:=hm.p.pos
 have h3:=hm.d3
 have hUl:U.length ≤ D:=hU.len_le
 have hol:(offI D U.length pv).length = (offp D U.length pv).length:=by rw [List.length_map]
 have hoD:=off_len (D:=D) (N:=U.length) (pv:=pv)
 refine map_loop n (fun i => qtM m.Prime D U pv (m.Actions.getD i [])) (fun i acc hi ha => ?_) (fun acc => ?_)
 ·have hA:=hm.mat i hi
  have hin:=map_loop (body:=l1_spec_QuotientModule m u (offI D U.length pv) (acc,(i:Int))) (offp D U.length pv).length (fun a => mkv (offp D U.length pv).length fun b => at0 (cl m.Prime D U pv ((m.Actions.getD i []).getD ((offp D U.length pv).getD a 0) []) U.length) ((offp D U.length pv).getD b 0)) (fun a z ha' hz => by
   have hlt:=off_lt ha'
   have hr:=hA.2 _ hlt
   have hcl:=cl_row hm.p (by omega) hU hr U.length
   have he:=map_loop (body:=l1_spec_l21Entries (cl m.Prime D U pv ((m.Actions.getD i []).getD ((offp D U.length pv).getD a 0) []) U.length) (offI D U.length pv)) (offp D U.length pv).length (fun b => at0 (cl m.Prime D U pv ((m.Actions.getD i []).getD ((offp D U.length pv).getD a 0) []) U.length) ((offp D U.length pv).getD b 0)) (fun b w hb hw => by
    unfold l1_spec_l21Entries
    simp only
    rw [hol,lt_t hb,cnd_t,offI_ix hb,bs,ixO_at (by rw [hcl.1];exact off_lt hb),bs,appO_of (by simp;omega),bs,rng_of (by omega) (by omega),bs,cs]) (fun w => by
    unfold l1_spec_l21Entries
    simp only
    rw [hol,lt_f,cnd_f])
   unfold l1_spec_QuotientModule
   simp only
   unfold f_spec_l21Entries
   rw [hol,lt_t ha',cnd_t,ixO_d [] (by rw [hm.len];exact hi),bs,offI_ix ha',bs,ixO_d [] (by rw [hA.1];exact hlt),bs,hu,clear_spec hm.p (by omega) hU hr (by omega),bs,he,bs,bs,appO_of (by simp;omega),bs,rng_of (by omega) (by omega),bs,cs]
   rfl) (fun z => by
   unfold l1_spec_QuotientModule
   simp only
   rw [hol,lt_f,cnd_f])
  unfold l2_spec_QuotientModule
  simp only
  rw [hm.len,lt_t hi,cnd_t,hin,bs,appO_of (by simp;omega),bs,rng_of (by omega) (by omega),bs,cs]
  rfl
 ·unfold l2_spec_QuotientModule
  simp only
  rw [hm.len,lt_f,cnd_f]
theorem quot_impl {x:SPresentation} (hx:x.Orders.length = n):loopO (l4_impl_QuotientModule x m (SMatrix.mk m.Prime (D:Int) U) (offI D U.length pv)) ([],0) = some (gl n fun i => qtM m.Prime D U pv (m.Actions.getD i [])):=by
 have h7:=hm.p.pos
 have h3:=hm.d3
 have hUl:U.length ≤ D:=hU.len_le
 have hol:(offI D U.length pv).length = (offp D U.length pv).length:=by rw [List.length_map]
 have hoD:=off_len (D:=D) (N:=U.length) (pv:=pv)
 refine map_loop n (fun i => qtM m.Prime D U pv (m.Actions.getD i [])) (fun i acc hi ha => ?_) (fun acc => ?_)
 ·have hA:=hm.mat i hi
  have hin:=map_loop (body:=l3_impl_QuotientModule m (SMatrix.mk m.Prime (D:Int) U) (offI D U.length pv) (acc,(i:Int))) (offp D U.length pv).length (fun a => mkv (offp D U.length pv).length fun b => at0 (cl m.Prime D U pv ((m.Actions.getD i []).getD ((offp D U.length pv).getD a 0) []) U.length) ((offp D U.length pv).getD b 0)) (fun a z ha' hz => by
   have hlt:=off_lt ha'
   have hr:=hA.2 _ hlt
   have hcl:=cl_row hm.p (by omega) hU hr U.length
   have he:=map_loop (body:=l2_impl_QuotientModule (offI D U.length pv) (cl m.Prime D U pv ((m.Actions.getD i []).getD ((offp D U.length pv).getD a 0) []) U.length)) (offp D U.length pv).length (fun b => at0 (cl m.Prime D U pv ((m.Actions.getD i []).getD ((offp D U.length pv).getD a 0) []) U.length) ((offp D U.length pv).getD b 0)) (fun b w hb hw => by
    unfold l2_impl_QuotientModule
    simp only
    rw [hol,lt_t hb,cnd_t,offI_ix hb,bs,ixO_at (by rw [hcl.1];exact off_lt hb),bs,appO_of (by simp;omega),bs,rng_of (by omega) (by omega),bs,cs]) (fun w => by
    unfold l2_impl_QuotientModule
    simp only
    rw [hol,lt_f,cnd_f])
   unfold l3_impl_QuotientModule
   simp only
   rw [hol,lt_t ha',cnd_t,offI_ix ha',bs,ixO_d [] (by rw [hm.len];exact hi),bs,ixO_d [] (by rw [hA.1];exact hlt),bs,remainder_impl hm.p (by omega) hU hr (by omega),bs,he,bs,appO_of (by simp;omega),bs,rng_of (by omega) (by omega),bs,cs]
   rfl) (fun z => by
   unfold l3_impl_QuotientModule
   simp only
   rw [hol,lt_f,cnd_f])
  unfold l4_impl_QuotientModule
  simp only
  rw [hx,lt_t hi,cnd_t,hin,bs,appO_of (by simp;omega),bs,rng_of (by omega) (by omega),bs,cs]
  rfl
 ·unfold l4_impl_QuotientModule
  simp only
  rw [hx,lt_f,cnd_f]
end
theorem QuotientModule_agree {x:SPresentation} {m:SModule} {u:SMatrix} (hx:SPres x) (hm:SMod m) (_hu:S2 u.Rows):∃ g k,f_spec_QuotientModule x m u = some (g,k) ∧ f_impl_QuotientModule x m u = some (g,k) ∧ SMod g:=by
 have hl:x.Orders.length ≤ 1048576:=hx.1
 have hml:=S3.len hm
 have hnil:SMod (SModule.mk 0 0 []):=by simp [SMod,S3,c3,sm]
 unfold f_spec_QuotientModule f_impl_QuotientModule
 rcases (IsModule_spec (m:=m) hl).both (isModule_impl (m:=m) hl hml) with ⟨s1,i1,hM⟩ | ⟨s1,i1,hM⟩
 ·obtain ⟨hc,D,hD,_⟩:=hM
  have h6:=hc.1.os.1
  have h3:=hD.d3
  simp only [s1,i1,bs,Bool.not_true,cnd_f]
  rcases (fit_spec hD (u:=u)).both (fit_impl hD (u:=u)) with ⟨s2,i2,hF⟩ | ⟨s2,i2,hF⟩
  ·simp only [s2,i2,bs,Bool.not_true,cnd_f]
   rcases (isSub_spec hD h6 hF).both (isSub_impl hD h6 hF) with ⟨s3,i3,hI⟩ | ⟨s3,i3,_⟩
   ·by_cases h0:u.Rows.length = D
    ·have e0:((u.Rows.length:Int) == m.Dim) = true:=beq_t (by have:=hD.d;omega)
     simp only [s3,bs,Bool.not_true,cnd_f,e0,cnd_t]
     exact ⟨_,_,rfl,rfl,hnil⟩
    ·have e0:((u.Rows.length:Int) == m.Dim) = false:=beq_f (by have:=hD.d;omega)
     obtain ⟨e1,e2,pv,hR⟩:=hF
     have hUl:u.Rows.length ≤ D:=hR.len_le
     have hu:u = SMatrix.mk m.Prime (D:Int) u.Rows:=by rw [← e1,← e2]
     have ei:loopO (l4_impl_QuotientModule x m u (offI D u.Rows.length pv)) ([],0) = some (gl x.Orders.length fun i => qtM m.Prime D u.Rows pv (m.Actions.getD i [])):=by
      conv => lhs;rw [hu]
      exact quot_impl hD h6 hR rfl
     have el:f_spec_l21Left u.Rows m.Dim = some (offI D u.Rows.length pv):=by rw [hD.d];exact left_spec hD.p (by omega) hR
     simp only [s3,i3,bs,Bool.not_true,cnd_f,e0,el,others_impl hD.p (by omega) hR hD.d rfl,quot_spec hD h6 hR rfl,ei]
     have hoD:=off_len (D:=D) (N:=u.Rows.length) (pv:=pv)
     refine ⟨_,_,rfl,rfl,mats_small (D:=(offp D u.Rows.length pv).length) (by omega) h6 fun i _ => ⟨gl_len,fun r hr => ?_⟩⟩
     obtain ⟨k,_,rfl⟩:=List.mem_map.1 hr
     exact mkv_length _ _
   ·by_cases h0:u.Rows.length = D
    ·have e0:((u.Rows.length:Int) == m.Dim) = true:=beq_t (by have:=hD.d;omega)
     simp only [s3,bs,Bool.not_false,cnd_t,e0]
     exact ⟨_,_,rfl,rfl,hnil⟩
    ·have e0:((u.Rows.length:Int) == m.Dim) = false:=beq_f (by have:=hD.d;omega)
     simp only [s3,i3,bs,Bool.not_false,cnd_t,cnd_f,e0]
     exact ⟨_,_,rfl,rfl,hnil⟩
  ·simp only [s2,i2,bs,Bool.not_false,cnd_t]
   exact ⟨_,_,rfl,rfl,hnil⟩
 ·simp only [s1,i1,bs,Bool.not_false,cnd_t]
  exact ⟨_,_,rfl,rfl,hnil⟩
theorem law_QuotientModule (x0:SPresentation) (x1:SModule) (x2:SMatrix) (v0:VPres x0) (v1:VMod x1) (v2:VMat x2)
  (h:SPres x0 → SMod x1 → S2 x2.Rows → ∃ g k,f_spec_QuotientModule x0 x1 x2 = some (g,k) ∧ f_impl_QuotientModule x0 x1 x2 = some (g,k) ∧ SMod g):f_laws_FnExactQuotientModule x0 x1 x2 = some true:=by
 unfold f_laws_FnExactQuotientModule
 rw [szPresentation v0 (by decide) (by decide),bs]
 rcases sz_case (c:=cPres x0) (b:=1048576) (by decide) (by decide) with e | ⟨e,a0,b0,w0⟩ <;> rw [e]
 ·rfl
 rw [cnd_f,szModule v1 a0 b0,bs]
 rcases sz_case (c:=cMod x1) a0 b0 with e | ⟨e,a1,b1,w1⟩ <;> rw [e]
 ·rfl
 rw [cnd_f,szMatrix v2 a1 b1,bs]
 rcases sz_case (c:=c2 x2.Rows) a1 b1 with e | ⟨e,a2,b2,w2⟩ <;> rw [e]
 ·rfl
 have s0:SPres x0:=SPres.of w0
 have s1:SMod x1:=SMod.of w1
 have s2:S2 x2.Rows:=w2
 obtain ⟨g,k,hs,hi,sg⟩:=h s0 s1 s2
 have t0:=totP_le s0
 have q1:=sm3_le (x:=x1.Actions)
 have w1':=w1
 simp only [cMod] at w1'
 have q2:=sm2_le (x:=x2.Rows)
 have qg:=sm3_le (x:=g.Actions)
 have sg':=sg
 simp only [SMod,S3] at sg'
 rw [cnd_f,toPresentation s0,bs,toModule s1,bs,toMatrix s2,bs]
 simp only [bs]
 rw [hs,bs,hi,bs]
 simp only
 rw [eqModule sg,bs]
 simp only [Bool.not_true,cnd_f,bne_self_eq_false]
 rw [eqPresentation s0,bs,Bool.not_true,cnd_f,eqModule s1,bs,Bool.not_true,cnd_f,eqMatrix s2,bs,Bool.not_true,cnd_f,markPresentation_eq s0 (by decide) (by decide),bs]
 simp only
 rw [markModule s1 (by omega) (by omega),bs]
 simp only
 rw [markMatrix s2 (by omega) (by omega),bs]
 simp only
 rw [decide_eq_false (by omega),cnd_f,bs,Bool.not_true,cnd_f]
 rw [markModule sg (by decide) (by decide),bs]
 simp only
 rw [heldModule sg (by decide) (by decide),bs,decide_eq_false (by omega),cnd_f,bne_self_eq_false,cnd_f,bs]
 simp only
 rw [eqModule sg,bs,Bool.not_true,cnd_f,bne_self_eq_false,cnd_f,bs,decide_eq_false (by omega),cnd_f,bne_self_eq_false,cnd_f]
theorem QuotientModule_plain (x0:SPresentation) (x1:SModule) (x2:SMatrix) (v0:VPres x0) (v1:VMod x1) (v2:VMat x2):f_laws_FnExactQuotientModule x0 x1 x2 = some true :=
 law_QuotientModule x0 x1 x2 v0 v1 v2 QuotientModule_agree
end Go.Pl
