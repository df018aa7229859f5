/- The program and the reference return the same Baer sums of cocycles, for all arguments (FnExactBaerSum). This file is a part of the proof. -/
import Derived.Test.YtkifphhpbcgieaaGreatPlA
namespace Go.Pl
open Go Go.Ab Go.Wk Go.Pc
theorem Red.empty {p:Int} {n:Nat}:Red p n [] (fun _ => 0):=⟨fun _ h => by simp at h,fun _ h => by simp at h,fun _ h => by simp at h,fun _ h => by simp at h,fun _ _ h => by simp at h,fun _ _ _ h => by simp at h⟩
theorem RInv.take {p:Int} {n m:Nat} {rows:Mx} {c:Nat} {M:Mx} {d:Nat} {pv:Nat → Nat} (h:RInv p n m rows c M d pv) (hcn:c ≤ n) (hz:∀ k,d ≤ k → k < m → ∀ j,j < n → ent M k j = 0):Red p n (M.take d) pv ∧ SpEq p n (M.take d) rows:=by
 have hl:(M.take d).length = d:=by rw [List.length_take,h.len];exact Nat.min_eq_left h.dm
 have hg:∀ i,i < d → (M.take d).getD i [] = M.getD i []:=fun i hi => by simp only [List.getD_eq_getElem?_getD,List.getElem?_take,if_pos hi]
 have dm:=h.dm
 refine ⟨⟨fun i hi => ?_,fun i hi => ?_,fun i hi => ?_,fun i hi j hj => ?_,fun i k hi hk hne => ?_,fun i j hij hj => ?_⟩,SpEq.trans ⟨fun i hi => ?_,fun i hi => ?_⟩ h.sp⟩
 ·rw [hl] at hi;rw [hg i hi];exact h.row i (by omega)
 ·rw [hl] at hi;have:=h.lt i hi;omega
 ·rw [hl] at hi;simp only [ent,hg i hi];exact h.one i hi
 ·rw [hl] at hi;simp only [ent,hg i hi];exact h.low i hi j hj
 ·rw [hl] at hi hk;simp only [ent,hg k hk];exact h.off i k hi (by omega) hne
 ·rw [hl] at hj;exact h.mono i j hij hj
 ·rw [hl] at hi;rw [hg i hi];exact sp_row (by rw [h.len];omega)
 ·rw [h.len] at hi
  rcases Nat.lt_or_ge i d with g | g
  ·have:=sp_row (p:=p) (n:=n) (R:=M.take d) (i:=i) (by rw [hl];exact g)
   rw [hg i g] at this;exact this
  ·exact sp_zero fun j hj => by
    have:=hz i g hi j hj
    simp only [ent] at this
    rw [this];rfl
section
variable {p:Int} (hp:Prime p) {n:Nat} {rows:Mx} (hn:n ≤ 100000) (hm:rows.length ≤ 600000) (hr:∀ i,i < rows.length → Row p n (rows.getD i []))
 include hp hn hm hr
theorem reduce_impl:∃ R pv,f_g p rows = some R ∧ Red p n R pv ∧ SpEq p n R rows:=by
 have h7:=hp.pos
 unfold f_g
 rw [copyRows_impl (by omega) (fun i hi => by have:=(hr i hi).1;omega),bs]
 have main:=loopO_tot (body:=l4_g p) (s:=(rows,0,0)) (Q:=fun r => ∃ (M:Mx) (d:Nat) (pv:Nat → Nat),r = (M,(d:Int)) ∧ d ≤ M.length ∧ Red p n (M.take d) pv ∧ SpEq p n (M.take d) rows)
  (fun i s => ∃ (M:Mx) (d:Nat) (pv:Nat → Nat),s = (M,(d:Int),(i:Int)) ∧ RInv p n rows.length rows i M d pv ∧ i ≤ n) n (fun c s hc hI => ?_) (fun s hI => ?_) ⟨rows,0,fun _ => 0,rfl,⟨rfl,hr,Nat.zero_le _,fun _ h => by omega,fun _ h => by omega,fun _ h => by omega,fun _ _ h => by omega,fun _ _ _ h => by omega,fun _ _ _ _ h => by omega,SpEq.refl⟩,Nat.zero_le _⟩
 ·obtain ⟨r,h1,M,d,pv,rfl,hd,hR,hS⟩:=main
  rw [h1,bs]
  simp only
  have e:sliceO M 0 (d:Int) = some (M.take d):=by
   unfold sliceO
   rw [if_pos ⟨by omega,by omega,by omega⟩];simp
  rw [e,bs]
  exact ⟨_,_,rfl,hR,hS⟩
 ·
  obtain ⟨M,d,pv,rfl,h,hcn⟩:=hI
  have hl:=h.len
  have hdm:=h.dm
  by_cases h0:rows.length = 0
  ·refine .inr ⟨(M,(d:Int)),?_,M,d,pv,rfl,by omega,h.take hcn fun k hk hk2 => by omega⟩
   unfold l4_g
   simp only
   rw [decide_eq_false (by omega),cnd_f]
  have e0:l4_g p (M,(d:Int),(c:Int)) = cond (decide ((d:Int) < (M.length:Int))) ((loopO (l1_g (M,(d:Int),(c:Int))) (d:Int)).bind fun r6 =>
    cond (r6 == (M.length:Int)) ((rng ((c:Int) + 1)).bind fun v7 => some (.inl (M,(d:Int),v7))) (
     (ixO M r6).bind fun v8 => (ixO M (d:Int)).bind fun v9 => (ixO (swapL M (d:Int) r6 v8 v9) (d:Int)).bind fun v10 => (ixO v10 (c:Int)).bind fun v11 => (f_M v11 p).bind fun r12 =>
     (ixO (swapL M (d:Int) r6 v8 v9) (d:Int)).bind fun v13 => (loopO (l2_g p (M,(d:Int),(c:Int)) r12 v13) (swapL M (d:Int) r6 v8 v9,0)).bind fun r21 =>
     (loopO (l3_g p (M,(d:Int),(c:Int)) r21) (r21,0)).bind fun r30 => (rng ((d:Int) + 1)).bind fun v31 => (rng ((c:Int) + 1)).bind fun v32 => some (.inl (r30,v31,v32)))) (some (.inr (M,(d:Int)))):=by
   unfold l4_g
   simp only
   have hx:ixO M (0:Int) = some (M.getD 0 []):=by
    have:=ixO_d (v:=M) (i:=0) [] (by omega)
    exact this
   rw [decide_eq_true (by omega),cnd_t,hx]
   simp only [bs]
   rw [(h.row 0 (by omega)).1,lt_t hc,cnd_t]
  rcases Nat.lt_or_ge d rows.length with hd | hd
  ·obtain ⟨t,t1,t2,t3,t4,t5⟩:=find_impl (M:=M) (d:=d) (c:=c) (m:=rows.length) (n:=n) hl hdm (by omega) (fun i hi => (h.row i hi).1) hc
   rw [e0,hl,lt_t hd,cnd_t,t3]
   simp only [bs]
   by_cases htm:t = rows.length
   ·
    left
    refine ⟨(M,(d:Int),((c + 1:Nat):Int)),?_,M,d,pv,rfl,⟨hl,h.row,hdm,fun i hi => by have:=h.lt i hi;omega,h.one,h.low,h.off,h.mono,fun k k1 k2 j hj => ?_,h.sp⟩,by omega⟩
    ·rw [beq_t (by omega),cnd_t,rng_of (by omega) (by omega),bs,cs]
    ·rcases Nat.lt_or_ge j c with g | g
     ·exact h.zero k k1 k2 j g
     ·rw [show j = c from by omega];exact t4 k k1 (by omega)
   ·have htl:t < rows.length:=by omega
    have hne:=t5 htl
    have hrt:=h.row t htl
    have hrc:=hrt.2 c hc
    obtain ⟨q,q1,q2,q3,q4⟩:=inverse_impl (p:=p) (x:=ent M t c) hp (by simp only [ent] at hne ⊢;omega) (by simp only [ent];omega)
    left
    have hM:M = mkR rows.length (fun i => M.getD i []):=mkR_eq hl
    obtain ⟨F,hF⟩:∃ F:Nat → List Int,∀ i,F i = if i = t then M.getD d [] else if i = d then M.getD t [] else M.getD i []:=⟨_,fun _ => rfl⟩
    have hsw:swapL M (d:Int) (t:Int) (M.getD t []) (M.getD d []) = mkR rows.length F:=by
     unfold swapL
     rw [Int.toNat_natCast,Int.toNat_natCast]
     conv => lhs;rw [hM]
     rw [mkR_set,mkR_set]
     exact mkR_congr fun i hi => by rw [hF,mkR_get hd,mkR_get htl]
    have hrow2:∀ i,i < rows.length → Row p n (F i):=fun i hi => by
     rw [hF]
     split
     ·exact h.row d hd
     ·split
      ·exact hrt
      ·exact h.row i hi
    have hFd:F d = M.getD t []:=by
     rw [hF]
     by_cases e:d = t
     ·rw [if_pos e,e]
     ·rw [if_neg e,if_pos rfl]
    obtain ⟨G,hG⟩:∃ G:Nat → List Int,∀ i,G i = if i = d then mkv n fun j => (at0 (F d) j * q) % p else F i:=⟨_,fun _ => rfl⟩
    have hGd:G d = mkv n fun j => (ent M t j * q) % p:=by rw [hG,if_pos rfl,hFd]
    have hGo:∀ i,i ≠ d → G i = if i = t then M.getD d [] else M.getD i []:=fun i hid => by rw [hG,if_neg hid,hF];simp only [hid,if_false]
    have hsc:loopO (l2_g p (M,(d:Int),(c:Int)) (q,true) (M.getD t [])) (mkR rows.length F,0) = some (mkR rows.length G):=by
     rw [scale_loop hp (F:=F) hd (hrow2 d hd) (by omega) ⟨q2,q3⟩ hrt.1 rfl]
     congr 1
     exact mkR_congr fun i _ => (hG i).symm
    have hF3:∀ i,i < rows.length → Row p n (G i):=fun i hi => by
     rw [hG]
     split
     ·refine ⟨mkv_length _ _,fun j hj => ?_⟩
      have e1:=Int.emod_nonneg (at0 (F d) j * q) (show p ≠ 0 by omega)
      have e2:=Int.emod_lt_of_pos (at0 (F d) j * q) (show 0 < p by omega)
      rw [mkv_at hj];omega
     ·exact hrow2 i hi
    have hcl:=clear_loop hp (c:=c) (F:=G) hd hc hF3 (by omega) (by omega) (r21:=mkR rows.length G) mkR_len (s:=(M,(d:Int),(c:Int))) rfl rfl
    rw [beq_f (by omega),cnd_f,ixO_d [] (by omega),ixO_d [] (by omega)]
    simp only [bs]
    rw [hsw,mkR_ix hd,hFd]
    simp only [bs]
    rw [ixO_at (by rw [hrt.1];exact hc)]
    simp only [bs]
    rw [show at0 (M.getD t []) c = ent M t c from rfl,q1]
    simp only [bs]
    rw [hsc]
    simp only [bs]
    rw [hcl]
    simp only [bs]
    rw [rng_of (by omega) (by omega),rng_of (by omega) (by omega)]
    simp only [bs,cs]
    have hfin:=h.pivot hp hc hd t1 htl hne q4
    refine ⟨_,rfl,_,d + 1,fun i => if i = d then c else pv i,rfl,?_,by omega⟩
    have e3:(mkR rows.length fun i => if i = d then G d else addM p n (G i) (0 - at0 (G i) c) (G d)) = (mkR rows.length fun i => if i = d then mkv n fun j => (ent M t j * q) % p else addM p n (if i = t then M.getD d [] else M.getD i []) (0 - at0 (if i = t then M.getD d [] else M.getD i []) c) (mkv n fun j => (ent M t j * q) % p)):=by
     refine mkR_congr fun i hi => ?_
     rw [hGd]
     by_cases hid:i = d
     ·rw [if_pos hid,if_pos hid]
     ·rw [if_neg hid,if_neg hid,hGo i hid]
    rw [e3];exact hfin
  ·
   refine .inr ⟨(M,(d:Int)),?_,M,d,pv,rfl,by omega,h.take hcn fun k hk hk2 => by omega⟩
   rw [e0,decide_eq_false (by omega),cnd_f]
 ·
  obtain ⟨M,d,pv,rfl,h,hcn⟩:=hI
  have hl:=h.len
  have hdm:=h.dm
  refine ⟨(M,(d:Int)),?_,M,d,pv,rfl,by omega,h.take hcn fun k hk hk2 j hj => h.zero k hk hk2 j hj⟩
  unfold l4_g
  simp only
  by_cases h0:rows.length = 0
  ·rw [decide_eq_false (by omega),cnd_f]
  ·have hx:ixO M (0:Int) = some (M.getD 0 []):=by
    have:=ixO_d (v:=M) (i:=0) [] (by omega)
    exact this
   rw [decide_eq_true (by omega),cnd_t,hx]
   simp only [bs]
   rw [(h.row 0 (by omega)).1,lt_f,cnd_f]
end
end Go.Pl

namespace Go.Pl
open Go Go.Ab Go.Wk Go.Pc
theorem lead_spec {v:List Int} {n:Nat} (hl:v.length = n) (hn:n ≤ 1000000):∃ k:Nat,k ≤ n ∧ f_z v = some (k:Int) ∧ (∀ j,j < k → at0 v j = 0) ∧ (k < n → at0 v k ≠ 0):=by
 unfold f_z
 rcases chk (body:=l1_z v) n 0 (Nat.zero_le _) (fun i => at0 v i = 0) (fun i => (i:Int)) (fun i _ hi _ => by
   unfold l1_z
   rw [hl,lt_t hi,cnd_t,ixO_at (by omega),bs]
   by_cases h:at0 v i = 0
   ·rw [bne_f h,cnd_f,rng_of (by omega) (by omega),bs,cs];exact .inl ⟨rfl,h⟩
   ·rw [bne_t h,cnd_t];exact .inr ⟨rfl,h⟩) (by
   unfold l1_z
   rw [hl,lt_f,cnd_f]) with ⟨h1,h2⟩ | ⟨i,_,hi,h1,h2⟩
 ·rw [show ((0:Nat):Int) = 0 from rfl] at h1
  rw [h1,bs]
  exact ⟨n,Nat.le_refl _,by simp only [hl],fun j hj => h2 j (Nat.zero_le _) hj,fun h => by omega⟩
 ·rw [show ((0:Nat):Int) = 0 from rfl] at h1
  rw [h1,bs]
  obtain ⟨k,⟨hk1,hk2⟩,hmin⟩:=least (p:=fun k => k < n ∧ at0 v k ≠ 0) ⟨i,hi,h2⟩
  have hz:∀ j,j < k → at0 v j = 0:=fun j hj => Classical.byContradiction fun h => hmin j hj ⟨by omega,h⟩
  have hki:k = i:=by
   have hloop:∀ q,q ≤ k → loopO (l1_z v) ((k - q:Nat):Int) = some (.inr (k:Int)):=by
    intro q
    induction q with
    | zero =>
     intro _
     rw [loopO_eq]
     have e:l1_z v ((k - 0:Nat):Int) = some (.inr (.inr (k:Int))):=by
      unfold l1_z
      rw [show k - 0 = k from rfl,hl,lt_t hk1,cnd_t,ixO_at (by omega),bs,bne_t hk2,cnd_t]
     rw [e]
    | succ q ih =>
     intro hq
     rw [loopO_eq]
     have e:l1_z v ((k - (q + 1):Nat):Int) = some (.inl ((k - q:Nat):Int)):=by
      unfold l1_z
      rw [hl,lt_t (by omega),cnd_t,ixO_at (by omega),bs,bne_f (hz _ (by omega)),cnd_f,rng_of (by omega) (by omega),bs,cs,show k - (q + 1) + 1 = k - q from by omega]
     rw [e];exact ih (by omega)
   have:=hloop k (Nat.le_refl _)
   rw [Nat.sub_self,show ((0:Nat):Int) = 0 from rfl,h1] at this
   have:=Sum.inr.inj (Option.some.inj this)
   omega
  exact ⟨i,by omega,rfl,by rw [← hki];exact hz,fun _ => h2⟩
theorem lead_is {v:List Int} {n k:Nat} (hl:v.length = n) (hn:n ≤ 1000000) (hk:k < n) (h0:∀ j,j < k → at0 v j = 0) (h1:at0 v k ≠ 0):f_z v = some (k:Int):=by
 obtain ⟨q,q1,q2,q3,q4⟩:=lead_spec hl hn
 have:q = k:=by
  rcases Nat.lt_trichotomy q k with g | g | g
  ·exact absurd (h0 q g) (q4 (by omega))
  ·exact g
  ·exact absurd (q3 k g) h1
 rw [q2,this]
theorem inv_spec {p x:Int} (hp:Prime p) (h0:1 ≤ x) (h1:x ≤ p - 1):∃ r,f_ap x p = some r ∧ 0 ≤ r ∧ r ≤ p - 1 ∧ (x * r) % p = 1:=by
 have h7:=hp.pos
 have hx:∃ k:Nat,1 ≤ k ∧ (k:Int) < p ∧ (x * (k:Int)) % p = 1:=by
  obtain ⟨r,_,r1,r2,r3⟩:=inverse_impl hp h0 h1
  refine ⟨r.toNat,?_,by omega,by rw [Int.toNat_of_nonneg r1];exact r3⟩
  rcases Int.lt_or_eq_of_le r1 with g | g
  ·omega
  ·rw [← g] at r3;simp at r3
 obtain ⟨k,⟨k1,k2,k3⟩,hmin⟩:=least hx
 have body:∀ i:Nat,1 ≤ i → (i:Int) < p → l1_ap x p (i:Int) = cond ((x * (i:Int)) % p == 1) (some (.inr (.inr (i:Int)))) (some (.inl ((i + 1:Nat):Int))):=fun i hi hip => by
  have a3:=Int.mul_nonneg (show 0 ≤ x by omega) (show 0 ≤ (i:Int) by omega)
  have a4:=mulk_small hp (k:=(i:Int)) ⟨by omega,by omega⟩ (b:=x) ⟨by omega,h1⟩
  rw [Int.mul_comm] at a4
  unfold l1_ap
  rw [decide_eq_true hip,cnd_t,mod_spec hp (by omega) (by omega),bs,Int.emod_eq_of_lt (by omega) (by omega),rng_of (by omega) (by omega),bs]
  unfold remO
  rw [if_neg (by omega),bs,Int.tmod_eq_emod_of_nonneg a3]
  by_cases hh:(x * (i:Int)) % p = 1
  ·rw [beq_t hh,cnd_t,cnd_t]
  ·rw [beq_f hh,cnd_f,cnd_f,rng_of (by omega) (by omega),bs,cs]
 have hloop:∀ q,q + 1 ≤ k → loopO (l1_ap x p) ((k - q:Nat):Int) = some (.inr (k:Int)):=by
  intro q
  induction q with
  | zero =>
   intro _
   rw [loopO_eq,show k - 0 = k from rfl,body k k1 k2,beq_t k3,cnd_t]
  | succ q ih =>
   intro hq
   have hne:(x * ((k - (q + 1):Nat):Int)) % p ≠ 1:=fun h => hmin (k - (q + 1)) (by omega) ⟨by omega,by omega,h⟩
   rw [loopO_eq,body _ (by omega) (by omega),beq_f hne,cnd_f,show k - (q + 1) + 1 = k - q from by omega]
   exact ih (by omega)
 have:=hloop (k - 1) (by omega)
 rw [show k - (k - 1) = 1 from by omega,show ((1:Nat):Int) = 1 from rfl] at this
 refine ⟨(k:Int),?_,by omega,by omega,k3⟩
 unfold f_ap
 rw [this,bs]
section
variable {p:Int} (hp:Prime p) {n:Nat} (hn:n ≤ 100000)
 include hp hn
theorem addM_p {r s:List Int} (hr:Row p n r):addM p n r p s = r:=by
 have _:=hp
 have _:=hn
 conv => rhs;rw [mkv_eq hr.1]
 refine mkv_congr fun j hj => ?_
 have:=hr.2 j hj
 rw [Int.add_mul_emod_self_left];exact Int.emod_eq_of_lt this.1 (by omega)
def cl (p:Int) (n:Nat) (out:Mx) (pv:Nat → Nat) (v:List Int):Nat → List Int
 | 0 => v
 | i + 1 => addM p n (cl p n out pv v i) (p - at0 (cl p n out pv v i) (pv i)) (out.getD i [])
variable {out:Mx} {pv:Nat → Nat} (h:Red p n out pv) {v:List Int} (hv:Row p n v)
 include h hv
theorem cl_row:∀ i,Row p n (cl p n out pv v i):=by
 have _:=hn
 have _:=h
 intro i
 cases i with
 | zero => exact hv
 | succ i => exact addM_row hp
theorem cl_piv:∀ i,i ≤ out.length → ∀ k,k < i → at0 (cl p n out pv v i) (pv k) = 0:=by
 have _:=hn;have _:=hv
 have h7:=hp.pos
 intro i
 induction i with
 | zero => intro _ k hk;omega
 | succ i ih =>
  intro hi k hk
  have hlt:=h.lt k (by omega)
  rw [cl,addM,mkv_at hlt]
  rcases Nat.lt_or_ge k i with g | g
  ·have h1:=ih (by omega) k g
   have h2:=h.off k i (by omega) (by omega) (by omega)
   simp only [ent] at h2
   rw [h1,h2];simp
  ·have hki:k = i:=by omega
   subst hki
   have h2:=h.one k (by omega)
   simp only [ent] at h2
   rw [h2,Int.mul_one,show at0 (cl p n out pv v k) (pv k) + (p - at0 (cl p n out pv v k) (pv k)) = p from by omega,Int.emod_self]
theorem cl_comb:∀ i,i ≤ out.length → ∃ cf:Nat → Int,∀ j,j < n → at0 (cl p n out pv v i) j % p = (at0 v j + S out.length fun k => cf k * ent out k j) % p:=by
 have _:=hp;have _:=h;have _:=hv
 have _:=hn
 intro i
 induction i with
 | zero => intro _;exact ⟨fun _ => 0,fun j _ => by rw [S_congr (g:=fun _ => 0) (fun i _ => by simp),S_zero,Int.add_zero];rfl⟩
 | succ i ih =>
  intro hi
  obtain ⟨cf,hcf⟩:=ih (by omega)
  refine ⟨fun k => cf k + (if k = i then p - at0 (cl p n out pv v i) (pv i) else 0),fun j hj => ?_⟩
  have e1:(S out.length fun k => (cf k + (if k = i then p - at0 (cl p n out pv v i) (pv i) else 0)) * ent out k j) = (S out.length fun k => cf k * ent out k j) + (p - at0 (cl p n out pv v i) (pv i)) * ent out i j:=by
   rw [S_congr (g:=fun k => cf k * ent out k j + (if k = i then p - at0 (cl p n out pv v i) (pv i) else 0) * ent out k j) (fun k _ => by rw [Int.add_mul]),S_add,S_one (f:=fun k => (if k = i then p - at0 (cl p n out pv v i) (pv i) else 0) * ent out k j) (k:=i) (by omega) (fun k _ hk => by simp [hk])]
   simp
  rw [e1,cl,addM,mkv_at hj,Int.emod_emod,← Int.add_assoc,Int.add_emod,hcf j hj,← Int.add_emod]
theorem clear_spec (hm:out.length ≤ 100000):f_ac p out v = some (cl p n out pv v out.length):=by
 have h7:=hp.pos
 unfold f_ac
 rw [own_spec (by rw [hv.1];omega),bs]
 have:=loopO_seq (body:=l1_ac p out) (r:=cl p n out pv v out.length) (fun i => (cl p n out pv v i,(i:Int))) out.length (fun i hi => by
  have hr:=cl_row hp hn h hv i
  have ho:=h.row i hi
  have hlt:=h.lt i hi
  have hone:=h.one i hi
  have hlow:=h.low i hi
  simp only [ent] at hone hlow
  have he:=hr.2 (pv i) hlt
  unfold l1_ac
  simp only
  rw [lt_t hi,cnd_t,ixO_d [] hi,bs,lead_is ho.1 (by omega) hlt hlow (by rw [hone];decide),bs,hr.1,lt_t hlt,cnd_t,ixO_at (by rw [hr.1];exact hlt),bs]
  by_cases hz:at0 (cl p n out pv v i) (pv i) = 0
  ·rw [bne_f hz,cnd_f,rng_of (by omega) (by omega),bs,cs,cl,hz,Int.sub_zero,addM_p hp hn hr]
  ·rw [bne_t hz,cnd_t,bs,rng_of (by omega) (by omega),bs,bs,l02Add_spec hp hr ho ⟨by omega,by omega⟩ (by omega),bs,rng_of (by omega) (by omega),bs,cs]
   rfl) (by
  unfold l1_ac
  simp only
  rw [lt_f,cnd_f])
 rw [show ((0:Nat):Int) = 0 from rfl] at this
 simp only [cl] at this
 rw [this,bs]
end
end Go.Pl

namespace Go.Pl
open Go Go.Ab Go.Wk Go.Pc
section
variable {p:Int} (hp:Prime p) {n:Nat} {out:Mx} {pv:Nat → Nat} (h:Red p n out pv) {u:List Int} {k q:Nat} (hu:Row p n u) (hk:k < n) (u1:at0 u k = 1) (ul:∀ j,j < k → at0 u j = 0) (up:∀ i,i < out.length → at0 u (pv i) = 0) (hq:q ≤ out.length) (q1:∀ i,i < q → pv i < k) (q2:∀ i,q ≤ i → i < out.length → k < pv i)
def oth (p:Int) (n:Nat) (out:Mx) (u:List Int) (k i:Nat):List Int:=addM p n (out.getD i []) (p - at0 (out.getD i []) k) u
def newR (p:Int) (n:Nat) (out:Mx) (u:List Int) (k q i:Nat):List Int:=if i < q then oth p n out u k i else if i = q then u else oth p n out u k (i - 1)
def newP (pv:Nat → Nat) (k q i:Nat):Nat:=if i < q then pv i else if i = q then k else pv (i - 1)
 include hp h hu hk u1 ul up hq q1 q2
theorem oth_at {i j:Nat} (hj:j < n):at0 (oth p n out u k i) j = (at0 (out.getD i []) j - at0 (out.getD i []) k * at0 u j) % p:=by
 have _:=hp;have _:=h;have _:=hu;have _:=hk;have _:=u1;have _:=ul;have _:=up;have _:=hq;have _:=q1;have _:=q2
 rw [oth,addM,mkv_at hj,show at0 (out.getD i []) j + (p - at0 (out.getD i []) k) * at0 u j = at0 (out.getD i []) j - at0 (out.getD i []) k * at0 u j + p * at0 u j from by rw [Int.sub_mul];omega,Int.add_mul_emod_self_left]
theorem oth_same {i j:Nat} (hi:i < out.length) (hj:j < n) (hz:at0 (out.getD i []) k = 0 ∨ at0 u j = 0):at0 (oth p n out u k i) j = ent out i j:=by
 rw [oth_at hp h hu hk u1 ul up hq q1 q2 hj]
 have:=(h.row i hi).2 j hj
 have e:at0 (out.getD i []) k * at0 u j = 0:=by rcases hz with g | g <;> rw [g] <;> simp
 rw [e,Int.sub_zero];exact Int.emod_eq_of_lt this.1 (by omega)
theorem oth_k {i:Nat}:at0 (oth p n out u k i) k = 0:=by
 rw [oth_at hp h hu hk u1 ul up hq q1 q2 hk,u1,Int.mul_one,Int.sub_self];rfl
theorem oth_low {i j:Nat} (hi:i < out.length) (hj:j < pv i) (hne:pv i ≠ k):at0 (oth p n out u k i) j = 0:=by
 have hlt:=h.lt i hi
 rcases Nat.lt_or_ge (pv i) k with g | g
 ·rw [oth_same hp h hu hk u1 ul up hq q1 q2 hi (by omega) (.inr (ul j (by omega)))];exact h.low i hi j hj
 ·have:=h.low i hi k (by omega)
  rw [oth_same hp h hu hk u1 ul up hq q1 q2 hi (by omega) (.inl this)];exact h.low i hi j hj
theorem pv_ne {i:Nat} (hi:i < out.length):pv i ≠ k:=by
 have _:=h;have _:=q1;have _:=q2
 have _:=hp;have _:=hu;have _:=hk;have _:=ul;have _:=hq
 intro e
 have:=up i hi
 rw [e,u1] at this;cases this
theorem new_cases {i:Nat} (hi:i < out.length + 1):(i = q ∧ newR p n out u k q i = u ∧ newP pv k q i = k) ∨ ∃ a,a < out.length ∧ (i < q ∧ a = i ∨ q < i ∧ i = a + 1) ∧ newR p n out u k q i = oth p n out u k a ∧ newP pv k q i = pv a:=by
 have _:=hp;have _:=h;have _:=hu;have _:=hk;have _:=u1;have _:=ul;have _:=up;have _:=q1;have _:=q2
 unfold newR newP
 rcases Nat.lt_trichotomy i q with g | g | g
 ·exact .inr ⟨i,by omega,.inl ⟨g,rfl⟩,by rw [if_pos g],by rw [if_pos g]⟩
 ·exact .inl ⟨g,by rw [if_neg (by omega),if_pos g],by rw [if_neg (by omega),if_pos g]⟩
 ·exact .inr ⟨i - 1,by omega,.inr ⟨g,by omega⟩,by rw [if_neg (by omega),if_neg (by omega)],by rw [if_neg (by omega),if_neg (by omega)]⟩
theorem insert_red:Red p n (mkR (out.length + 1) (newR p n out u k q)) (newP pv k q):=by
 have nc:=fun i hi => new_cases hp h hu hk u1 ul up hq q1 q2 (i:=i) hi
 have pn:=fun i hi => pv_ne hp h hu hk u1 ul up hq q1 q2 (i:=i) hi
 refine ⟨fun i hi => ?_,fun i hi => ?_,fun i hi => ?_,fun i hi j hj => ?_,fun i j hi hj hne => ?_,fun i j hij hj => ?_⟩ <;> rw [mkR_len] at *
 ·rw [mkR_get hi]
  rcases nc i hi with ⟨_,e,_⟩ | ⟨a,_,_,e,_⟩ <;> rw [e]
  ·exact hu
  ·exact addM_row hp
 ·rcases nc i hi with ⟨_,_,e⟩ | ⟨a,ha,_,_,e⟩ <;> rw [e]
  ·exact hk
  ·exact h.lt a ha
 ·rw [mkR_ent hi]
  rcases nc i hi with ⟨_,e1,e2⟩ | ⟨a,ha,_,e1,e2⟩ <;> rw [e1,e2]
  ·exact u1
  ·rw [oth_same hp h hu hk u1 ul up hq q1 q2 ha (h.lt a ha) (.inr (up a ha))];exact h.one a ha
 ·rw [mkR_ent hi]
  rcases nc i hi with ⟨_,e1,e2⟩ | ⟨a,ha,_,e1,e2⟩ <;> rw [e2] at hj <;> rw [e1]
  ·exact ul j hj
  ·exact oth_low hp h hu hk u1 ul up hq q1 q2 ha hj (pn a ha)
 ·rw [mkR_ent hj]
  rcases nc i hi with ⟨g1,_,e2⟩ | ⟨a,ha,ga,_,e2⟩ <;> rw [e2] <;> rcases nc j hj with ⟨g3,e3,_⟩ | ⟨b,hb,gb,e3,_⟩ <;> rw [e3]
  ·omega
  ·exact oth_k hp h hu hk u1 ul up hq q1 q2
  ·exact up a ha
  ·rw [oth_same hp h hu hk u1 ul up hq q1 q2 hb (h.lt a ha) (.inr (up a ha))]
   exact h.off a b ha hb (by omega)
 ·rcases nc i (by omega) with ⟨g1,_,e2⟩ | ⟨a,ha,ga,_,e2⟩ <;> rw [e2] <;> rcases nc j hj with ⟨g3,_,e4⟩ | ⟨b,hb,gb,_,e4⟩ <;> rw [e4]
  ·omega
  ·exact q2 b (by omega) hb
  ·exact q1 a (by omega)
  ·exact h.mono a b (by omega) hb
theorem insert_sp:(∀ i,i < out.length + 1 → Sp p n (out ++ [u]) (newR p n out u k q i)) ∧ (∀ i,i < out.length → Sp p n (mkR (out.length + 1) (newR p n out u k q)) (out.getD i [])) ∧ Sp p n (mkR (out.length + 1) (newR p n out u k q)) u:=by
 have hul:Sp p n (out ++ [u]) u:=by
  have:=sp_row (p:=p) (n:=n) (R:=out ++ [u]) (i:=out.length) (by simp)
  simpa [List.getD_eq_getElem?_getD] using this
 have hol:∀ i,i < out.length → Sp p n (out ++ [u]) (out.getD i []):=fun i hi => by
  have:=sp_row (p:=p) (n:=n) (R:=out ++ [u]) (i:=i) (by simp;omega)
  simpa [List.getD_eq_getElem?_getD,List.getElem?_append_left hi] using this
 have hoth:∀ i,i < out.length → Sp p n (out ++ [u]) (oth p n out u k i):=fun i hi =>
  sp_add (k:=p - at0 (out.getD i []) k) (hol i hi) hul fun j hj => by rw [oth,addM,mkv_at hj,Int.emod_emod]
 have hsu:Sp p n (mkR (out.length + 1) (newR p n out u k q)) u:=by
  have:=sp_mkR_row (p:=p) (n:=n) (m:=out.length + 1) (F:=newR p n out u k q) (i:=q) (by omega)
  rw [show newR p n out u k q q = u from by unfold newR;rw [if_neg (by omega),if_pos rfl]] at this
  exact this
 refine ⟨fun i hi => ?_,fun i hi => ?_,hsu⟩
 ·rcases new_cases hp h hu hk u1 ul up hq q1 q2 hi with ⟨_,e,_⟩ | ⟨a,ha,_,e,_⟩ <;> rw [e]
  ·exact hul
  ·exact hoth a ha
 ·have hi2:∃ b,b < out.length + 1 ∧ newR p n out u k q b = oth p n out u k i:=by
   rcases Nat.lt_or_ge i q with g | g
   ·exact ⟨i,by omega,by unfold newR;rw [if_pos g]⟩
   ·exact ⟨i + 1,by omega,by unfold newR;rw [if_neg (by omega),if_neg (by omega)];rfl⟩
  obtain ⟨b,hb,e⟩:=hi2
  have h1:=sp_mkR_row (p:=p) (n:=n) (m:=out.length + 1) (F:=newR p n out u k q) hb
  rw [e] at h1
  refine sp_add (k:=at0 (out.getD i []) k) h1 hsu fun j hj => ?_
  rw [oth_at hp h hu hk u1 ul up hq q1 q2 hj,Int.add_emod,Int.emod_emod,← Int.add_emod,show at0 (out.getD i []) j - at0 (out.getD i []) k * at0 u j + at0 (out.getD i []) k * at0 u j = at0 (out.getD i []) j from by omega]
theorem insert_loop (hn:n ≤ 100000) (hm:out.length ≤ 100000) {x:Int} :
  ((loopO (l1_o p (out,x) (k:Int) u) ([],false,0)).bind fun r32 => cond (!r32.2) ((appO r32.1 [u]).bind fun v33 => some v33) (some r32.1)) = some (mkR (out.length + 1) (newR p n out u k q)):=by
 have _:=u1;have _:=ul;have _:=up
 have h7:=hp.pos
 have ho:∀ i,i < out.length → f_m p (out.getD i []) (p - at0 (out.getD i []) k) u = some (oth p n out u k i) ∧ ixO (out.getD i []) (k:Int) = some (at0 (out.getD i []) k) ∧ 0 ≤ at0 (out.getD i []) k ∧ at0 (out.getD i []) k ≤ p - 1 ∧ f_z (out.getD i []) = some (pv i:Int):=fun i hi => by
  have hr:=h.row i hi
  have hk2:=hr.2 k hk
  have hone:=h.one i hi
  have hlow:=h.low i hi
  simp only [ent] at hone hlow
  exact ⟨by rw [l02Add_spec hp hr hu ⟨by omega,by omega⟩ (by omega)];rfl,ixO_at (by rw [hr.1];exact hk),hk2.1,hk2.2,lead_is hr.1 (by omega) (h.lt i hi) hlow (by rw [hone];decide)⟩
 have hsn:∀ {m:Nat} {F:Nat → List Int},mkR m F ++ [F m] = mkR (m + 1) F:=fun {m F} => by simp [mkR,List.range_succ]
 have:=loopO_seq (body:=l1_o p (out,x) (k:Int) u) (r:=(if out.length ≤ q then (mkR out.length (newR p n out u k q),false) else (mkR (out.length + 1) (newR p n out u k q),true)))
  (fun j => if j ≤ q then (mkR j (newR p n out u k q),false,(j:Int)) else (mkR (j + 1) (newR p n out u k q),true,(j:Int))) out.length (fun j hj => by
   obtain ⟨a1,a2,a3,a4,a5⟩:=ho j hj
   have hrg:rng (p - at0 (out.getD j []) k) = some (p - at0 (out.getD j []) k):=rng_of (by omega) (by omega)
   rcases Nat.lt_trichotomy j q with g | g | g
   ·have hpj:=q1 j g
    rw [if_pos (by omega),if_pos (by omega)]
    unfold l1_o
    simp only
    rw [lt_t hj,cnd_t,Bool.not_false,cnd_t,ixO_d [] hj]
    simp only [bs,a5]
    rw [decide_eq_false (by omega),cnd_f,a2]
    simp only [bs,hrg,a1]
    rw [appO_of (by rw [mkR_len];simp;omega),bs,rng_of (by omega) (by omega),bs,cs]
    have:newR p n out u k q j = oth p n out u k j:=by unfold newR;rw [if_pos g]
    rw [← this,hsn]
   ·subst g
    have hpj:=q2 j (Nat.le_refl _) hj
    rw [if_pos (by omega),if_neg (by omega)]
    unfold l1_o
    simp only
    rw [lt_t hj,cnd_t,Bool.not_false,cnd_t,ixO_d [] hj]
    simp only [bs,a5]
    rw [decide_eq_true (by omega),cnd_t,appO_of (by rw [mkR_len];simp;omega),a2]
    simp only [bs,hrg,a1]
    have e1:newR p n out u k j j = u:=by unfold newR;rw [if_neg (by omega),if_pos rfl]
    have e2:newR p n out u k j (j + 1) = oth p n out u k j:=by unfold newR;rw [if_neg (by omega),if_neg (by omega)];rfl
    have e3:mkR j (newR p n out u k j) ++ [u] = mkR (j + 1) (newR p n out u k j):=by rw [← hsn,e1]
    rw [e3,appO_of (by rw [mkR_len];simp;omega),bs,rng_of (by omega) (by omega),bs,cs,← e2,hsn]
   ·rw [if_neg (by omega),if_neg (by omega)]
    unfold l1_o
    simp only
    rw [lt_t hj,cnd_t,Bool.not_true,cnd_f,ixO_d [] hj]
    simp only [bs,a2,hrg,a1]
    have e2:newR p n out u k q (j + 1) = oth p n out u k j:=by unfold newR;rw [if_neg (by omega),if_neg (by omega)];rfl
    rw [appO_of (by rw [mkR_len];simp;omega),bs,rng_of (by omega) (by omega),bs,cs,← e2,hsn]) (by
   by_cases g:out.length ≤ q
   ·rw [if_pos g,if_pos g]
    unfold l1_o
    simp only
    rw [lt_f,cnd_f]
   ·rw [if_neg g,if_neg g]
    unfold l1_o
    simp only
    rw [lt_f,cnd_f])
 rw [if_pos (Nat.zero_le _),show ((0:Nat):Int) = 0 from rfl,show mkR 0 (newR p n out u k q) = [] from rfl] at this
 rw [this,bs]
 by_cases g:out.length ≤ q
 ·have e1:newR p n out u k q out.length = u:=by unfold newR;rw [if_neg (by omega),if_pos (by omega)]
  rw [if_pos g]
  simp only
  rw [Bool.not_false,cnd_t,appO_of (by rw [mkR_len];simp;omega),bs]
  congr 1
  rw [← hsn,e1]
 ·rw [if_neg g]
  simp only
  rw [Bool.not_true,cnd_f]
end
end Go.Pl

namespace Go.Pl
open Go Go.Ab Go.Wk Go.Pc
theorem sp_sum {p:Int} {n:Nat} {R out:Mx} {cf:Nat → Int} (ho:∀ i,i < out.length → Sp p n R (out.getD i [])) {u:List Int} (hu:∀ j,j < n → at0 u j % p = (S out.length fun k => cf k * ent out k j) % p):Sp p n R u :=
 sp_trans ho ⟨cf,fun j hj => (hu j hj).symm⟩
theorem Red.len_le {p:Int} {n:Nat} {R:Mx} {pv:Nat → Nat} (h:Red p n R pv):R.length ≤ n:=by
 have key:∀ i,i < R.length → i ≤ pv i:=by
  intro i
  induction i with
  | zero => intro _;omega
  | succ i ih =>
   intro hi
   have h1:=ih (by omega)
   have h2:=h.mono i (i + 1) (by omega) hi
   omega
 rcases Nat.eq_zero_or_pos R.length with g | g
 ·omega
 ·have h1:=key (R.length - 1) (by omega)
  have h2:=h.lt (R.length - 1) (by omega)
  omega
theorem getD_snoc {xs:Mx} {v:List Int} {i:Nat} (h:i < xs.length):(xs ++ [v]).getD i [] = xs.getD i []:=by
 simp only [List.getD_eq_getElem?_getD,List.getElem?_append_left h]
theorem getD_last {xs:Mx} {v:List Int}:(xs ++ [v]).getD xs.length [] = v:=by simp [List.getD_eq_getElem?_getD]
section
variable {p:Int} (hp:Prime p) {n:Nat} (hn:n ≤ 100000)
 include hp hn
theorem scale_spec {w:List Int} (hw:Row p n w) {r:Int} (h0:0 ≤ r) (h1:r ≤ p - 1):f_bh p r w = some (mkv n fun j => (at0 w j * r) % p):=by
 have h7:=hp.pos
 unfold f_bh
 rw [hw.1,lenOk_nat (by omega),bs,l02Add_spec hp (z0_row (by omega)) hw ⟨by omega,by omega⟩ (by omega),bs]
 congr 1
 refine mkv_congr fun j hj => ?_
 rw [show at0 (z0 n) j = 0 from by simp [z0,at0,List.getD_eq_getElem?_getD,hj],Int.zero_add,Int.mul_comm]
variable {rows:Mx} (hm:rows.length ≤ 600000) (hr:∀ i,i < rows.length → Row p n (rows.getD i []))
 include hm hr
theorem reduce_specL:∃ R pv,f_o p rows = some R ∧ (Red p n R pv ∧ R.length ≤ rows.length) ∧ SpEq p n R rows:=by
 have h7:=hp.pos
 unfold f_o
 have main:=loopO_tot (body:=l2_o p rows) (s:=([],0)) (Q:=fun R => ∃ pv,(Red p n R pv ∧ R.length ≤ rows.length) ∧ SpEq p n R rows)
  (fun i s => ∃ (out:Mx) (pv:Nat → Nat),s = (out,(i:Int)) ∧ Red p n out pv ∧ SpEq p n out (rows.take i) ∧ out.length ≤ i ∧ i ≤ rows.length) rows.length (fun i s hi hI => ?_) (fun s hI => ?_) ⟨[],fun _ => 0,rfl,Red.empty,by rw [List.take_zero];exact SpEq.refl,Nat.zero_le _,Nat.zero_le _⟩
 ·obtain ⟨R,h1,pv,h2,h3⟩:=main
  rw [h1,bs]
  exact ⟨R,pv,rfl,h2,h3⟩
 ·obtain ⟨out,pv,rfl,h,hs,hl,_⟩:=hI
  have hon:out.length ≤ n:=h.len_le
  left
  have hv:=hr i hi
  have hw:=cl_row hp hn h hv out.length
  have hcl:=clear_spec hp hn h hv (by omega)
  have hpz:=cl_piv hp hn h hv out.length (Nat.le_refl _)
  obtain ⟨cf,hcf⟩:=cl_comb hp hn h hv out.length (Nat.le_refl _)
  obtain ⟨k,k1,k2,k3,k4⟩:=lead_spec hw.1 (by omega)
  have htk:rows.take (i + 1) = rows.take i ++ [rows.getD i []]:=by
   rw [List.take_succ_eq_append_getElem hi,List.getD_eq_getElem?_getD,List.getElem?_eq_getElem hi];rfl
  have hti:(rows.take i).length = i:=by rw [List.length_take];omega
  have hup:∀ u,Sp p n (rows.take i) u → Sp p n (rows.take (i + 1)) u:=fun u hu => sp_trans (fun a ha => by
   have:=sp_row (p:=p) (n:=n) (R:=rows.take (i + 1)) (i:=a) (by rw [htk,List.length_append];omega)
   rw [htk,getD_snoc ha,← htk] at this;exact this) hu
  have hvs:Sp p n (rows.take (i + 1)) (rows.getD i []):=by
   have:=sp_row (p:=p) (n:=n) (R:=rows.take (i + 1)) (i:=i) (by rw [htk,List.length_append,hti];simp)
   rw [htk] at this
   have e:(rows.take i ++ [rows.getD i []]).getD i [] = rows.getD i []:=by
    have:=getD_last (xs:=rows.take i) (v:=rows.getD i [])
    rw [hti] at this;exact this
   rw [e,← htk] at this;exact this
  by_cases hkn:k = n
  ·
   refine ⟨(out,((i + 1:Nat):Int)),?_,out,pv,rfl,h,⟨fun a ha => hup _ (hs.1 a ha),fun a ha => ?_⟩,by omega,by omega⟩
   ·unfold l2_o
    simp only
    rw [lt_t hi,cnd_t,ixO_d [] hi]
    simp only [bs,hcl,k2]
    rw [hw.1,beq_t (by omega),cnd_t,rng_of (by omega) (by omega),bs,cs]
   ·rw [htk,List.length_append,hti,List.length_singleton] at ha
    rw [htk]
    rcases Nat.lt_or_ge a i with g | g
    ·rw [getD_snoc (by omega)];exact hs.2 a (by omega)
    ·have:a = i:=by omega
     subst this
     have e:(rows.take a ++ [rows.getD a []]).getD a [] = rows.getD a []:=by
      have:=getD_last (xs:=rows.take a) (v:=rows.getD a [])
      rw [hti] at this;exact this
     rw [e]
     refine sp_sum (out:=out) (cf:=fun q => -1 * cf q) (fun a ha => sp_row ha) fun j hj => ?_
     have h1:=hcf j hj
     rw [k3 j (by omega)] at h1
     rw [S_congr (g:=fun q => -1 * (cf q * ent out q j)) (fun q _ => by rw [Int.mul_assoc]),S_mul']
     have h2:(at0 (rows.getD a []) j + S out.length fun q => cf q * ent out q j) % p = 0:=by rw [← h1];rfl
     rw [show at0 (rows.getD a []) j = (at0 (rows.getD a []) j + S out.length fun q => cf q * ent out q j) + -1 * (S out.length fun q => cf q * ent out q j) from by omega,Int.add_emod,h2,Int.zero_add,Int.emod_emod]
  ·have hk:k < n:=by omega
   have hwk:=hw.2 k hk
   have hne:=k4 hk
   obtain ⟨r,r1,r2,r3,r4⟩:=inv_spec hp (x:=at0 (cl p n out pv (rows.getD i []) out.length) k) (by omega) (by omega)
   have hsc:=scale_spec hp hn hw r2 r3
   have hu:Row p n (mkv n fun j => (at0 (cl p n out pv (rows.getD i []) out.length) j * r) % p):=⟨mkv_length _ _,fun j hj => by
    have e1:=Int.emod_nonneg (at0 (cl p n out pv (rows.getD i []) out.length) j * r) (show p ≠ 0 by omega)
    have e2:=Int.emod_lt_of_pos (at0 (cl p n out pv (rows.getD i []) out.length) j * r) (show 0 < p by omega)
    rw [mkv_at hj];omega⟩
   have ua:∀ j,j < n → at0 (mkv n fun j => (at0 (cl p n out pv (rows.getD i []) out.length) j * r) % p) j = (at0 (cl p n out pv (rows.getD i []) out.length) j * r) % p:=fun j hj => mkv_at hj
   generalize mkv n (fun j => (at0 (cl p n out pv (rows.getD i []) out.length) j * r) % p) = u at hsc hu ua
   have u1:at0 u k = 1:=by rw [ua k hk];exact r4
   have ul:∀ j,j < k → at0 u j = 0:=fun j hj => by rw [ua j (by omega),k3 j hj];simp
   have up:∀ a,a < out.length → at0 u (pv a) = 0:=fun a ha => by rw [ua _ (h.lt a ha),hpz a ha];simp
   obtain ⟨q,⟨hq,hq2⟩,hmin⟩:=least (p:=fun q => q ≤ out.length ∧ (q < out.length → k < pv q)) ⟨out.length,Nat.le_refl _,fun g => by omega⟩
   have q1:∀ a,a < q → pv a < k:=fun a ha => by
    have h1:¬ (k < pv a):=fun g => hmin a ha ⟨by omega,fun _ => g⟩
    have h2:pv a ≠ k:=fun e => by
     have:=up a (by omega)
     rw [e,u1] at this;cases this
    omega
   have q2:∀ a,q ≤ a → a < out.length → k < pv a:=fun a ha ha2 => by
    have h1:=hq2 (by omega)
    rcases Nat.lt_or_ge q a with g | g
    ·have:=h.mono q a g ha2;omega
    ·rw [show a = q from by omega];exact h1
   have hins:=insert_loop hp h hu hk u1 ul up hq q1 q2 hn (by omega) (x:=(i:Int))
   have hred:=insert_red hp h hu hk u1 ul up hq q1 q2
   obtain ⟨s1,s2,s3⟩:=insert_sp hp h hu hk u1 ul up hq q1 q2
   refine ⟨(mkR (out.length + 1) (newR p n out u k q),((i + 1:Nat):Int)),?_,_,_,rfl,hred,⟨fun a ha => ?_,fun a ha => ?_⟩,by rw [mkR_len];omega,by omega⟩
   ·unfold l2_o
    simp only
    rw [lt_t hi,cnd_t,ixO_d [] hi]
    simp only [bs,hcl,k2]
    rw [hw.1,beq_f (by omega),cnd_f,ixO_at (by rw [hw.1];exact hk)]
    simp only [bs,r1,hsc]
    cases hlo:loopO (l1_o p (out,(i:Int)) (k:Int) u) ([],false,0) with
    | none => rw [hlo] at hins;cases hins
    | some r32 =>
     rw [hlo,bs] at hins
     simp only [bs]
     obtain ⟨a1,a2⟩:=r32
     cases a2 with
     | true =>
      simp only [Bool.not_true,cnd_f] at hins ⊢
      rw [rng_of (by omega) (by omega),bs,cs,Option.some.inj hins]
     | false =>
      simp only [Bool.not_false,cnd_t] at hins ⊢
      cases hap:appO a1 [u] with
      | none => rw [hap] at hins;cases hins
      | some v33 =>
       rw [hap,bs] at hins
       simp only [bs]
       rw [rng_of (by omega) (by omega),bs,cs,Option.some.inj hins]
   ·rw [mkR_len] at ha
    rw [mkR_get ha]
    refine sp_trans (fun b hb => ?_) (s1 a ha)
    rw [List.length_append,List.length_singleton] at hb
    rcases Nat.lt_or_ge b out.length with g | g
    ·rw [getD_snoc g];exact hup _ (hs.1 b g)
    ·rw [show b = out.length from by omega,getD_last]
     have hwS:Sp p n (rows.take (i + 1)) (cl p n out pv (rows.getD i []) out.length):=by
      have hcS:Sp p n (rows.take (i + 1)) (mkv n fun j => S out.length fun k => cf k * ent out k j):=sp_sum (out:=out) (cf:=cf) (fun b hb => hup _ (hs.1 b hb)) fun j hj => by rw [mkv_at hj]
      refine sp_add (k:=1) hvs hcS fun j hj => ?_
      rw [hcf j hj,mkv_at hj,Int.one_mul]
     refine sp_add (k:=r) (sp_zero (u:=[]) fun j _ => by simp [at0]) hwS fun j hj => ?_
     rw [ua j hj,Int.emod_emod,show at0 ([]:List Int) j = 0 from by simp [at0],Int.zero_add,Int.mul_comm]
   ·rw [htk,List.length_append,hti,List.length_singleton] at ha
    rw [htk]
    rcases Nat.lt_or_ge a i with g | g
    ·rw [getD_snoc (by omega)]
     exact sp_trans s2 (hs.2 a (by omega))
    ·have hai:a = i:=by omega
     subst hai
     have e:(rows.take a ++ [rows.getD a []]).getD a [] = rows.getD a []:=by
      have:=getD_last (xs:=rows.take a) (v:=rows.getD a [])
      rw [hti] at this;exact this
     rw [e]
     have hwS:Sp p n (mkR (out.length + 1) (newR p n out u k q)) (cl p n out pv (rows.getD a []) out.length):=by
      refine sp_add (k:=at0 (cl p n out pv (rows.getD a []) out.length) k) (sp_zero (u:=[]) fun j _ => by simp [at0]) s3 fun j hj => ?_
      rw [ua j hj,show at0 ([]:List Int) j = 0 from by simp [at0],Int.zero_add]
      rw [Int.mul_emod,Int.emod_emod,← Int.mul_emod,← Int.mul_assoc,Int.mul_comm (at0 (cl p n out pv (rows.getD a []) out.length) k),Int.mul_assoc,Int.mul_emod,r4,Int.mul_one,Int.emod_emod]
     have hcS:Sp p n (mkR (out.length + 1) (newR p n out u k q)) (mkv n fun j => S out.length fun k => cf k * ent out k j):=sp_sum (out:=out) (cf:=cf) s2 fun j hj => by rw [mkv_at hj]
     refine sp_add (k:=-1) hwS hcS fun j hj => ?_
     rw [mkv_at hj,Int.add_emod,hcf j hj,← Int.add_emod]
     congr 1;omega
 ·obtain ⟨out,pv,rfl,h,hs,hl,_⟩:=hI
  refine ⟨out,?_,pv,⟨h,hl⟩,by rw [List.take_length] at hs;exact hs⟩
  unfold l2_o
  simp only
  rw [lt_f,cnd_f]
theorem reduce_spec:∃ R pv,f_o p rows = some R ∧ Red p n R pv ∧ SpEq p n R rows:=by
 obtain ⟨R,pv,h1,h2,h3⟩:=reduce_specL hp hn hm hr
 exact ⟨R,pv,h1,h2.1,h3⟩
theorem reduce_both:∃ R pv,f_o p rows = some R ∧ f_g p rows = some R ∧ Red p n R pv ∧ SpEq p n R rows:=by
 have h7:=hp.pos
 obtain ⟨R,pv,h1,h2,h3⟩:=reduce_spec hp hn hm hr
 obtain ⟨R',pv',g1,g2,g3⟩:=reduce_impl hp hn hm hr
 have e:=h2.unique (by omega) g2 (h3.trans g3.symm)
 exact ⟨R,pv,h1,by rw [e];exact g1,h2,h3⟩
end
end Go.Pl

namespace Go.Pl
open Go Go.Ab Go.Wk Go.Pc
theorem map_loop {β:Type} {body:List β × Int → Option ((List β × Int) ⊕ List β)} (n:Nat) (F:Nat → β) (h:∀ i acc,i < n → acc.length = i → body (acc,(i:Int)) = some (.inl (acc ++ [F i],((i + 1:Nat):Int)))) (he:∀ acc,body (acc,(n:Int)) = some (.inr acc)) :
  loopO body ([],0) = some ((List.range n).map F):=by
 have:=loopO_seq (body:=body) (r:=(List.range n).map F) (fun i => ((List.range i).map F,(i:Int))) n (fun i hi => by
  rw [h i _ hi (by simp),List.range_succ,List.map_append];rfl) (he _)
 exact this
theorem flat_spec {xs:Mx} (hx:xs.length ≤ 100000) (hf:xs.flatten.length ≤ 1000000):f_V xs = some xs.flatten:=by
 unfold f_V
 have:=loopO_seq (body:=l1_V xs) (r:=xs.flatten) (fun i => ((xs.take i).flatten,(i:Int))) xs.length (fun i hi => by
  have h1:=flat_take hi
  have h2:=flat_le (xs:=xs) (i + 1)
  have h3:=congrArg List.length h1
  rw [List.length_append] at h3
  unfold l1_V
  simp only
  rw [lt_t hi,cnd_t,ixO_d [] hi,bs,appO_of (by omega),bs,rng_of (by omega) (by omega),bs,cs,h1]) (by
  unfold l1_V
  simp only
  rw [lt_f,cnd_f,List.take_length])
 rw [show ((0:Nat):Int) = 0 from rfl,List.take_zero] at this
 simp only [List.flatten_nil] at this
 rw [this,bs]
theorem row_iff {p:Int} {L:Nat} {v:List Int}:Row p L v ↔ v.length = L ∧ ∀ a ∈ v,0 ≤ a ∧ a ≤ p - 1:=by
 constructor
 ·rintro ⟨h1,h2⟩
  refine ⟨h1,fun a ha => ?_⟩
  obtain ⟨i,hi,rfl⟩:=List.mem_iff_getElem.1 ha
  have:=h2 i (by omega)
  simpa [at0,List.getD_eq_getElem?_getD,List.getElem?_eq_getElem hi] using this
 ·rintro ⟨h1,h2⟩
  refine ⟨h1,fun i hi => ?_⟩
  have:=h2 v[i] (List.getElem_mem (by omega))
  simpa [at0,List.getD_eq_getElem?_getD,List.getElem?_eq_getElem (show i < v.length by omega)] using this
theorem flat_len {D:Nat}:∀ {xs:Mx},(∀ r ∈ xs,r.length = D) → xs.flatten.length = xs.length * D
 | [],_ => by simp
 | x :: xs,h => by
  have:=flat_len (xs:=xs) fun r hr => h r (by simp [hr])
  have:=h x (by simp)
  simp only [List.flatten_cons,List.length_append,List.length_cons,Nat.add_mul];omega
theorem flat_row {p:Int} {D:Nat} {xs:Mx} (h:∀ r ∈ xs,Row p D r):Row p (xs.length * D) xs.flatten:=by
 refine row_iff.2 ⟨flat_len fun r hr => (h r hr).1,fun a ha => ?_⟩
 obtain ⟨r,hr,ha⟩:=List.mem_flatten.1 ha
 exact (row_iff.1 (h r hr)).2 a ha
def unitv (D k:Nat):List Int:=mkv D fun j => if j = k then 1 else 0
theorem unitv_row {p:Int} {D k:Nat} (hp:2 ≤ p):Row p D (unitv D k):=⟨mkv_length _ _,fun i hi => by
 rw [unitv,mkv_at hi];split <;> omega⟩
theorem unitVector_impl {D k:Nat} (hk:k < D) (hD:D ≤ 1000000):f_aA (D:Int) (k:Int) = some (unitv D k):=by
 unfold f_aA
 rw [lenOk_nat (by omega),bs,ixO_at (by simp;exact hk),bs,Int.toNat_natCast]
 congr 1
 rw [mkv_zero,mkv_set,unitv]
end Go.Pl

namespace Go.Pl
open Go Go.Ab Go.Wk Go.Pc
abbrev gl {β:Type} (m:Nat) (F:Nat → β):List β:=(List.range m).map F
theorem gl_len {β:Type} {m:Nat} {F:Nat → β}:(gl m F).length = m:=by simp [gl]
theorem gl_ix {β:Type} {m:Nat} {F:Nat → β} {i:Nat} (h:i < m):ixO (gl m F) (i:Int) = some (F i):=by
 rw [ixO_get (by rw [gl_len];exact h)];simp [gl]
theorem gl_congr {β:Type} {m:Nat} {F G:Nat → β} (h:∀ i,i < m → F i = G i):gl m F = gl m G:=List.map_congr_left fun i hi => h i (List.mem_range.1 hi)
theorem gl_set {β:Type} {m:Nat} {F:Nat → β} {i:Nat} {a:β}:(gl m F).set i a = gl m (fun k => if k = i then a else F k):=by
 apply List.ext_getElem?
 intro k
 by_cases hk:k < m
 ·by_cases h:i = k
  ·subst h;simp [gl,hk]
  ·rw [List.getElem?_set_ne h];simp [gl,hk,Ne.symm h]
 ·rw [List.getElem?_eq_none (by simp [gl];omega),List.getElem?_eq_none (by simp [gl];omega)]
theorem gl_snoc {β:Type} {m:Nat} {F:Nat → β}:gl m F ++ [F m] = gl (m + 1) F:=by simp [gl,List.range_succ]
def base (n i:Nat):Nat:=n + i * n - i * (i + 1) / 2
theorem base_succ:∀ n,n < 7 → ∀ i,i < n → base n (i + 1) = base n i + (n - 1 - i):=by decide
theorem base_le:∀ n,n < 7 → ∀ i,i < n → base n i + (n - 1 - i) ≤ base n n:=by decide
theorem base_big:∀ n,n < 7 → n ≤ base n n ∧ base n n ≤ 21 ∧ base n 0 = n:=by decide
theorem place_spec:∀ n:Nat,n < 7 → ∀ j:Nat,j < n → ∀ i:Nat,i < j → f_bw (n:Int) (i:Int) (j:Int) = some ((base n i + (j - i - 1):Nat):Int):=by decide +kernel
def exP (n D:Nat) (x:SPr) (T:Mx) (i:Nat):List Int:=if i < n then x.Powers.getD i [] ++ T.getD i [] else List.replicate (n + D) 0
def exF (n:Nat) (x:SPr) (m:SModule) (T:Mx) (i j:Nat):List Int:=if j < n - 1 - i then (x.Conjugates.getD i []).getD j [] ++ T.getD (base n i + j) [] else List.replicate n 0 ++ (m.Actions.getD i []).getD (j - (n - 1 - i)) []
def unC (N i:Nat):Mx:=gl (N - 1 - i) fun j => unitv N (i + 1 + j)
def exC (n D:Nat) (x:SPr) (m:SModule) (T:Mx) (i:Nat):Mx:=if i < n then gl (n + D - 1 - i) (exF n x m T i) else unC (n + D) i
def ext (n D:Nat) (x:SPr) (m:SModule) (T:Mx):SPr:=⟨x.Orders ++ List.replicate D m.Prime,gl (n + D) (exP n D x T),gl (n + D) (exC n D x m T)⟩
structure ExOk (n D:Nat) (x:SPr) (m:SModule) (T:Mx):Prop where
 hn:n ≤ 6
 o:x.Orders.length = n
 p:x.Powers.length = n
 c:x.Conjugates.length = n
 cl:∀ i,i < n → (x.Conjugates.getD i []).length = n - 1 - i
 pl:∀ i,(x.Powers.getD i []).length ≤ 6
 ce:∀ i j,((x.Conjugates.getD i []).getD j []).length ≤ 6
 t:T.length = base n n
 tl:∀ i,(T.getD i []).length ≤ 3
 m:MOk n m D
end Go.Pl

namespace Go.Pl
open Go Go.Ab Go.Wk Go.Pc
theorem concat2 {a b:List Int} (ha:a.length ≤ 1000) (hb:b.length ≤ 1000):f_s [a,b] = some (a ++ b):=by
 rw [concat_impl (by simp) (by simp;omega)];simp
theorem triv_impl {O:List Int} {N:Nat} (hO:O.length = N) (hN:N ≤ 100):f_y O = some ⟨O,gl N (fun _ => List.replicate N 0),gl N (unC N)⟩:=by
 have hin:∀ i,i < N → loopO (l1_y O) ([],((i + 1:Nat):Int)) = some (unC N i):=fun i hi => by
  have:=loopO_seq (body:=l1_y O) (r:=unC N i) (fun j => (gl j fun j => unitv N (i + 1 + j),((i + 1 + j:Nat):Int))) (N - 1 - i) (fun j hj => by
   unfold l1_y
   simp only
   rw [hO,lt_t (by omega),cnd_t,unitVector_impl (by omega) (by omega),bs,appO_of (by rw [gl_len];simp;omega),bs,rng_of (by omega) (by omega),bs,cs,gl_snoc (F:=fun j => unitv N (i + 1 + j))];rfl) (by
   unfold l1_y
   simp only
   rw [hO,show i + 1 + (N - 1 - i) = N from by omega,lt_f,cnd_f,unC])
  exact this
 have:=loopO_seq (body:=l2_y O) (r:=(gl N (fun _ => List.replicate N 0),gl N (unC N))) (fun i => (gl i (fun _ => List.replicate N (0:Int)),gl i (unC N),((i:Nat):Int))) N (fun i hi => by
  unfold l2_y
  simp only
  rw [hO,lt_t hi,cnd_t,lenOk_nat (by omega),bs,appO_of (by rw [gl_len];simp;omega),bs,rng_of (by omega) (by omega),bs,cs,hin i hi,bs,appO_of (by rw [gl_len];simp;omega),bs,bs,gl_snoc (F:=unC N),gl_snoc (F:=fun _ => List.replicate N (0:Int))]) (by
  unfold l2_y
  simp only
  rw [hO,lt_f,cnd_f])
 unfold f_y
 rw [clone_impl (by omega),bs]
 have e:loopO (l2_y O) ([],[],0) = some (gl N (fun _ => List.replicate N 0),gl N (unC N)):=this
 rw [e,bs]
section
variable {n D:Nat} {x:SPr} {m:SModule} {T:Mx} (h:ExOk n D x m T)
 include h
def exG (n N:Nat) (x:SPr) (m:SModule) (T:Mx) (i t q:Nat):List Int:=if q < t then exF n x m T i q else unitv N (i + 1 + q)
def exE (n D:Nat) (x:SPr) (m:SModule) (T:Mx) (i t k:Nat):Mx:=if k < i then exC n D x m T k else if k = i then gl (n + D - 1 - i) (exG n (n + D) x m T i t) else unC (n + D) k
theorem exE_at {i t:Nat}:exE n D x m T i t i = gl (n + D - 1 - i) (exG n (n + D) x m T i t):=by
 have _:=h
 rw [exE,if_neg (by omega),if_pos rfl]
theorem exE_set {i t:Nat}:(gl (n + D) (exE n D x m T i t)).set i ((gl (n + D - 1 - i) (exG n (n + D) x m T i t)).set t (exF n x m T i t)) = gl (n + D) (exE n D x m T i (t + 1)):=by
 have _:=h
 rw [gl_set,gl_set]
 refine gl_congr fun k _ => ?_
 by_cases hk:k = i
 ·subst hk
  rw [if_pos rfl,exE_at h]
  refine gl_congr fun q _ => ?_
  simp only [exG]
  by_cases hq:q = t
  ·subst hq;rw [if_pos rfl,if_pos (by omega)]
  ·rw [if_neg hq]
   by_cases h2:q < t
   ·rw [if_pos h2,if_pos (by omega)]
   ·rw [if_neg h2,if_neg (by omega)]
 ·rw [if_neg hk,exE,exE,if_neg hk,if_neg hk]
theorem exE_zero {i k:Nat}:exE n D x m T i 0 k = if k < i then exC n D x m T k else unC (n + D) k:=by
 have _:=h
 rw [exE]
 by_cases h1:k < i
 ·rw [if_pos h1,if_pos h1]
 ·rw [if_neg h1,if_neg h1]
  by_cases h2:k = i
  ·subst h2
   rw [if_pos rfl]
   exact gl_congr fun q _ => by rw [exG,if_neg (by omega)]
  ·rw [if_neg h2]
theorem exE_next {i:Nat} (hi:i < n):gl (n + D) (exE n D x m T i (n + D - 1 - i)) = gl (n + D) (exE n D x m T (i + 1) 0):=by
 refine gl_congr fun k _ => ?_
 rw [exE_zero h,exE]
 by_cases h1:k < i
 ·rw [if_pos h1,if_pos (by omega)]
 ·rw [if_neg h1]
  by_cases h2:k = i
  ·subst h2
   rw [if_pos rfl,if_pos (by omega),exC,if_pos hi]
   exact gl_congr fun q hq => by rw [exG,if_pos hq]
  ·rw [if_neg h2,if_neg (by omega)]
theorem im_l2 {i:Nat} (hi:i < n) {C:List Mx} {w:Int}:loopO (l2_k T (C,w,(i:Int)) (x.Conjugates.getD i [])) (gl (n + D) (exE n D x m T i 0),((base n i:Nat):Int),0) = some (gl (n + D) (exE n D x m T i (n - 1 - i)),((base n (i + 1):Nat):Int)):=by
 have h6:=h.hn
 have h3:=h.m.d3
 have hc:=h.cl i hi
 have hb:=base_le n (by omega) i hi
 have hbb:=base_big n (by omega)
 have:=loopO_seq (body:=l2_k T (C,w,(i:Int)) (x.Conjugates.getD i [])) (r:=(gl (n + D) (exE n D x m T i (n - 1 - i)),((base n (i + 1):Nat):Int))) (fun j => (gl (n + D) (exE n D x m T i j),((base n i + j:Nat):Int),((j:Nat):Int))) (n - 1 - i) (fun j hj => by
  have a1:=h.ce i j
  have a2:=h.tl (base n i + j)
  have e:exF n x m T i j = (x.Conjugates.getD i []).getD j [] ++ T.getD (base n i + j) []:=if_pos hj
  unfold l2_k
  simp only
  rw [hc,lt_t hj,cnd_t,ixO_d [] (by omega),bs,gl_ix (by omega),bs,ixO_d [] (by rw [h.t];omega),bs,concat2 (by omega) (by omega),bs,exE_at h,gl_ix (by omega),bs,rng_of (by omega) (by omega),bs,rng_of (by omega) (by omega),bs,cs,cs,← e,Int.toNat_natCast,Int.toNat_natCast,exE_set h];rfl) (by
  unfold l2_k
  simp only
  rw [hc,lt_f,cnd_f,base_succ n (by omega) i hi])
 exact this
theorem im_l3 {i:Nat} (hi:i < n) {C:List Mx} {w:Int}:loopO (l3_k x (C,w,(i:Int)) (m.Actions.getD i [])) (gl (n + D) (exE n D x m T i (n - 1 - i)),0) = some (gl (n + D) (exE n D x m T (i + 1) 0)):=by
 have h6:=h.hn
 have h3:=h.m.d3
 have hmt:=h.m.mat i hi
 have:=loopO_seq (body:=l3_k x (C,w,(i:Int)) (m.Actions.getD i [])) (r:=gl (n + D) (exE n D x m T (i + 1) 0)) (fun j => (gl (n + D) (exE n D x m T i (n - 1 - i + j)),((j:Nat):Int))) D (fun j hj => by
  have e:exF n x m T i (n - 1 - i + j) = List.replicate n 0 ++ (m.Actions.getD i []).getD j []:=by
   rw [exF,if_neg (by omega),show n - 1 - i + j - (n - 1 - i) = j from by omega]
  have hr:=(hmt.2 j hj).1
  unfold l3_k
  simp only
  rw [hmt.1,lt_t hj,cnd_t,ixO_d [] (by rw [hmt.1];exact hj),bs,gl_ix (by omega),bs,h.o,rng_of (by omega) (by omega),bs,rng_of (by omega) (by omega),bs,rng_of (by omega) (by omega),bs,show (0:Int) = ((0:Nat):Int) from rfl,padded_impl (by omega) (by omega) (by omega),bs,
   show (n:Int) - 1 - (i:Int) + (j:Int) = ((n - 1 - i + j:Nat):Int) from by omega,exE_at h,gl_ix (by omega),bs,rng_of (by omega) (by omega),bs,cs,List.replicate_zero,List.append_nil,← e,Int.toNat_natCast,Int.toNat_natCast,exE_set h];rfl) (by
  unfold l3_k
  simp only
  rw [hmt.1,lt_f,cnd_f,show n - 1 - i + D = n + D - 1 - i from by omega,exE_next h hi])
 exact this
theorem im_l4:loopO (l4_k x m T) (gl (n + D) (unC (n + D)),((n:Nat):Int),0) = some (gl (n + D) (exC n D x m T)):=by
 have h6:=h.hn
 have h3:=h.m.d3
 have hbb:=base_big n (by omega)
 have:=loopO_seq (body:=l4_k x m T) (r:=gl (n + D) (exC n D x m T)) (fun i => (gl (n + D) (exE n D x m T i 0),((base n i:Nat):Int),((i:Nat):Int))) n (fun i hi => by
  unfold l4_k
  simp only
  rw [h.o,lt_t hi,cnd_t,ixO_d [] (by rw [h.c];exact hi),bs,im_l2 h hi,bs,ixO_d [] (by rw [h.m.len];exact hi),bs,im_l3 h hi,bs,rng_of (by omega) (by omega),bs,cs]) (by
  unfold l4_k
  simp only
  rw [h.o,lt_f,cnd_f]
  congr 2
  refine gl_congr fun k _ => ?_
  rw [exE_zero h,exC]
  by_cases hk:k < n
  ·rw [if_pos hk,if_pos hk]
  ·rw [if_neg hk,if_neg hk])
 have e:gl (n + D) (exE n D x m T 0 0) = gl (n + D) (unC (n + D)):=gl_congr fun k _ => by rw [exE_zero h,if_neg (by omega)]
 rw [e,hbb.2.2] at this
 exact this
theorem im_l1:loopO (l1_k x T) (gl (n + D) (fun _ => List.replicate (n + D) 0),0,0) = some (gl (n + D) (exP n D x T),((n:Nat):Int)):=by
 have h6:=h.hn
 have h3:=h.m.d3
 have hbb:=base_big n (by omega)
 have:=loopO_seq (body:=l1_k x T) (r:=(gl (n + D) (exP n D x T),((n:Nat):Int))) (fun i => (gl (n + D) (fun k => if k < i then exP n D x T k else List.replicate (n + D) 0),((i:Nat):Int),((i:Nat):Int))) n (fun i hi => by
  have a1:=h.pl i
  have a2:=h.tl i
  have e:exP n D x T i = x.Powers.getD i [] ++ T.getD i []:=if_pos hi
  unfold l1_k
  simp only
  rw [h.p,lt_t hi,cnd_t,ixO_d [] (by rw [h.p];exact hi),bs,ixO_d [] (by rw [h.t];omega),bs,concat2 (by omega) (by omega),bs,gl_ix (by omega),bs,rng_of (by omega) (by omega),bs,bs,cs,← e,Int.toNat_natCast,gl_set]
  congr 3
  refine gl_congr fun k _ => ?_
  by_cases hk:k = i
  ·subst hk;rw [if_pos rfl,if_pos (by omega)]
  ·rw [if_neg hk]
   by_cases h2:k < i
   ·rw [if_pos h2,if_pos (by omega)]
   ·rw [if_neg h2,if_neg (by omega)]) (by
  unfold l1_k
  simp only
  rw [h.p,lt_f,cnd_f]
  congr 3
  refine gl_congr fun k _ => ?_
  by_cases hk:k < n
  ·rw [if_pos hk]
  ·rw [if_neg hk,exP,if_neg hk])
 have e:gl (n + D) (fun k => if k < 0 then exP n D x T k else List.replicate (n + D) 0) = gl (n + D) (fun _ => List.replicate (n + D) 0):=gl_congr fun k _ => if_neg (by omega)
 rw [e] at this
 exact this
theorem repeat1 {v:Int}:f_i [v] 1 = some [v]:=by
 have _:=h
 unfold f_i
 have h1:=loopO_seq (body:=l1_i) (r:=[v]) (fun _ => ([v],1)) 0 (fun i hi => absurd hi (by omega)) (by simp [l1_i])
 rw [mulw (by decide +kernel),bs]
 have hl:lenOk (IntKind.wrap .i64 1) = some 1:=by decide +kernel
 simp only [hl,bs]
 rw [show decide ((1:Int) < 0) = false from rfl,cnd_f,show decide ((0:Int) > 0) = false from rfl,cnd_f,show decide ((1:Int) > 9223372036854775807) = false from by decide,cnd_f]
 have e2:splice (List.replicate 1 (0:Int)) 0 (([v]:List Int).take ((List.replicate 1 (0:Int)).length - 0)) = [v]:=by simp [splice,List.replicate]
 have e3:((min ([v]:List Int).length ((List.replicate 1 (0:Int)).length - 0):Nat):Int) = 1:=by simp
 rw [e2,e3]
 have h':loopO l1_i ([v],1) = _:=h1
 rw [h',bs]
theorem repeatD {v:Int}:f_i [v] m.Dim = some (List.replicate D v):=by
 have h1:=h.m.d1
 have h3:=h.m.d3
 rw [h.m.d]
 have:D = 1 ∨ D = 2 ∨ D = 3:=by omega
 rcases this with rfl | rfl | rfl
 ·exact repeat1 h
 ·exact repeat_impl (.inl rfl)
 ·exact repeat_impl (.inr (.inl rfl))
theorem ext_impl:f_k x m T = some (ext n D x m T):=by
 have h6:=h.hn
 have h3:=h.m.d3
 unfold f_k
 rw [clone_impl (by rw [h.o];omega),bs,repeatD h,bs,appO_of (by rw [h.o];simp;omega),bs,triv_impl (N:=n + D) (by rw [List.length_append,h.o];simp) (by omega),bs]
 simp only
 rw [im_l1 h,bs,im_l4 h,bs]
 rfl
end
end Go.Pl

namespace Go.Pl
open Go Go.Ab Go.Wk Go.Pc
theorem sm_le {α:Type} {c:α → Nat} {b:Nat}:∀ {xs:List α},(∀ x ∈ xs,c x ≤ b) → sm c xs ≤ xs.length * b
 | [],_ => by simp [sm]
 | x :: xs,h => by
  have h1:=sm_le (xs:=xs) fun y hy => h y (by simp [hy])
  have h2:=h x (by simp)
  simp only [sm,List.length_cons,Nat.succ_mul];omega
theorem gd_len {xs:Mx} {b:Nat} (h:∀ i,i < xs.length → (xs.getD i []).length ≤ b) (i:Nat):(xs.getD i []).length ≤ b:=by
 rcases Nat.lt_or_ge i xs.length with g | g
 ·exact h i g
 ·rw [List.getD_eq_getElem?_getD,List.getElem?_eq_none g];simp
theorem count_spec {x:SPr} {n:Nat} (ho:x.Orders.length = n) (hn:n ≤ 6):f_bn x = some ((base n n:Nat):Int):=by
 unfold f_bn
 rw [ho]
 have key:∀ n:Nat,n < 7 → ((rng ((n:Int) - 1)).bind fun v1 => (rng ((n:Int) * v1)).bind fun v2 => (quoO v2 2).bind fun v3 => (rng ((n:Int) + v3)).bind fun v4 => some v4) = some ((base n n:Nat):Int):=by decide +kernel
 exact key n (by omega)
theorem count_impl {x:SPr} {n:Nat} (ho:x.Orders.length = n) (hn:n ≤ 6):f_bo x = some ((base n n:Nat):Int):=by
 unfold f_bo
 rw [ho]
 have key:∀ n:Nat,n < 7 → ((rng ((n:Int) + 1)).bind fun v1 => (rng ((n:Int) * v1)).bind fun v2 => (quoO v2 2).bind fun v3 => some v3) = some ((base n n:Nat):Int):=by decide +kernel
 exact key n (by omega)
theorem ExOk.of {x:SPr} {m:SModule} {D:Nat} {T:Mx} (hx:PresS x) (hm:MOk x.Orders.length m D) (ht:T.length = base x.Orders.length x.Orders.length) (htl:∀ i,(T.getD i []).length ≤ 3):ExOk x.Orders.length D x m T:=by
 have h6:=hx.n6
 refine ⟨h6,rfl,hx.pl,hx.cl,fun i hi => by have:=(hx.tl i hi).2.1;omega,gd_len fun i hi => ?_,fun i => ?_,ht,htl,hm⟩
 ·have:=(hx.tl i (by rw [← hx.pl];exact hi)).1.1.1
  omega
 ·rcases Nat.lt_or_ge i x.Orders.length with g | g
  ·refine gd_len fun j hj => ?_
   have:=((hx.tl i g).2.2 j hj).1.1
   omega
  ·have e:x.Conjugates.getD i [] = []:=by rw [List.getD_eq_getElem?_getD,List.getElem?_eq_none (by rw [hx.cl];exact g)];rfl
   rw [e];simp
end Go.Pl

namespace Go.Pl
open Go Go.Ab Go.Wk Go.Pc
def totP (x:SPr):Nat:=c1 x.Orders + sm c1 x.Powers + sm (sm c1) x.Conjugates
def markP (x:SPr) (k:Int):SPr:=⟨m1 k x.Orders,m2 (k + c1 x.Orders) x.Powers,m3 (k + c1 x.Orders + sm c1 x.Powers) x.Conjugates⟩
theorem totP_le {x:SPr} (h:SPres x):totP x ≤ 3145728:=by
 obtain ⟨h1,h2,h3⟩:=h
 have g2:=sm2_le (x:=x.Powers)
 have g3:=sm3_le (x:=x.Conjugates)
 simp only [S1] at h1
 simp only [S2] at h2
 simp only [S3] at h3
 simp only [totP];omega
theorem markPresentation_eq {x:SPr} {k:Int} (h:SPres x) (k0:0 ≤ k) (k1:k ≤ 1000000000):f_aW x k = some (k + totP x,markP x k):=by
 have ht:=totP_le h
 simp only [totP] at ht
 unfold f_aW
 rw [markInt64S h.1 k0 (by omega),bs,markInt64SS h.2.1 (by simp only;omega) (by simp only;omega),bs,markInt64SSS h.2.2 (by simp only;omega) (by simp only;omega),bs]
 simp only [totP,markP,Int.natCast_add,Int.add_assoc]
end Go.Pl

namespace Go.Pl
open Go Go.Ab Go.Wk Go.Pc
end Go.Pl

namespace Go.Pl
open Go Go.Ab Go.Wk Go.Pc
end Go.Pl

namespace Go.Pl
open Go Go.Ab Go.Wk Go.Pc
theorem index_impl {v:List Int} {k:Nat} (hl:v.length ≤ 1000000) (hk:k < v.length) (h0:∀ j,j < k → at0 v j = 0) (h1:at0 v k ≠ 0):f_ad v = some (k:Int):=by
 unfold f_ad
 have:=loopO_seq (body:=l1_ad v) (r:=.inr (k:Int)) (fun i => (i:Int)) k (fun i hi => by
  unfold l1_ad f_bp
  rw [lt_t (by omega),cnd_t,ixO_at (by omega),bs,bs,h0 i hi,bne_self_eq_false,cnd_f,rng_of (by omega) (by omega),bs,cs]) (by
  unfold l1_ad f_bp
  rw [lt_t hk,cnd_t,ixO_at hk,bs,bs,bne_t h1,cnd_t])
 have e:loopO (l1_ad v) 0 = some (.inr (k:Int)):=this
 rw [e,bs]
section
variable {p:Int} (hp:Prime p) {n:Nat} (hn:n ≤ 100000) {R:Mx} {pv:Nat → Nat} (h:Red p n R pv) {v:List Int} (hv:Row p n v)
 include hp hn h
theorem pivots_impl (hm:R.length ≤ 100000):f_W R = some (gl R.length fun i => (pv i:Int)):=by
 have h7:=hp.pos
 unfold f_W
 rw [map_loop (body:=l1_W R) R.length (fun i => (pv i:Int)) (fun i acc hi ha => by
  have hr:=h.row i hi
  have h1:=h.one i hi
  unfold l1_W
  simp only
  rw [lt_t hi,cnd_t,ixO_d [] hi,bs,index_impl (k:=pv i) (by rw [hr.1];omega) (by rw [hr.1];exact h.lt i hi) (fun j hj => h.low i hi j hj) (by simp only [ent] at h1;omega),bs,appO_of (by simp;omega),bs,rng_of (by omega) (by omega),bs,cs]) (fun acc => by
  unfold l1_W
  simp only
  rw [lt_f,cnd_f]),bs]
 include hv
theorem cl_neg {i:Nat} (hi:i < R.length):addM p n (cl p n R pv v i) (0 - at0 (cl p n R pv v i) (pv i)) (R.getD i []) = cl p n R pv v (i + 1):=by
 have _:=hp;have _:=hn;have _:=h;have _:=hv;have _:=hi
 rw [cl]
 refine mkv_congr fun j _ => ?_
 generalize at0 (cl p n R pv v i) (pv i) = a
 generalize at0 (R.getD i []) j = b
 rw [Int.sub_mul,Int.sub_mul,Int.zero_mul]
 have e:at0 (cl p n R pv v i) j + (p * b - a * b) = at0 (cl p n R pv v i) j + (0 - a * b) + p * b:=by omega
 rw [e,Int.add_mul_emod_self_left]
theorem remainder_impl {c:Int} (hm:R.length ≤ 100000):f_aq (SMatrix.mk p c R) v = some (cl p n R pv v R.length):=by
 have h7:=hp.pos
 have:=loopO_seq (body:=l1_aq (SMatrix.mk p c R) (gl R.length fun i => (pv i:Int))) (r:=cl p n R pv v R.length) (fun i => (cl p n R pv v i,(i:Int))) R.length (fun i hi => by
  have hr:=cl_row hp hn h hv i
  have ha:=hr.2 (pv i) (h.lt i hi)
  unfold l1_aq
  simp only
  rw [gl_len,lt_t hi,cnd_t,gl_ix hi,bs,ixO_d [] hi,bs,ixO_at (by rw [hr.1];exact h.lt i hi),bs,rng_of (by omega) (by omega),bs,addM_impl hp hr (h.row i hi) (by omega) (by omega),bs,rng_of (by omega) (by omega),bs,cs,cl_neg hp hn h hv hi]) (by
  unfold l1_aq
  simp only
  rw [gl_len,lt_f,cnd_f])
 unfold f_aq
 rw [clone_impl (by rw [hv.1];omega),bs]
 simp only
 rw [pivots_impl hp hn h hm,bs]
 have e:loopO (l1_aq (SMatrix.mk p c R) (gl R.length fun i => (pv i:Int))) (v,0) = some (cl p n R pv v R.length):=this
 rw [e,bs]
end
end Go.Pl

namespace Go.Pl
open Go Go.Ab Go.Wk Go.Pc
end Go.Pl

namespace Go.Pl
open Go Go.Ab Go.Wk Go.Pc
end Go.Pl

namespace Go.Pl
open Go Go.Ab Go.Wk Go.Pc
theorem at0_app {u v:List Int} {j:Nat}:at0 (u ++ v) j = if j < u.length then at0 u j else at0 v (j - u.length):=by
 simp only [at0,List.getD_eq_getElem?_getD]
 split
 ·next h => rw [List.getElem?_append_left h]
 ·next h => rw [List.getElem?_append_right (by omega)]
theorem at0_drop {v:List Int} {c j:Nat}:at0 (v.drop c) j = at0 v (c + j):=by
 simp only [at0,List.getD_eq_getElem?_getD,List.getElem?_drop]
theorem at0_take {v:List Int} {c j:Nat} (h:j < c):at0 (v.take c) j = at0 v j:=by
 simp only [at0,List.getD_eq_getElem?_getD,List.getElem?_take,if_pos h]
theorem S_shift {f:Nat → Int} (t:Nat):∀ d:Nat,S (t + d) f = S t f + S d (fun i => f (t + i))
 | 0 => by simp [S]
 | d + 1 => by rw [← Nat.add_assoc];simp only [S];rw [S_shift t d];omega
theorem gl_getD {F:Nat → List Int} {m i:Nat} (h:i < m):(gl m F).getD i [] = F i:=by simp [gl,List.getD_eq_getElem?_getD,h]
end Go.Pl

namespace Go.Pl
open Go Go.Ab Go.Wk Go.Pc
end Go.Pl

namespace Go.Pl
open Go Go.Ab Go.Wk Go.Pc
end Go.Pl

namespace Go.Pl
open Go Go.Ab Go.Wk Go.Pc
section
variable {n D:Nat} {m:SModule} (hm:MOk n m D) (hn:n ≤ 9)
 include hm hn
def Vecs (m:SModule) (D:Nat) (rows:Mx):Prop:=∀ i,i < rows.length → Row m.Prime D (rows.getD i [])
theorem vectors_spec {rows:Mx} (hl:rows.length ≤ 1048576):IsB (f_aO m rows) (Vecs m D rows):=by
 have _:=hn
 have h3:=hm.d3
 refine all_fn (body:=l1_aO m rows) rows.length (fun i => Row m.Prime D (rows.getD i [])) rfl (fun i hi _ => ?_) ?_
 ·refine one_chk (vector_spec hm.p (D:=D) (by omega)) (by omega) ?_
  unfold l1_aO
  rw [lt_t hi,cnd_t,ixO_d [] hi,bs,hm.d]
 ·unfold l1_aO
  rw [lt_f,cnd_f]
end
end Go.Pl

namespace Go.Pl
open Go Go.Ab Go.Wk Go.Pc
end Go.Pl

namespace Go.Pl
open Go Go.Ab Go.Wk Go.Pc
end Go.Pl

namespace Go.Pl
open Go Go.Ab Go.Wk Go.Pc
end Go.Pl

namespace Go.Pl
open Go Go.Ab Go.Wk Go.Pc
theorem iter_fix {α:Type} {f:α → α} {a:α} (h:f a = a):∀ k,iter k f a = a
 | 0 => rfl
 | k + 1 => by show iter k f (f a) = a;rw [h];exact iter_fix h k
theorem wM_img {p:Int} {D:Nat} {A:List Mx}:∀ (v:Vec) (o:Nat) (B:Mx),o + v.length ≤ A.length → wM p D A (nw o v) B = img (PM p D) (A.drop o) v B
 | [],o,B,_ => by simp [nw,wM,img]
 | a :: v,o,B,h => by
  simp only [List.length_cons] at h
  have e:A.drop o = A.getD o [] :: A.drop (o + 1):=by
   rw [List.drop_eq_getElem_cons (by omega),List.getD_eq_getElem?_getD,List.getElem?_eq_getElem (by omega)];rfl
  rw [e]
  simp only [nw,img]
  rw [wM_append,wM_rep,wM_img v (o + 1) _ (by omega)]
theorem nw_zeros:∀ (k o:Nat),nw o (zeros k) = []
 | 0,_ => rfl
 | k + 1,o => by
  rw [show zeros (k + 1) = 0 :: zeros k from rfl]
  simp only [nw]
  rw [nw_zeros k];rfl
section
variable {x:SPr} {m:SModule} {D:Nat} (h:Pres x) (hm:MOk x.Orders.length m D) (hr:RelM x m D)
 include hm
theorem mon_mat:Mon (Mat m.Prime D) (PM m.Prime D) (idM D):=by
 have h7:=hm.p.pos
 exact ⟨fun ha _ => PM_mat (by omega) ha.1,idM_mat (by omega),fun ha hb _ => PM_assoc ha.1 hb.1,fun ha => id_left ha,fun ha => id_right ha⟩
 include h hr
theorem rel_mat:∀ (d k:Nat),k + d = x.Orders.length → Rel (PM m.Prime D) (idM D) (suf x k) (m.Actions.drop k)
 | 0,k,hk => by
  rw [suf_nil (by omega),List.drop_of_length_le (by rw [hm.len];omega)];exact rfl
 | d + 1,k,hkd => by
  have h6:=h.os.1
  have hk:k < x.Orders.length:=by omega
  have hlen:=hm.len
  have e:m.Actions.drop k = m.Actions.getD k [] :: m.Actions.drop (k + 1):=by
   rw [List.drop_eq_getElem_cons (by omega),List.getD_eq_getElem?_getD,List.getElem?_eq_getElem (by omega)];rfl
  obtain ⟨t1,t2,t3⟩:=h.tl k hk
  obtain ⟨r1,r2⟩:=hr k hk
  have hword:∀ v,Exp x.Orders v k → wM m.Prime D m.Actions (nw 0 v) (idM D) = img (PM m.Prime D) (m.Actions.drop (k + 1)) (v.drop (k + 1)) (idM D):=fun v hv => by
   have hl:=hv.1.1
   conv => lhs;rw [exp_split hv hk]
   rw [nw_append,nw_zeros,List.nil_append,zeros_length,wM_img _ _ _ (by rw [List.length_drop];omega),Nat.zero_add]
  rw [suf_cons hk,e]
  refine ⟨?_,fun q c dd hc hd => ?_,rel_mat d (k + 1) (by omega)⟩
  ·show pw (PM m.Prime D) (idM D) (m.Actions.getD k []) (lvl x k).o.toNat = img (PM m.Prime D) (m.Actions.drop (k + 1)) ((x.Powers.getD k []).drop (k + 1)) (idM D)
   rw [← hword _ t1,← r1,wM_rep]
   rfl
  ·rw [List.getElem?_drop] at hc
   have hq:k + 1 + q < m.Actions.length:=by
    rcases Nat.lt_or_ge (k + 1 + q) m.Actions.length with g | g
    ·exact g
    ·rw [List.getElem?_eq_none g] at hc;simp at hc
   have hcm:c = m.Actions.getD (k + 1 + q) []:=by rw [List.getD_eq_getElem?_getD,hc];rfl
   have hdm:dd = ((x.Conjugates.getD k []).getD q []).drop (k + 1):=by
    simp only [lvl,List.getElem?_map] at hd
    rw [List.getD_eq_getElem?_getD]
    cases hg:(x.Conjugates.getD k [])[q]? with
    | none => rw [hg] at hd;simp at hd
    | some u => rw [hg] at hd;simp only [Option.map_some,Option.some.injEq] at hd;exact hd.symm
   have:=r2 (k + 1 + q) (by omega) (by omega)
   rw [show k + 1 + q - (k + 1) = q from by omega] at this
   rw [hcm,hdm,this,hword _ (t3 q (by omega))]
end
end Go.Pl

namespace Go.Pl
open Go Go.Ab Go.Wk Go.Pc
end Go.Pl

namespace Go.Pl
open Go Go.Ab Go.Wk Go.Pc
end Go.Pl

namespace Go.Pl
open Go Go.Ab Go.Wk Go.Pc
section
variable {x:SPr} (h:Pres x)
 include h
theorem R2_sum:∀ k,k ≤ x.Orders.length → 2 * ((List.range k).flatMap (R2 x)).length + k * k + k = 2 * (x.Orders.length * k)
 | 0,_ => by simp
 | k + 1,hk => by
  have ih:=R2_sum k (by omega)
  have t2:=(h.tl k (by omega)).2.1
  have e:((List.range (k + 1)).flatMap (R2 x)).length = ((List.range k).flatMap (R2 x)).length + (x.Conjugates.getD k []).length:=by
   rw [List.range_succ,List.flatMap_append,List.length_append]
   simp [R2]
  have e3:(k + 1) * (k + 1) = k * k + 2 * k + 1:=by rw [Nat.mul_succ (k + 1) k,Nat.succ_mul k k];omega
  have e4:x.Orders.length * (k + 1) = x.Orders.length * k + x.Orders.length:=Nat.mul_succ _ _
  rw [e,e3,e4]
  omega
theorem relsN_len:2 * (relsN x).length = x.Orders.length * (x.Orders.length + 1):=by
 have:=R2_sum h x.Orders.length (Nat.le_refl _)
 simp only [relsN,List.length_append,List.length_map,List.length_range]
 rw [Nat.mul_succ]
 omega
end
theorem parts_len {α:Type} {F:α → List Int} {D:Nat}:∀ (L:List α),(∀ q ∈ L,(F q).length = D) → ((L.map F).flatten).length = L.length * D
 | [],_ => by simp
 | y :: L,h => by
  have:=parts_len L fun q hq => h q (by simp [hq])
  have:=h y (by simp)
  simp only [List.map_cons,List.flatten_cons,List.length_append,List.length_cons,Nat.succ_mul];omega
def prows {α:Type} (N:Nat) (F:Nat → α → List Int) (L:List α):Mx:=gl N fun k => (L.map (F k)).flatten
section
variable {α:Type} {p:Int} {N D:Nat} {F:Nat → α → List Int} (hF:∀ k,k < N → ∀ q,Row p D (F k q))
 include hF
theorem prows_row (L:List α):∀ k,k < N → Row p (L.length * D) ((prows N F L).getD k []):=by
 intro k hk
 rw [prows,gl_getD hk]
 refine row_iff.2 ⟨parts_len L fun q _ => (hF k hk q).1,fun v hv => ?_⟩
 obtain ⟨r,h1,h2⟩:=List.mem_flatten.1 hv
 obtain ⟨q,_,rfl⟩:=List.mem_map.1 h1
 exact (row_iff.1 (hF k hk q)).2 v h2
end
def cutM (n D:Nat) (v:List Int):Mx:=gl n fun i => mkv D fun j => at0 v (i * D + j)
theorem cut_part {v:List Int} {D a:Nat} (h:a + D ≤ v.length):(v.drop a).take D = mkv D fun j => at0 v (a + j):=by
 have hl:((v.drop a).take D).length = D:=by rw [List.length_take,List.length_drop];omega
 rw [mkv_eq hl]
 exact mkv_congr fun j hj => by rw [at0_take hj,at0_drop]
theorem cut_slice {v:List Int} {D a:Nat} (h:a + D ≤ v.length):sliceO v (a:Int) ((a + D:Nat):Int) = some (mkv D fun j => at0 v (a + j)):=by
 unfold sliceO
 rw [if_pos ⟨by omega,by omega,by omega⟩,Int.toNat_natCast,Int.toNat_natCast,Nat.add_sub_cancel_left,cut_part h]
theorem cut_ok {p:Int} {n D:Nat} {v:List Int} (hv:Row p (n * D) v):VOk n p D (cutM n D v):=by
 refine ⟨gl_len,fun i hi => ?_⟩
 rw [cutM,gl_getD hi]
 refine ⟨mkv_length _ _,fun j hj => ?_⟩
 rw [mkv_at hj]
 have:i * D + D ≤ n * D:=by
  have:=Nat.mul_le_mul_right D (show i + 1 ≤ n by omega)
  rw [Nat.succ_mul] at this;exact this
 exact hv.2 _ (by omega)
end Go.Pl

namespace Go.Pl
open Go Go.Ab Go.Wk Go.Pc
end Go.Pl

namespace Go.Pl
open Go Go.Ab Go.Wk Go.Pc
theorem part_le {n D i:Nat} (hi:i < n):i * D + D ≤ n * D:=by
 have:=Nat.mul_le_mul_right D (show i + 1 ≤ n by omega)
 rw [Nat.succ_mul] at this;exact this
theorem split_impl {n D:Nat} (hD:1 ≤ D) {v:List Int} (hl:v.length = n * D) (hs:n * D ≤ 100000):f_X v (D:Int) = some (cutM n D v):=by
 have hn:n ≤ n * D:=Nat.le_mul_of_pos_right n hD
 have:=loopO_seq (body:=l1_X v (D:Int)) (r:=cutM n D v) (fun i => (gl i fun i => mkv D fun j => at0 v (i * D + j),((i * D:Nat):Int))) n (fun i hi => by
  have h1:=part_le (D:=D) hi
  unfold l1_X
  simp only
  rw [decide_eq_true (by omega),cnd_t,← Int.natCast_add,rng_of (by omega) (by omega),bs,cut_slice (by omega),bs,clone_impl (by rw [mkv_length];omega),bs,appO_of (by rw [gl_len];simp;omega),bs,bs,gl_snoc,← Nat.succ_mul]) (by
  unfold l1_X
  simp only
  rw [decide_eq_false (by omega),cnd_f];rfl)
 unfold f_X
 rw [show ((0 * D:Nat):Int) = 0 from by simp] at this
 have e:loopO (l1_X v (D:Int)) ([],0) = some (cutM n D v):=this
 rw [e,bs]
theorem cut_spec {n D:Nat} (hD:1 ≤ D) (hD3:D ≤ 1000) {v:List Int} (hl:v.length = n * D) (hs:n * D ≤ 100000):f_Y v (D:Int) = some (cutM n D v):=by
 have hn:n ≤ n * D:=Nat.le_mul_of_pos_right n hD
 have:=loopO_seq (body:=l1_Y v (D:Int)) (r:=cutM n D v) (fun i => (gl i fun i => mkv D fun j => at0 v (i * D + j),((i * D:Nat):Int))) n (fun i hi => by
  have h1:=part_le (D:=D) hi
  unfold l1_Y
  simp only
  rw [← Int.natCast_add,rng_of (by omega) (by omega),bs,decide_eq_true (by omega),cnd_t,bs,cut_slice (by omega),bs,own_spec (by rw [mkv_length];omega),bs,appO_of (by rw [gl_len];simp;omega),bs,bs,gl_snoc,← Nat.succ_mul]) (by
  unfold l1_Y
  simp only
  rw [← Int.natCast_add,rng_of (by omega) (by omega),bs,decide_eq_false (by omega),cnd_f];rfl)
 unfold f_Y
 rw [show ((0 * D:Nat):Int) = 0 from by simp] at this
 have e:loopO (l1_Y v (D:Int)) ([],0) = some (cutM n D v):=this
 rw [e,bs]
section
variable {x:SPr} (h:Pres x) {m:SModule} {D:Nat} (hm:MOk x.Orders.length m D)
 include h hm
section
variable {vals:Mx} (hv:VOk x.Orders.length m.Prime D vals)
 include hv
theorem delta_spec:f_n x m vals = some ((relsN x).map (dfc m D vals)):=by
 have h6:=h.os.1
 have h7:=hm.p.pos
 have h3:=hm.d3
 have hpl:=h.pl
 have hcl:=h.cl
 have hz:=z0_row (p:=m.Prime) (D:=D) (by omega)
 unfold f_n
 rw [hm.d,lenOk_nat (by omega),bs]
 have e1:=map_loop (body:=l2_n x m vals D) x.Orders.length (fun i => dfc m D vals (r1 x i)) (fun i acc hi ha => by
  obtain ⟨p1,p2⟩:=exp_small h.os (h.tl i hi).1
  have ho:=(h.os.2 i hi).pos
  unfold l2_n
  simp only
  rw [lt_t hi,cnd_t]
  rw [iter_loop' (S:=Row m.Prime D) (body:=l1_n x m vals (acc,(i:Int))) (fun v => v) (fun v => stp m D vals v i) (at0 x.Orders i) (by omega) (fun v _ => stp_row hm h6 hv) (fun u q hu hq => by
   unfold l1_n
   simp only
   rw [ixO_at hi,bs,decide_eq_true hq,cnd_t,step_spec hm h6 hv hu hi,bs,rng_of (by omega) (by omega),bs,cs]) (fun u hu => by
   unfold l1_n
   simp only
   rw [ixO_at hi,bs,decide_eq_false (by omega),cnd_f]) hz,bs,rng_of (by omega) (by omega),bs,ixO_d [] (by omega),bs,behind_spec hm h6 hv hz p1 p2,bs,← ev_rep]
  have e1:f_m m.Prime (ev m D vals (z0 D) (List.replicate (at0 x.Orders i).toNat i)) (m.Prime - 1) (ev m D vals (z0 D) (nw 0 (x.Powers.getD i []))) = some (dfc m D vals (r1 x i)):=by
   rw [l02Add_spec hm.p (ev_row hm h6 hv hz _) (ev_row hm h6 hv hz _) (by omega) (by omega),addM_minus];rfl
  rw [e1,bs,appO_of (by simp;omega),bs,rng_of (by omega) (by omega),bs,cs]) (fun acc => by
  unfold l2_n
  simp only
  rw [lt_f,cnd_f])
 rw [e1,bs]
 have hfm:=fm_len h
 have e2:=loopO_seq (body:=l4_n x m vals D) (r:=(relsN x).map (dfc m D vals)) (fun i => (((List.range x.Orders.length).map (fun i => dfc m D vals (r1 x i))) ++ ((List.range i).flatMap (R2 x)).map (dfc m D vals),(i:Int))) x.Orders.length (fun i hi => by
  have t2:=(h.tl i hi).2.1
  have hfi:=hfm i (by omega)
  unfold l4_n
  simp only
  rw [lt_t hi,cnd_t,rng_of (by omega) (by omega),bs,cs]
  have hin:=loopO_seq (body:=l3_n x m vals D (((List.range x.Orders.length).map (fun i => dfc m D vals (r1 x i))) ++ ((List.range i).flatMap (R2 x)).map (dfc m D vals),(i:Int)))
   (r:=((List.range x.Orders.length).map (fun i => dfc m D vals (r1 x i))) ++ ((List.range (i + 1)).flatMap (R2 x)).map (dfc m D vals))
   (fun j => (((List.range x.Orders.length).map (fun i => dfc m D vals (r1 x i))) ++ ((List.range i).flatMap (R2 x)).map (dfc m D vals) ++ (List.range j).map (fun j => dfc m D vals (r2 x i j)),((i + 1 + j:Nat):Int))) (x.Conjugates.getD i []).length (fun j hj => by
   obtain ⟨c1,c2⟩:=exp_small h.os ((h.tl i hi).2.2 j hj)
   have hjn:i + 1 + j < x.Orders.length:=by omega
   have s1:=step_spec hm h6 hv hz hjn
   have s2:=step_spec hm h6 hv (stp_row hm h6 hv (v:=z0 D) (w:=i + 1 + j)) hi
   have s3:=step_spec hm h6 hv hz hi
   have s4:=behind_spec hm h6 hv (stp_row hm h6 hv (v:=z0 D) (w:=i)) c1 c2
   unfold l3_n
   simp only
   rw [lt_t hjn,cnd_t,s1,bs,s2,bs,s3,bs,ixO_d [] (by omega),bs,rng_of (by omega) (by omega),bs,rng_of (by omega) (by omega),bs,show (((i + 1 + j:Nat):Int) - (i:Int) - 1) = (j:Int) from by omega,ixO_d [] hj,bs,s4,bs,rng_of (by omega) (by omega),bs]
   have e2:f_m m.Prime (stp m D vals (stp m D vals (z0 D) (i + 1 + j)) i) (m.Prime - 1) (ev m D vals (stp m D vals (z0 D) i) (nw 0 ((x.Conjugates.getD i []).getD j []))) = some (dfc m D vals (r2 x i j)):=by
    rw [l02Add_spec hm.p (stp_row hm h6 hv) (ev_row hm h6 hv (stp_row hm h6 hv) _) (by omega) (by omega),addM_minus]
    simp only [dfc,r2,ev,List.foldl_cons,List.foldl_nil]
    rw [show i + j + 1 = i + 1 + j from by omega]
   rw [e2,bs,appO_of (by simp only [List.length_append,List.length_map,List.length_range,List.length_singleton];omega),bs,rng_of (by omega) (by omega),bs,cs,List.range_succ,List.map_append,List.append_assoc]
   rfl) (by
   unfold l3_n
   simp only
   rw [show i + 1 + (x.Conjugates.getD i []).length = x.Orders.length from by omega,lt_f,cnd_f,List.range_succ (n:=i),List.flatMap_append,List.map_append,← List.append_assoc]
   simp [R2])
  simp only [List.range_zero,List.map_nil,List.append_nil,Nat.add_zero] at hin
  rw [hin,bs,bs]) (by
  unfold l4_n
  simp only
  rw [lt_f,cnd_f]
  simp only [relsN,List.map_append,List.map_map]
  rfl)
 simp only [List.range_zero,List.flatMap_nil,List.map_nil,List.append_nil] at e2
 have e3:loopO (l4_n x m vals D) ((List.range x.Orders.length).map (fun i => dfc m D vals (r1 x i)),0) = some ((relsN x).map (dfc m D vals)):=e2
 rw [e3,bs]
end
def uv (n D k:Nat):Mx:=cutM n D (unitv (n * D) k)
theorem uv_ok {k:Nat}:VOk x.Orders.length m.Prime D (uv x.Orders.length D k):=by
 have _:=h
 have h7:=hm.p.pos
 exact cut_ok (unitv_row h7.1)
theorem uv_row:∀ k,k < x.Orders.length * D → ∀ q,Row m.Prime D (dfc m D (uv x.Orders.length D k) q):=fun k _ q => by
 have _:=h
 exact addM_row hm.p
theorem uv_split {k:Nat}:f_X (unitv (x.Orders.length * D) k) (D:Int) = some (uv x.Orders.length D k):=by
 have h6:=h.os.1
 have h3:=hm.d3
 have hnd:x.Orders.length * D ≤ 9 * 3:=Nat.mul_le_mul h6 h3
 exact split_impl hm.d1 (mkv_length _ _) (by omega)
theorem uv_cut {k:Nat}:f_Y (unitv (x.Orders.length * D) k) (D:Int) = some (uv x.Orders.length D k):=by
 have h6:=h.os.1
 have h3:=hm.d3
 have hnd:x.Orders.length * D ≤ 9 * 3:=Nat.mul_le_mul h6 h3
 exact cut_spec hm.d1 (by omega) (mkv_length _ _) (by omega)
theorem flat_parts {vals:Mx} {L:List Rl}:((L.map (dfc m D vals)).flatten).length = L.length * D:=by
 have _:=h;have _:=hm
 exact parts_len L fun q _ => addM_len
theorem defectRows_impl:f_ar x m = some (prows (x.Orders.length * D) (fun k => dfc m D (uv x.Orders.length D k)) (relsN x)):=by
 have h6:=h.os.1
 have h3:=hm.d3
 have hnd:x.Orders.length * D ≤ 9 * 3:=Nat.mul_le_mul h6 h3
 have hrl:=rel_len h hm (uv_ok h hm (k:=0))
 have hrD:(relsN x).length * D ≤ 100 * 3:=Nat.mul_le_mul hrl h3
 unfold f_ar
 rw [hm.d,← Int.natCast_mul,rng_of (by omega) (by omega),bs]
 rw [map_loop (body:=l1_ar x m ((x.Orders.length * D:Nat):Int)) (x.Orders.length * D) (fun k => ((relsN x).map (dfc m D (uv x.Orders.length D k))).flatten) (fun k acc hk ha => by
  unfold l1_ar
  simp only
  rw [lt_t hk,cnd_t,unitVector_impl hk (by omega),bs,hm.d,uv_split h hm,bs,defects_impl h hm (uv_ok h hm (k:=k)),bs,concat_impl (by simp;omega) (by rw [flat_parts h hm];omega),bs,appO_of (by simp;omega),bs,rng_of (by omega) (by omega),bs,cs]) (fun acc => by
  unfold l1_ar
  simp only
  rw [lt_f,cnd_f]),bs]
 rfl
theorem unit_flat {k N:Nat}:(List.replicate N (0:Int)).set k 1 = unitv N k:=by
 have _:=h;have _:=hm
 rw [mkv_zero,mkv_set,unitv]
theorem deltas_spec:f_as x m = some (prows (x.Orders.length * D) (fun k => dfc m D (uv x.Orders.length D k)) (relsN x)):=by
 have h6:=h.os.1
 have h3:=hm.d3
 have hnd:x.Orders.length * D ≤ 9 * 3:=Nat.mul_le_mul h6 h3
 have hrl:=rel_len h hm (uv_ok h hm (k:=0))
 have hrD:(relsN x).length * D ≤ 100 * 3:=Nat.mul_le_mul hrl h3
 unfold f_as
 rw [hm.d,← Int.natCast_mul,rng_of (by omega) (by omega),bs]
 rw [map_loop (body:=l1_as x m ((x.Orders.length * D:Nat):Int)) (x.Orders.length * D) (fun k => ((relsN x).map (dfc m D (uv x.Orders.length D k))).flatten) (fun k acc hk ha => by
  unfold l1_as
  simp only
  rw [lt_t hk,cnd_t,lenOk_nat (by omega),bs,ixO_nat,List.getElem?_replicate,if_pos hk,bs,Int.toNat_natCast,unit_flat h hm,hm.d,uv_cut h hm,bs,delta_spec h hm (uv_ok h hm (k:=k)),bs,flat_spec (by simp;omega) (by rw [flat_parts h hm];omega),bs,appO_of (by simp;omega),bs,rng_of (by omega) (by omega),bs,cs]) (fun acc => by
  unfold l1_as
  simp only
  rw [lt_f,cnd_f]),bs]
 rfl
end
end Go.Pl

namespace Go.Pl
open Go Go.Ab Go.Wk Go.Pc
end Go.Pl

namespace Go.Pl
open Go Go.Ab Go.Wk Go.Pc
end Go.Pl

namespace Go.Pl
open Go Go.Ab Go.Wk Go.Pc
theorem mkv_drop {N c:Nat} {f:Nat → Int}:(mkv N f).drop c = mkv (N - c) fun i => f (c + i):=by
 have hl:((mkv N f).drop c).length = N - c:=by rw [List.length_drop,mkv_length]
 rw [mkv_eq hl]
 exact mkv_congr fun j hj => by rw [at0_drop,mkv_at (by omega)]
theorem unit_mkv {n j:Nat}:unit n j = mkv n fun i => if i = j then 1 else 0:=by
 rw [unit,show zeros n = List.replicate n (0:Int) from rfl,mkv_zero,mkv_set]
theorem at0_zeros {n i:Nat}:at0 (zeros n) i = 0:=by
 rcases Nat.lt_or_ge i n with g | g
 ·simp [zeros,at0,List.getD_eq_getElem?_getD,g]
 ·simp [zeros,at0,List.getD_eq_getElem?_getD,g]
section
variable {D:Nat} {x:SPr} {m:SModule} {T:Mx} (h:Pres x) (hE:ExOk x.Orders.length D x m T) (hT:∀ i,i < T.length → Row m.Prime D (T.getD i []))
 include h hE hT
abbrev exx (D:Nat) (x:SPr) (m:SModule) (T:Mx):SPr:=ext x.Orders.length D x m T
theorem ex_len:(exx D x m T).Orders.length = x.Orders.length + D:=by
 have _:=h;have _:=hE;have _:=hT
 simp [exx,ext]
theorem ex_ord1 {i:Nat} (hi:i < x.Orders.length):at0 (exx D x m T).Orders i = at0 x.Orders i:=by
 have _:=h;have _:=hE;have _:=hT
 show at0 (x.Orders ++ List.replicate D m.Prime) i = _
 rw [at0_app,if_pos hi]
theorem ex_ord2 {i:Nat} (hi:x.Orders.length ≤ i) (h2:i < x.Orders.length + D):at0 (exx D x m T).Orders i = m.Prime:=by
 have _:=h;have _:=hE;have _:=hT
 show at0 (x.Orders ++ List.replicate D m.Prime) i = _
 rw [at0_app,if_neg (by omega)]
 simp [at0,List.getD_eq_getElem?_getD,show i - x.Orders.length < D by omega]
theorem ex_exp {v t:List Int} {i:Nat} (hv:v.length = x.Orders.length) (hr:∀ j,j < x.Orders.length → 0 ≤ at0 v j ∧ at0 v j ≤ at0 x.Orders j - 1) (hz:∀ j,j ≤ i → j < x.Orders.length → at0 v j = 0) (ht:Row m.Prime D t) (hi:i < x.Orders.length):Exp (exx D x m T).Orders (v ++ t) i:=by
 have hl:=ex_len h hE hT
 refine ⟨⟨by rw [List.length_append,hv,ht.1,hl],fun j hj => ?_⟩,fun j hj => ?_⟩
 ·rw [List.length_append,hv,ht.1] at hj
  rw [at0_app,hv]
  split
  ·next g => rw [ex_ord1 h hE hT g];exact hr j g
  ·next g => rw [ex_ord2 h hE hT (by omega) hj];exact ht.2 _ (by omega)
 ·rw [at0_app,if_pos (by omega)];exact hz j hj (by omega)
theorem tail_row (i:Nat) (hi:i < base x.Orders.length x.Orders.length):Row m.Prime D (T.getD i []):=by
 have _:=h
 exact hT i (by rw [hE.t];exact hi)
theorem ex_pres:Pres (exx D x m T):=by
 have hn:=hE.hn
 have h3:=hE.m.d3
 have h7:=hE.m.p.pos
 have hl:=ex_len h hE hT
 have hb:=base_big x.Orders.length (by omega)
 refine ⟨⟨by rw [hl];omega,fun i hi => ?_⟩,by rw [hl];exact gl_len,by rw [hl];exact gl_len,fun i hi => ?_⟩
 ·rw [hl] at hi
  rcases Nat.lt_or_ge i x.Orders.length with g | g
  ·rw [ex_ord1 h hE hT g];exact h.os.2 i g
  ·rw [ex_ord2 h hE hT g hi];exact hE.m.p
 ·rw [hl] at hi
  have hP:(exx D x m T).Powers.getD i [] = exP x.Orders.length D x T i:=gl_getD hi
  have hC:(exx D x m T).Conjugates.getD i [] = exC x.Orders.length D x m T i:=by
   show (gl (x.Orders.length + D) (exC x.Orders.length D x m T)).getD i [] = _
   simp [gl,List.getD_eq_getElem?_getD,hi]
  refine ⟨?_,?_,?_⟩
  ·rw [hP,exP]
   rcases Nat.lt_or_ge i x.Orders.length with g | g
   ·rw [if_pos g]
    obtain ⟨t1,_,_⟩:=h.tl i g
    exact ex_exp h hE hT t1.1.1 (fun j hj => t1.1.2 j (by rw [t1.1.1];exact hj)) (fun j hj _ => t1.2 j hj) (tail_row h hE hT i (by omega)) g
   ·rw [if_neg (by omega)]
    have hz:∀ j,at0 (List.replicate (x.Orders.length + D) (0:Int)) j = 0:=fun j => at0_zeros
    refine ⟨⟨by rw [hl,List.length_replicate],fun j hj => ?_⟩,fun j _ => hz j⟩
    rw [List.length_replicate] at hj
    rw [hz]
    rcases Nat.lt_or_ge j x.Orders.length with g2 | g2
    ·rw [ex_ord1 h hE hT g2];have:=(h.os.2 j g2).pos;omega
    ·rw [ex_ord2 h hE hT g2 hj];omega
  ·rw [hC,exC,hl]
   split
   ·rw [gl_len];omega
   ·rw [unC,gl_len];omega
  ·rw [hC,exC]
   split
   ·next g =>
    intro j hj
    rw [gl_len] at hj
    rw [gl_getD hj,exF]
    split
    ·next g2 =>
     have hcl:=hE.cl i g
     have hbl:=base_le x.Orders.length (by omega) i g
     obtain ⟨_,_,t3⟩:=h.tl i g
     have t:=t3 j (by omega)
     exact ex_exp h hE hT t.1.1 (fun q hq => t.1.2 q (by rw [t.1.1];exact hq)) (fun q hq _ => t.2 q hq) (tail_row h hE hT _ (by omega)) g
    ·next g2 =>
     have hz:∀ j,at0 (List.replicate x.Orders.length (0:Int)) j = 0:=fun j => at0_zeros
     refine ex_exp h hE hT (by simp) (fun q hq => ?_) (fun q _ _ => hz q) ((hE.m.mat i g).2 _ (by omega)) g
     rw [hz];have:=(h.os.2 q hq).pos;omega
   ·next g =>
    intro j hj
    rw [unC,gl_len] at hj
    rw [unC,gl_getD hj]
    refine ⟨⟨by rw [hl];exact mkv_length _ _,fun q hq => ?_⟩,fun q hq => ?_⟩
    ·rw [unitv,mkv_length] at hq
     rw [unitv,mkv_at hq]
     rcases Nat.lt_or_ge q x.Orders.length with g2 | g2
     ·rw [ex_ord1 h hE hT g2];have:=(h.os.2 q g2).pos;split <;> omega
     ·rw [ex_ord2 h hE hT g2 hq];split <;> omega
    ·rw [unitv,mkv_at (by omega),if_neg (by omega)]
theorem exl_o {k:Nat} (hk:k < x.Orders.length):(lvl (exx D x m T) k).o = at0 x.Orders k:=ex_ord1 h hE hT hk
theorem exl_w {k:Nat} (hk:k < x.Orders.length):(lvl (exx D x m T) k).w = (lvl x k).w ++ T.getD k []:=by
 have t1:=(h.tl k hk).1.1.1
 have _:=hE;have _:=hT
 show ((exx D x m T).Powers.getD k []).drop (k + 1) = _
 have hP:(exx D x m T).Powers.getD k [] = exP x.Orders.length D x T k:=gl_getD (by omega)
 rw [hP,exP,if_pos hk,List.drop_append_of_le_length (by omega)]
 rfl
def eC1 (x:SPr) (T:Mx) (k:Nat):List Vec:=gl (x.Orders.length - 1 - k) fun j => (lvl x k).cs.getD j [] ++ T.getD (base x.Orders.length k + j) []
def eC2 (x:SPr) (m:SModule) (D k:Nat):List Vec:=((gl D fun j => (m.Actions.getD k []).getD j []).map fun r => zeros (x.Orders.length - 1 - k) ++ r)
theorem exl_cs {k:Nat} (hk:k < x.Orders.length):(lvl (exx D x m T) k).cs = eC1 x T k ++ eC2 x m D k:=by
 have hcl:=hE.cl k hk
 have _:=hT
 show ((exx D x m T).Conjugates.getD k []).map (·.drop (k + 1)) = _
 have hC:(exx D x m T).Conjugates.getD k [] = exC x.Orders.length D x m T k:=by
  show (gl (x.Orders.length + D) (exC x.Orders.length D x m T)).getD k [] = _
  simp [gl,List.getD_eq_getElem?_getD,show k < x.Orders.length + D by omega]
 rw [hC,exC,if_pos hk]
 apply List.ext_getElem?
 intro j
 by_cases hj:j < x.Orders.length + D - 1 - k
 ·have e1:((gl (x.Orders.length + D - 1 - k) (exF x.Orders.length x m T k)).map (·.drop (k + 1)))[j]? = some ((exF x.Orders.length x m T k j).drop (k + 1)):=by simp [gl,hj]
  rw [e1,exF]
  by_cases g:j < x.Orders.length - 1 - k
  ·rw [if_pos g,List.getElem?_append_left (by rw [eC1,gl_len];exact g)]
   have t:=(h.tl k hk).2.2 j (by omega)
   rw [List.drop_append_of_le_length (by have:=t.1.1;omega)]
   have e2:(eC1 x T k)[j]? = some ((lvl x k).cs.getD j [] ++ T.getD (base x.Orders.length k + j) []):=by simp [eC1,gl,g]
   rw [e2]
   congr 2
   simp only [lvl,List.getD_eq_getElem?_getD,List.getElem?_map]
   rw [List.getElem?_eq_getElem (l:=x.Conjugates[k]?.getD []) (by rw [List.getD_eq_getElem?_getD] at hcl;omega)]
   rfl
  ·rw [if_neg g,List.getElem?_append_right (by rw [eC1,gl_len];omega),eC1,gl_len]
   have e2:(eC2 x m D k)[j - (x.Orders.length - 1 - k)]? = some (zeros (x.Orders.length - 1 - k) ++ (m.Actions.getD k []).getD (j - (x.Orders.length - 1 - k)) []):=by
    simp [eC2,gl,show j - (x.Orders.length - 1 - k) < D by omega]
   rw [e2,List.drop_append_of_le_length (by simp;omega),List.drop_replicate,show x.Orders.length - (k + 1) = x.Orders.length - 1 - k from by omega]
   rfl
 ·rw [List.getElem?_eq_none (by simp [gl];omega),List.getElem?_eq_none (by simp [eC1,eC2,gl];omega)]
end
def tlv (p:Int):Nat → Pcp
 | 0 => []
 | d + 1 => ⟨p,zeros d,units d⟩ :: tlv p d
theorem tlv_len {p:Int}:∀ d,(tlv p d).length = d
 | 0 => rfl
 | d + 1 => by simp [tlv,tlv_len d]
theorem V_tlv {p:Int}:∀ (d:Nat) (v:Vec),V (tlv p d) v ↔ Row p d v
 | 0,v => by
  constructor
  ·intro h
   obtain rfl:v = []:=h
   exact ⟨rfl,fun i hi => by omega⟩
  ·intro h
   have:=List.eq_nil_of_length_eq_zero h.1
   subst this;exact rfl
 | d + 1,v => by
  cases v with
  | nil => exact ⟨fun h => h.elim,fun h => by have:=h.1;simp at this⟩
  | cons a v =>
   show ((0 ≤ a ∧ a < p) ∧ V (tlv p d) v) ↔ _
   rw [V_tlv d v]
   constructor
   ·rintro ⟨⟨h0,h1⟩,h2⟩
    refine ⟨by simp [h2.1],fun i hi => ?_⟩
    cases i with
    | zero => simp only [at0,List.getD_cons_zero];omega
    | succ i => have:=h2.2 i (by omega);simpa [at0] using this
   ·intro h
    have h0:=h.2 0 (by omega)
    simp only [at0,List.getD_cons_zero] at h0
    refine ⟨⟨h0.1,by omega⟩,by have:=h.1;simpa using this,fun i hi => ?_⟩
    have:=h.2 (i + 1) (by omega)
    simpa [at0] using this
abbrev adv (p:Int) (D:Nat) (u v:List Int):List Int:=mkv D fun j => (at0 u j + at0 v j) % p
theorem adv_row {p:Int} {D:Nat} {u v:List Int} (hp:0 < p):Row p D (adv p D u v):=by
 refine ⟨mkv_length _ _,fun j hj => ?_⟩
 rw [mkv_at hj]
 have e1:=Int.emod_nonneg (at0 u j + at0 v j) (show p ≠ 0 by omega)
 have e2:=Int.emod_lt_of_pos (at0 u j + at0 v j) hp
 omega
theorem iter_adv {p:Int} {D:Nat} {c:List Int} (hp:0 < p):∀ (k:Nat) (acc:List Int),Row p D acc → iter k (fun w => adv p D w c) acc = mkv D fun j => (at0 acc j + (k:Int) * at0 c j) % p
 | 0,acc,ha => by
  show acc = _
  conv => lhs;rw [mkv_eq ha.1]
  refine mkv_congr fun j hj => ?_
  have:=ha.2 j hj
  rw [Int.natCast_zero,Int.zero_mul,Int.add_zero,Int.emod_eq_of_lt this.1 (by omega)]
 | k + 1,acc,ha => by
  show iter k (fun w => adv p D w c) (adv p D acc c) = _
  rw [iter_adv hp k _ (adv_row hp)]
  refine mkv_congr fun j hj => ?_
  rw [mkv_at hj,Int.add_emod,Int.emod_emod,← Int.add_emod,← cs,Int.add_mul]
  congr 1;omega
theorem S_cons {f:Nat → Int} {n:Nat}:S (n + 1) f = f 0 + S n fun i => f (i + 1):=by
 rw [Nat.add_comm,S_shift 1 n]
 simp only [S]
 rw [Int.zero_add]
 congr 1
 exact S_congr fun i _ => by rw [Nat.add_comm]
theorem img_adv {p:Int} {D:Nat} (hp:0 < p):∀ (cs:List Vec) (v acc:Vec),v.length = cs.length → (∀ i,i < v.length → 0 ≤ at0 v i) → Row p D acc → img (adv p D) cs v acc = mkv D fun j => (at0 acc j + S cs.length fun k => at0 v k * ent cs k j) % p
 | [],v,acc,hl,_,ha => by
  show acc = _
  conv => lhs;rw [mkv_eq ha.1]
  refine mkv_congr fun j hj => ?_
  have:=ha.2 j hj
  simp only [List.length_nil,S]
  rw [Int.add_zero,Int.emod_eq_of_lt this.1 (by omega)]
 | c :: cs,[],acc,hl,_,_ => by simp at hl
 | c :: cs,a :: v,acc,hl,hv,ha => by
  have h0:=hv 0 (by simp)
  simp only [at0,List.getD_cons_zero] at h0
  have hrow:Row p D (iter a.toNat (fun w => adv p D w c) acc):=iter_in (S:=Row p D) (fun _ _ => adv_row hp) _ ha
  show img (adv p D) cs v (iter a.toNat (fun w => adv p D w c) acc) = _
  rw [img_adv hp cs v _ (by simpa using hl) (fun i hi => by have:=hv (i + 1) (by simpa using hi);simpa [at0] using this) hrow,iter_adv hp _ _ ha]
  refine mkv_congr fun j hj => ?_
  rw [mkv_at hj,List.length_cons,S_cons,Int.add_emod,Int.emod_emod,← Int.add_emod,Int.toNat_of_nonneg h0,Int.add_assoc]
  rfl
theorem img_congr {α:Type} {S:α → Prop} {m m':α → α → α} (hm:∀ a b,S a → S b → m a b = m' a b) (hc:∀ a b,S a → S b → S (m' a b)):∀ (cs:List α) (v:Vec) (acc:α),(∀ c ∈ cs,S c) → S acc → img m cs v acc = img m' cs v acc
 | [],_,_,_,_ => by simp [img]
 | c :: cs,[],_,_,_ => by simp [img]
 | c :: cs,a :: v,acc,h1,h2 => by
  have hcS:=h1 c (by simp)
  have e:∀ k acc,S acc → iter k (fun w => m w c) acc = iter k (fun w => m' w c) acc ∧ S (iter k (fun w => m' w c) acc):=by
   intro k
   induction k with
   | zero => intro acc ha;exact ⟨rfl,ha⟩
   | succ k ih =>
    intro acc ha
    show iter k (fun w => m w c) (m acc c) = iter k (fun w => m' w c) (m' acc c) ∧ _
    rw [hm acc c ha hcS]
    exact ih _ (hc _ _ ha hcS)
  show img m cs v (iter a.toNat (fun w => m w c) acc) = img m' cs v (iter a.toNat (fun w => m' w c) acc)
  rw [(e _ _ h2).1]
  exact img_congr hm hc cs v _ (fun c hc => h1 c (by simp [hc])) (e _ _ h2).2
theorem units_ent {d k j:Nat} (hk:k < d) (hj:j < d):ent (units d) k j = if j = k then 1 else 0:=by
 have e:(units d).getD k [] = unit d k:=by simp [units,List.getD_eq_getElem?_getD,hk]
 rw [ent,e,unit_mkv,mkv_at hj]
theorem zero_row {p:Int} {D:Nat} (hp:0 < p):Row p D (zeros D):=z0_row hp
theorem tlv_mul {p:Int} (hp:2 ≤ p):∀ (d:Nat) (u v:Vec),Row p d u → Row p d v → mul (tlv p d) u v = adv p d u v
 | 0,u,v,hu,_ => by
  have:=List.eq_nil_of_length_eq_zero hu.1
  subst this
  rfl
 | d + 1,u,v,hu,hv => by
  have ih:=tlv_mul hp d
  have hu':=(V_tlv (d + 1) u).2 hu
  have hv':=(V_tlv (d + 1) v).2 hv
  cases u with
  | nil => exact hu'.elim
  | cons a u =>
   cases v with
   | nil => exact hv'.elim
   | cons b v =>
    obtain ⟨⟨a0,a1⟩,hu2⟩:=hu'
    obtain ⟨⟨b0,b1⟩,hv2⟩:=hv'
    have hu3:=(V_tlv d u).1 hu2
    have hv3:=(V_tlv d v).1 hv2
    change a < p at a1
    change b < p at b1
    have hsig:∀ w,Row p d w → sig (tlv p d) ⟨p,zeros d,units d⟩ w = w:=fun w hw => by
     have hur:∀ c ∈ units d,Row p d c:=fun c hc => by
      obtain ⟨k,hk,rfl⟩:=List.mem_map.1 hc
      rw [unit_mkv]
      exact ⟨mkv_length _ _,fun j hj => by rw [mkv_at hj];split <;> omega⟩
     unfold sig
     rw [tlv_len,img_congr (S:=Row p d) (m':=adv p d) (fun a b ha hb => ih a b ha hb) (fun _ _ _ _ => adv_row (by omega)) (units d) w _ hur (zero_row (by omega)),img_adv (by omega) (units d) w _ (by rw [hw.1];simp [units]) (fun i hi => (hw.2 i (by rw [← hw.1];exact hi)).1) (zero_row (by omega))]
     conv => rhs;rw [mkv_eq hw.1]
     refine mkv_congr fun j hj => ?_
     have hul:(units d).length = d:=by simp [units]
     have:=hw.2 j hj
     rw [hul,at0_zeros,Int.zero_add,S_one (k:=j) hj (fun k hk hne => by rw [units_ent hk hj,if_neg (Ne.symm hne),Int.mul_zero]),units_ent hj hj,if_pos rfl,Int.mul_one,Int.emod_eq_of_lt this.1 (by omega)]
    have hit:∀ k,iter k (sig (tlv p d) ⟨p,zeros d,units d⟩) u = u:=fun k => iter_fix (hsig u hu3) k
    show mul (⟨p,zeros d,units d⟩ :: tlv p d) (a :: u) (b :: v) = _
    rw [mul_cons,hit,ih u v hu3 hv3]
    have hz:adv p d (zeros d) (adv p d u v) = adv p d u v:=by
     refine mkv_congr fun j hj => ?_
     rw [mkv_at hj,at0_zeros,Int.zero_add,Int.emod_emod]
    rw [ih _ _ (zero_row (by omega)) (adv_row (by omega)),hz]
    have hcons:adv p (d + 1) (a :: u) (b :: v) = (a + b) % p :: adv p d u v:=by
     simp only [adv,mkv,List.range_succ_eq_map,List.map_cons,List.map_map]
     congr 1
    rw [hcons]
    split
    ·next g =>
     have g:a + b ≥ p:=g
     have e:(a + b) % p = a + b - p:=by
      rw [show a + b = (a + b - p) + p from by omega,Int.add_emod_right,Int.emod_eq_of_lt (by omega) (by omega)]
      omega
     exact congrArg (· :: _) e.symm
    ·next g =>
     have g:¬ a + b ≥ p:=g
     congr 1
     exact (Int.emod_eq_of_lt (by omega) (by omega)).symm
end Go.Pl

namespace Go.Pl
open Go Go.Ab Go.Wk Go.Pc
theorem img_app {α:Type} {m:α → α → α}:∀ (c1:List α) (y:Vec) (c2:List α) (u:Vec) (acc:α),c1.length = y.length → img m (c1 ++ c2) (y ++ u) acc = img m c2 u (img m c1 y acc)
 | [],[],_,_,_,_ => by cases ‹List α› <;> rfl
 | [],_ :: _,_,_,_,h => by simp at h
 | _ :: _,[],_,_,_,h => by simp at h
 | c :: c1,a :: y,c2,u,acc,h => img_app c1 y c2 u _ (by simpa using h)
theorem img_proj {α β:Type} {S:α → Prop} {m:α → α → α} {n:β → β → β} (φ:α → β) (hS:∀ a b,S a → S b → S (m a b)) (hm:∀ a b,S a → S b → φ (m a b) = n (φ a) (φ b)):∀ (cs:List α) (v:Vec) (a:α),(∀ c ∈ cs,S c) → S a → φ (img m cs v a) = img n (cs.map φ) v (φ a)
 | [],v,a,_,_ => by cases v <;> rfl
 | _ :: _,[],_,_,_ => rfl
 | c :: cs,t :: v,a,hc,ha => by
  have hcS:=hc c (by simp)
  have e:∀ k a,S a → φ (iter k (fun w => m w c) a) = iter k (fun w => n w (φ c)) (φ a) ∧ S (iter k (fun w => m w c) a):=by
   intro k
   induction k with
   | zero => intro a ha;exact ⟨rfl,ha⟩
   | succ k ih =>
    intro a ha
    have:=ih (m a c) (hS _ _ ha hcS)
    rw [hm a c ha hcS] at this
    exact this
  show φ (img m cs v (iter t.toNat (fun w => m w c) a)) = img n (cs.map φ) v (iter t.toNat (fun w => n w (φ c)) (φ a))
  rw [← (e _ a ha).1]
  exact img_proj φ hS hm cs v _ (fun c h => hc c (by simp [h])) (e _ a ha).2
theorem rowM_idM {p:Int} {D:Nat} {r:List Int} (hr:Row p D r):rowM p D r (idM D) = r:=by
 conv => rhs;rw [mkv_eq hr.1]
 refine mkv_congr fun j hj => ?_
 have:=hr.2 j hj
 have e:∀ l,l < D → ent (idM D) l j = if j = l then 1 else 0:=fun l hl => by rw [ent,idM_get hl,mkv_at hj]
 rw [S_one (k:=j) hj (fun k hk hne => by rw [e k hk,if_neg (Ne.symm hne),Int.mul_zero]),e j hj,if_pos rfl,Int.mul_one,mod_small this]
theorem rowM_PM {p:Int} {D:Nat} {r:List Int} {A B:Mx} (hA:A.length = D):rowM p D (rowM p D r A) B = rowM p D r (PM p D A B):=by
 refine mkv_congr fun j hj => ?_
 have e1:S D (fun l => at0 (rowM p D r A) l * ent B l j) % p = S D (fun l => S D (fun i => at0 r i * ent A i l) * ent B l j) % p:=S_mod fun l hl => by
  rw [rowM,mkv_at hl,Int.mul_emod,Int.emod_emod,← Int.mul_emod]
 have e2:S D (fun l => at0 r l * ent (PM p D A B) l j) % p = S D (fun i => at0 r i * S D (fun l => ent A i l * ent B l j)) % p:=S_mod fun l hl => by
  rw [PM_ent hA hl hj,Int.mul_emod,Int.emod_emod,← Int.mul_emod]
 rw [e1,e2]
 congr 1
 have e3:S D (fun l => S D (fun i => at0 r i * ent A i l) * ent B l j) = S D (fun l => S D (fun i => at0 r i * ent A i l * ent B l j)):=S_congr fun l _ => (S_mul _ _).symm
 rw [e3,S_swap]
 refine S_congr fun i _ => ?_
 rw [← S_mul']
 exact S_congr fun l _ => by rw [Int.mul_assoc]
theorem adv_zero_l {p:Int} {D:Nat} {v:List Int} (hv:Row p D v):adv p D (zeros D) v = v:=by
 conv => rhs;rw [mkv_eq hv.1]
 refine mkv_congr fun j hj => ?_
 rw [at0_zeros,Int.zero_add,mod_small (hv.2 j hj)]
theorem adv_rowM {p:Int} {D:Nat} {acc v:List Int} {A:Mx} (hl:A.length = D):(mkv D fun j => (at0 acc j + S A.length fun k => at0 v k * ent A k j) % p) = adv p D acc (rowM p D v A):=by
 refine mkv_congr fun j hj => ?_
 rw [rowM,mkv_at hj,hl,Int.add_emod_emod]
theorem adv_comm {p:Int} {D:Nat} {u v:List Int}:adv p D u v = adv p D v u:=mkv_congr fun j _ => by rw [Int.add_comm]
section
variable {D:Nat} {x:SPr} {m:SModule} {T:Mx} (h:Pres x) (hE:ExOk x.Orders.length D x m T) (hT:∀ i,i < T.length → Row m.Prime D (T.getD i []))
 include h hE hT
theorem suf_tlv:∀ (d k:Nat),x.Orders.length ≤ k → k + d = x.Orders.length + D → suf (exx D x m T) k = tlv m.Prime d
 | 0,k,hk,hd => by rw [suf_nil (by rw [ex_len h hE hT];omega)];rfl
 | d + 1,k,hk,hd => by
  have hl:=ex_len h hE hT
  rw [suf_cons (by omega),suf_tlv d (k + 1) (by omega) (by omega),tlv]
  congr 1
  have hP:(exx D x m T).Powers.getD k [] = exP x.Orders.length D x T k:=gl_getD (by omega)
  have hC:(exx D x m T).Conjugates.getD k [] = exC x.Orders.length D x m T k:=by
   show (gl (x.Orders.length + D) (exC x.Orders.length D x m T)).getD k [] = _
   simp [gl,List.getD_eq_getElem?_getD,show k < x.Orders.length + D by omega]
  unfold lvl
  rw [hP,hC,exP,exC,if_neg (by omega),if_neg (by omega),ex_ord2 h hE hT hk (by omega),List.drop_replicate,show x.Orders.length + D - (k + 1) = d from by omega]
  congr 1
  rw [unC,units,gl,List.map_map,show x.Orders.length + D - 1 - k = d from by omega]
  refine List.map_congr_left fun j hj => ?_
  have hj:=List.mem_range.1 hj
  show (unitv (x.Orders.length + D) (k + 1 + j)).drop (k + 1) = unit d j
  rw [unitv,mkv_drop,unit_mkv,show x.Orders.length + D - (k + 1) = d from by omega]
  refine mkv_congr fun i _ => ?_
  by_cases g:i = j
  ·rw [if_pos g,if_pos (by omega)]
  ·rw [if_neg g,if_neg (by omega)]
theorem V_ext:∀ (d k:Nat),k + d = x.Orders.length → ∀ v,V (suf (exx D x m T) k) v ↔ ∃ y u,v = y ++ u ∧ V (suf x k) y ∧ Row m.Prime D u
 | 0,k,hk,v => by
  rw [suf_tlv h hE hT D k (by omega) (by omega),V_tlv,suf_nil (x:=x) (k:=k) (by omega)]
  constructor
  ·intro g;exact ⟨[],v,rfl,rfl,g⟩
  ·rintro ⟨y,u,rfl,hy,hu⟩
   obtain rfl:y = []:=hy
   exact hu
 | d + 1,k,hk,v => by
  have hl:=ex_len h hE hT
  have ih:=V_ext d (k + 1) (by omega)
  rw [suf_cons (x:=exx D x m T) (by omega),suf_cons (x:=x) (by omega)]
  cases v with
  | nil =>
   refine ⟨fun g => g.elim,?_⟩
   rintro ⟨y,u,e,hy,hu⟩
   cases y with
   | nil => exact hy.elim
   | cons a y => simp at e
  | cons a v =>
   show ((0 ≤ a ∧ a < (lvl (exx D x m T) k).o) ∧ V (suf (exx D x m T) (k + 1)) v) ↔ _
   rw [exl_o h hE hT (by omega),ih v]
   constructor
   ·rintro ⟨g,y,u,rfl,hy,hu⟩
    exact ⟨a :: y,u,rfl,⟨g,hy⟩,hu⟩
   ·rintro ⟨y,u,e,hy,hu⟩
    cases y with
    | nil => exact hy.elim
    | cons b y =>
     simp only [List.cons_append,List.cons.injEq] at e
     obtain ⟨rfl,rfl⟩:=e
     exact ⟨hy.1,y,u,rfl,hy.2,hu⟩
theorem ex_R1:∀ (d k:Nat),k + d = x.Orders.length → ∀ y u r,V (suf x k) y → Row m.Prime D u → Row m.Prime D r → mul (suf (exx D x m T) k) (y ++ u) (zeros d ++ r) = y ++ adv m.Prime D u r
 | 0,k,hk,y,u,r,hy,hu,hr => by
  have hp:=hE.m.p.pos
  rw [suf_nil (x:=x) (k:=k) (by omega)] at hy
  obtain rfl:y = []:=hy
  rw [suf_tlv h hE hT D k (by omega) (by omega)]
  exact tlv_mul (by omega) D u r hu hr
 | d + 1,k,hk,y,u,r,hy,hu,hr => by
  have hl:=ex_len h hE hT
  rw [suf_cons (x:=x) (by omega)] at hy
  cases y with
  | nil => exact hy.elim
  | cons a y =>
   obtain ⟨⟨a0,a1⟩,hy⟩:=hy
   change a < at0 x.Orders k at a1
   rw [suf_cons (x:=exx D x m T) (by omega)]
   show mul _ (a :: (y ++ u)) (0 :: (zeros d ++ r)) = _
   rw [mul_cons,exl_o h hE hT (by omega),if_neg (by omega)]
   show (a + 0) :: mul _ (y ++ u) (zeros d ++ r) = _
   rw [ex_R1 d (k + 1) (by omega) y u r hy hu hr,Int.add_zero];rfl
theorem ex_ok {k:Nat} (hk:k ≤ x.Orders.length + D):Pc.Ok (suf (exx D x m T) k):=(ex_pres h hE hT).okAt (by rw [ex_len h hE hT];exact hk)
theorem img_R1 {d k:Nat} (hk:k + d = x.Orders.length):∀ (rs:List Vec) (v:Vec) (y u:Vec),(∀ r ∈ rs,Row m.Prime D r) → V (suf x k) y → Row m.Prime D u → img (mul (suf (exx D x m T) k)) (rs.map fun r => zeros d ++ r) v (y ++ u) = y ++ img (adv m.Prime D) rs v u
 | [],v,y,u,_,_,_ => by cases v <;> rfl
 | _ :: _,[],_,_,_,_,_ => rfl
 | c :: rs,t :: v,y,u,hr,hy,hu => by
  have hp:=hE.m.p.pos
  have hc:=hr c (by simp)
  have e:∀ q u,Row m.Prime D u → iter q (fun w => mul (suf (exx D x m T) k) w (zeros d ++ c)) (y ++ u) = y ++ iter q (fun w => adv m.Prime D w c) u:=by
   intro q
   induction q with
   | zero => intro u _;rfl
   | succ q ih =>
    intro u hu
    show iter q _ (mul _ (y ++ u) (zeros d ++ c)) = _
    rw [ex_R1 h hE hT d k hk y u c hy hu hc,ih _ (adv_row (by omega))]
    rfl
  show img _ (rs.map fun r => zeros d ++ r) v (iter t.toNat (fun w => mul (suf (exx D x m T) k) w (zeros d ++ c)) (y ++ u)) = _
  rw [e _ _ hu,img_R1 hk rs v y _ (fun r h => hr r (by simp [h])) hy (iter_in (S:=Row m.Prime D) (fun _ _ => adv_row (by omega)) _ hu)]
  rfl
theorem gl_act {k:Nat} (hk:k < x.Orders.length):(gl D fun j => (m.Actions.getD k []).getD j []) = m.Actions.getD k []:=by
 have _:=h;have _:=hT
 have hl:=(hE.m.mat k hk).1
 apply List.ext_getElem?
 intro j
 simp only [gl,List.getElem?_map]
 by_cases g:j < D
 ·rw [List.getElem?_range g,Option.map_some,List.getD_eq_getElem?_getD (i:=j),List.getElem?_eq_getElem (by omega)];rfl
 ·rw [List.getElem?_eq_none (by simp;omega),List.getElem?_eq_none (by omega)];rfl
def sgG (D:Nat) (x:SPr) (m:SModule) (T:Mx) (k:Nat) (y:Vec):Vec:=img (mul (suf (exx D x m T) (k + 1))) (eC1 x T k) y (zeros (suf (exx D x m T) (k + 1)).length)
theorem eC1_len {k:Nat}:(eC1 x T k).length = x.Orders.length - 1 - k:=by have _:=h;have _:=hE;have _:=hT;rw [eC1,gl_len]
theorem eC1_V {k:Nat} (hk:k < x.Orders.length):∀ c ∈ eC1 x T k,V (suf (exx D x m T) (k + 1)) c:=by
 intro c hc
 have ok:=ex_ok h hE hT (k:=k) (by omega)
 rw [suf_cons (by rw [ex_len h hE hT];omega)] at ok
 exact ok.2.2.2.1 c (by rw [exl_cs h hE hT hk];exact List.mem_append_left _ hc)
theorem zs_len {k:Nat} (hk:k ≤ x.Orders.length):zeros (suf (exx D x m T) k).length = zeros (x.Orders.length - k) ++ zeros D:=by
 rw [suf_length,ex_len h hE hT]
 simp only [zeros,List.replicate_append_replicate];congr 1;omega
theorem sgG_V {k:Nat} (hk:k < x.Orders.length) {y:Vec}:V (suf (exx D x m T) (k + 1)) (sgG D x m T k y):=by
 have ok:=ex_ok h hE hT (k:=k + 1) (by omega)
 exact img_in' (mul_in ok) _ _ (eC1_V h hE hT hk) (V_zeros ok)
theorem ex_sig {k:Nat} (hk:k < x.Orders.length) {y u:Vec} (hy:V (suf x (k + 1)) y) (hu:Row m.Prime D u) :
  sig (suf (exx D x m T) (k + 1)) (lvl (exx D x m T) k) (y ++ u) = (sgG D x m T k y).take (x.Orders.length - (k + 1)) ++ adv m.Prime D ((sgG D x m T k y).drop (x.Orders.length - (k + 1))) (rowM m.Prime D u (m.Actions.getD k [])):=by
 have hp:=hE.m.p.pos
 have hA:=hE.m.mat k hk
 have hyl:=V_len h (by omega) hy
 unfold sig
 rw [exl_cs h hE hT hk,img_app _ _ _ _ _ (by rw [eC1_len h hE hT];omega)]
 show img _ (eC2 x m D k) u (sgG D x m T k y) = _
 obtain ⟨y1,u1,e,hy1,hu1⟩:=(V_ext h hE hT (x.Orders.length - (k + 1)) (k + 1) (by omega) _).1 (sgG_V h hE hT hk (y:=y))
 have hy1l:=V_len h (by omega) hy1
 rw [e,eC2,gl_act h hE hT hk,show x.Orders.length - 1 - k = x.Orders.length - (k + 1) from by omega,img_R1 h hE hT (by omega) _ _ _ _ (fun r hr => ?_) hy1 hu1,img_adv (by omega) _ _ _ (by rw [hA.1,hu.1]) (fun i hi => (hu.2 i (by rw [← hu.1];exact hi)).1) hu1,adv_rowM hA.1,List.take_left' hy1l,List.drop_left' hy1l]
 obtain ⟨j,hj,rfl⟩:=List.mem_iff_getElem.1 hr
 have hAl:=hA.1
 have:=hA.2 j (by omega)
 rwa [List.getD_eq_getElem?_getD,List.getElem?_eq_getElem hj] at this
theorem ex_sig0 {k:Nat} (hk:k < x.Orders.length) {u:Vec} (hu:Row m.Prime D u) :
  sig (suf (exx D x m T) (k + 1)) (lvl (exx D x m T) k) (zeros (x.Orders.length - (k + 1)) ++ u) = zeros (x.Orders.length - (k + 1)) ++ rowM m.Prime D u (m.Actions.getD k []):=by
 have hp:=hE.m.p.pos
 have ok:=h.okAt (k:=k + 1) (by omega)
 have hz:=V_zeros ok
 rw [suf_length] at hz
 have e:sgG D x m T k (zeros (x.Orders.length - (k + 1))) = zeros (x.Orders.length - (k + 1)) ++ zeros D:=by
  unfold sgG
  rw [img_zeros,zs_len h hE hT (by omega)]
 rw [ex_sig h hE hT hk hz hu,e,List.take_left' (zeros_length _),List.drop_left' (zeros_length _),adv_zero_l (rowM_row (by omega))]
theorem ex_iter0 {k:Nat} (hk:k < x.Orders.length):∀ (q:Nat) {u:Vec},Row m.Prime D u →
  iter q (sig (suf (exx D x m T) (k + 1)) (lvl (exx D x m T) k)) (zeros (x.Orders.length - (k + 1)) ++ u) = zeros (x.Orders.length - (k + 1)) ++ iter q (fun u => rowM m.Prime D u (m.Actions.getD k [])) u
 | 0,u,_ => rfl
 | q + 1,u,hu => by
  have hp:=hE.m.p.pos
  show iter q _ (sig _ _ _) = _
  rw [ex_sig0 h hE hT hk hu,ex_iter0 hk q (rowM_row (by omega))]
  rfl
end
end Go.Pl

namespace Go.Pl
open Go Go.Ab Go.Wk Go.Pc
theorem iter_rowM {p:Int} {D:Nat} {A:Mx} (hA:Mat p D A) (hp:2 ≤ p) {r:List Int} (hr:Row p D r):∀ q,iter q (fun u => rowM p D u A) r = rowM p D r (pw (PM p D) (idM D) A q)
 | 0 => (rowM_idM hr).symm
 | q + 1 => by
  have hm:Mat p D (pw (PM p D) (idM D) A q):=iter_in (S:=Mat p D) (fun _ hB => PM_mat (by omega) hB.1) q (idM_mat hp)
  unfold pw at *
  rw [iter_succ,iter_succ,iter_rowM hA hp hr q]
  exact rowM_PM hm.1
theorem pw_adv {p:Int} {D:Nat} (hp:0 < p) {r:List Int}:iter p.toNat (fun w => adv p D w r) (zeros D) = zeros D:=by
 rw [iter_adv hp _ _ (zero_row hp)]
 rw [show zeros D = mkv D fun _ => 0 from mkv_zero D]
 refine mkv_congr fun j hj => ?_
 rw [mkv_at hj,Int.toNat_of_nonneg (by omega),Int.zero_add,Int.mul_emod_right]
theorem rowM_zeros {p:Int} {D:Nat} {A:Mx}:rowM p D (zeros D) A = zeros D:=by
 rw [show zeros D = mkv D fun _ => 0 from mkv_zero D]
 refine mkv_congr fun j hj => ?_
 rw [S_congr (g:=fun _ => 0) fun l hl => by rw [mkv_at hl,Int.zero_mul],S_zero,Int.zero_emod]
theorem rowM_unit {p:Int} {D q:Nat} {A:Mx} (hq:q < D) (hA:Mat p D A):rowM p D (unit D q) A = A.getD q []:=by
 have hr:=hA.2 q hq
 conv => rhs;rw [mkv_eq hr.1]
 refine mkv_congr fun j hj => ?_
 rw [unit_mkv,S_one (k:=q) hq (fun i hi hne => by rw [mkv_at hi,if_neg hne,Int.zero_mul]),mkv_at hq,if_pos rfl,Int.one_mul,mod_small (hr.2 j hj)]
theorem unit_row' {p:Int} {D q:Nat} (hp:2 ≤ p):Row p D (unit D q):=by
 rw [unit_mkv]
 exact ⟨mkv_length _ _,fun j hj => by rw [mkv_at hj];split <;> omega⟩
theorem unit_app {N D q:Nat} (hq:q < D):unit (N + D) (N + q) = zeros N ++ unit D q:=by
 rw [unit_eq (by omega),unit_eq hq,← List.append_assoc]
 simp only [zeros,List.replicate_append_replicate]
 rw [show N + D - (N + q + 1) = D - (q + 1) from by omega]
def aM (m:SModule) (D k:Nat) (v:Vec):Mx:=img (PM m.Prime D) (m.Actions.drop k) v (idM D)
section
variable {D:Nat} {x:SPr} {m:SModule} {T:Mx} (h:Pres x) (hE:ExOk x.Orders.length D x m T) (hT:∀ i,i < T.length → Row m.Prime D (T.getD i []))
 include h hE hT
theorem eC1_take {k:Nat} (hk:k < x.Orders.length):(eC1 x T k).map (·.take (x.Orders.length - (k + 1))) = (lvl x k).cs:=by
 have _:=hE;have _:=hT
 have hcl:=cs_length h hk
 apply List.ext_getElem?
 intro j
 by_cases g:j < x.Orders.length - (k + 1)
 ·obtain ⟨c,_,_,c3,c4⟩:=conj_at h hk g
  have hl:=V_len h (by omega) c3
  have e1:((eC1 x T k).map (·.take (x.Orders.length - (k + 1))))[j]? = some (((lvl x k).cs.getD j [] ++ T.getD (base x.Orders.length k + j) []).take (x.Orders.length - (k + 1))):=by simp [eC1,gl,show j < x.Orders.length - 1 - k by omega]
  rw [e1,c4,List.take_left' hl,List.getElem?_eq_getElem (by omega)]
  rw [List.getD_eq_getElem?_getD,List.getElem?_eq_getElem (by omega)] at c4
  exact congrArg some c4.symm
 ·rw [List.getElem?_eq_none (by simp [eC1,gl];omega),List.getElem?_eq_none (by omega)]
theorem act_drop {k:Nat} (hk:k < x.Orders.length):m.Actions.drop k = m.Actions.getD k [] :: m.Actions.drop (k + 1):=by
 have _:=h;have _:=hT
 have hl:=hE.m.len
 rw [List.drop_eq_getElem_cons (by omega),List.getD_eq_getElem?_getD,List.getElem?_eq_getElem (by omega)];rfl
theorem aM_cons {k:Nat} (hk:k < x.Orders.length) {b:Int} {y:Vec}:aM m D k (b :: y) = PM m.Prime D (pw (PM m.Prime D) (idM D) (m.Actions.getD k []) b.toNat) (aM m D (k + 1) y):=by
 have M:=mon_mat hE.m
 unfold aM
 rw [act_drop h hE hT hk]
 refine img_cons M (hE.m.mat k hk) fun c hc => ?_
 obtain ⟨i,hi,rfl⟩:=List.mem_iff_getElem.1 (List.mem_of_mem_drop hc)
 have:=hE.m.mat i (by rw [← hE.m.len];exact hi)
 rwa [List.getD_eq_getElem?_getD,List.getElem?_eq_getElem hi] at this
theorem pwM {k q:Nat} (hk:k < x.Orders.length):Mat m.Prime D (pw (PM m.Prime D) (idM D) (m.Actions.getD k []) q):=by
 have _:=h;have _:=hT;have _:=hk
 have hp:=hE.m.p.pos
 exact iter_in (S:=Mat m.Prime D) (fun _ hB => PM_mat (by omega) hB.1) q (idM_mat (by omega))
theorem ex_L1:∀ (d k:Nat),k + d = x.Orders.length → ∀ r y v,Row m.Prime D r → V (suf x k) y → Row m.Prime D v → mul (suf (exx D x m T) k) (zeros d ++ r) (y ++ v) = y ++ adv m.Prime D (rowM m.Prime D r (aM m D k y)) v
 | 0,k,hk,r,y,v,hr,hy,hv => by
  have hp:=hE.m.p.pos
  rw [suf_nil (x:=x) (k:=k) (by omega)] at hy
  obtain rfl:y = []:=hy
  rw [suf_tlv h hE hT D k (by omega) (by omega)]
  have e:aM m D k [] = idM D:=by unfold aM;cases m.Actions.drop k <;> rfl
  rw [e,rowM_idM hr]
  exact tlv_mul (by omega) D r v hr hv
 | d + 1,k,hk,r,y,v,hr,hy,hv => by
  have hl:=ex_len h hE hT
  have hp:=hE.m.p.pos
  have hA:=hE.m.mat k (by omega)
  rw [suf_cons (x:=x) (by omega)] at hy
  cases y with
  | nil => exact hy.elim
  | cons b y =>
   obtain ⟨⟨b0,b1⟩,hy⟩:=hy
   change b < at0 x.Orders k at b1
   rw [suf_cons (x:=exx D x m T) (by omega)]
   show mul _ (0 :: (zeros d ++ r)) (b :: (y ++ v)) = _
   have e:=ex_iter0 h hE hT (k:=k) (by omega) b.toNat hr
   rw [show x.Orders.length - (k + 1) = d from by omega] at e
   rw [mul_cons,exl_o h hE hT (by omega),if_neg (by omega),e,iter_rowM hA (by omega) hr,ex_L1 d (k + 1) (by omega) _ y v (rowM_row (by omega)) hy hv,Int.zero_add,aM_cons h hE hT (by omega),← rowM_PM (pwM h hE hT (by omega)).1]
   rfl
theorem sig_proj {k:Nat} (hk:k < x.Orders.length) (ih:∀ a b,V (suf (exx D x m T) (k + 1)) a → V (suf (exx D x m T) (k + 1)) b → (mul (suf (exx D x m T) (k + 1)) a b).take (x.Orders.length - (k + 1)) = mul (suf x (k + 1)) (a.take (x.Orders.length - (k + 1))) (b.take (x.Orders.length - (k + 1)))) {v:Vec} (hv:V (suf (exx D x m T) (k + 1)) v) :
  (sig (suf (exx D x m T) (k + 1)) (lvl (exx D x m T) k) v).take (x.Orders.length - (k + 1)) = sig (suf x (k + 1)) (lvl x k) (v.take (x.Orders.length - (k + 1))):=by
 have ok:=ex_ok h hE hT (k:=k + 1) (by omega)
 obtain ⟨y,u,rfl,hy,hu⟩:=(V_ext h hE hT (x.Orders.length - (k + 1)) (k + 1) (by omega) _).1 hv
 have hyl:=V_len h (by omega) hy
 obtain ⟨y1,u1,e,hy1,hu1⟩:=(V_ext h hE hT (x.Orders.length - (k + 1)) (k + 1) (by omega) _).1 (sgG_V h hE hT hk (y:=y))
 have hy1l:=V_len h (by omega) hy1
 rw [ex_sig h hE hT hk hy hu,List.take_left' (by rw [e,List.take_left' hy1l,hy1l]),List.take_left' hyl]
 unfold sgG sig
 rw [img_proj (S:=V (suf (exx D x m T) (k + 1))) (n:=mul (suf x (k + 1))) (·.take (x.Orders.length - (k + 1))) (fun a b => mul_in ok) ih _ _ _ (eC1_V h hE hT hk) (V_zeros ok),eC1_take h hE hT hk,zs_len h hE hT (by omega),List.take_left' (zeros_length _),suf_length]
theorem ex_proj:∀ (d k:Nat),k + d = x.Orders.length → ∀ a b,V (suf (exx D x m T) k) a → V (suf (exx D x m T) k) b → (mul (suf (exx D x m T) k) a b).take d = mul (suf x k) (a.take d) (b.take d)
 | 0,k,hk,a,b,_,_ => by
  rw [suf_nil (x:=x) (by omega),List.take_zero];rfl
 | d + 1,k,hk,a,b,ha,hb => by
  have hl:=ex_len h hE hT
  have ih:=ex_proj d (k + 1) (by omega)
  have hd:d = x.Orders.length - (k + 1):=by omega
  have ok:=ex_ok h hE hT (k:=k + 1) (by omega)
  have ok0:=ex_ok h hE hT (k:=k) (by omega)
  rw [hd] at ih
  have hs:=fun v hv => sig_proj h hE hT (k:=k) (by omega) ih (v:=v) hv
  rw [suf_cons (x:=exx D x m T) (by omega)] at ha hb ok0 ⊢
  rw [suf_cons (x:=x) (by omega)]
  cases a with
  | nil => exact ha.elim
  | cons a u =>
  cases b with
  | nil => exact hb.elim
  | cons b v =>
   have hit:∀ q u,V (suf (exx D x m T) (k + 1)) u → (iter q (sig (suf (exx D x m T) (k + 1)) (lvl (exx D x m T) k)) u).take d = iter q (sig (suf x (k + 1)) (lvl x k)) (u.take d) ∧ V (suf (exx D x m T) (k + 1)) (iter q (sig (suf (exx D x m T) (k + 1)) (lvl (exx D x m T) k)) u):=by
    intro q
    induction q with
    | zero => intro u hu;exact ⟨rfl,hu⟩
    | succ q ihq =>
     intro u hu
     have:=ihq _ (sig_in ok0 hu)
     rw [hd,hs u hu] at this
     rw [hd];exact this
   obtain ⟨hi1,hi2⟩:=hit b.toNat u ha.2
   have hm:=mul_in ok hi2 hb.2
   rw [mul_cons,List.take_succ_cons,List.take_succ_cons,mul_cons,exl_o h hE hT (by omega),show (lvl x k).o = at0 x.Orders k from rfl]
   have e1:=ih _ _ hi2 hb.2
   rw [← hd,hi1] at e1
   split
   ·rw [List.take_succ_cons]
    have e2:=ih _ _ ok0.2.1 hm
    rw [← hd,e1] at e2
    rw [e2]
    congr 2
    have ht:=(h.tl k (by omega)).1
    have hw:=exp_V ht (by omega)
    have hwl:(lvl x k).w.length = x.Orders.length - (k + 1):=V_len h (by omega) hw
    rw [exl_w h hE hT (by omega),List.take_left' (by omega)]
   ·rw [List.take_succ_cons,e1]
end
end Go.Pl

namespace Go.Pl
open Go Go.Ab Go.Wk Go.Pc
theorem units_row {p:Int} {d:Nat} (hp:2 ≤ p):∀ c ∈ units d,Row p d c:=fun c hc => by
 obtain ⟨k,_,rfl⟩:=List.mem_map.1 hc
 exact unit_row' hp
theorem tlv_sig {p:Int} (hp:2 ≤ p) {d:Nat} {w:Vec} (hw:Row p d w):sig (tlv p d) ⟨p,zeros d,units d⟩ w = w:=by
 unfold sig
 rw [tlv_len,img_congr (S:=Row p d) (m':=adv p d) (fun a b ha hb => tlv_mul hp d a b ha hb) (fun _ _ _ _ => adv_row (by omega)) (units d) w _ (units_row hp) (zero_row (by omega)),img_adv (by omega) (units d) w _ (by rw [hw.1];simp [units]) (fun i hi => (hw.2 i (by rw [← hw.1];exact hi)).1) (zero_row (by omega))]
 conv => rhs;rw [mkv_eq hw.1]
 refine mkv_congr fun j hj => ?_
 have hul:(units d).length = d:=by simp [units]
 rw [hul,at0_zeros,Int.zero_add,S_one (k:=j) hj (fun k hk hne => by rw [units_ent hk hj,if_neg (Ne.symm hne),Int.mul_zero]),units_ent hj hj,if_pos rfl,Int.mul_one,mod_small (hw.2 j hj)]
structure LCn (x e:SPr) (k:Nat):Prop where
 c1:∀ j,k + 1 ≤ j → j < x.Orders.length → pw (mul (suf e (k + 1))) (zeros (suf e (k + 1)).length) ((lvl e k).cs.getD (j - (k + 1)) []) (at0 e.Orders j).toNat = sig (suf e (k + 1)) (lvl e k) ((e.Powers.getD j []).drop (k + 1))
 c2:∀ i,k + 1 ≤ i → i < x.Orders.length → ∀ j,i + 1 ≤ j → j < x.Orders.length →
  mul (suf e (k + 1)) ((lvl e k).cs.getD (j - (k + 1)) []) ((lvl e k).cs.getD (i - (k + 1)) []) = mul (suf e (k + 1)) ((lvl e k).cs.getD (i - (k + 1)) []) (sig (suf e (k + 1)) (lvl e k) (((e.Conjugates.getD i []).getD (j - (i + 1)) []).drop (k + 1)))
 c3:sig (suf e (k + 1)) (lvl e k) (lvl e k).w = (lvl e k).w
 c4:∀ j,k + 1 ≤ j → j < x.Orders.length → mul (suf e (k + 1)) (lvl e k).w (iter (lvl e k).o.toNat (sig (suf e (k + 1)) (lvl e k)) (unit (e.Orders.length - (k + 1)) (j - (k + 1)))) = mul (suf e (k + 1)) (unit (e.Orders.length - (k + 1)) (j - (k + 1))) (lvl e k).w
section
variable {D:Nat} {x:SPr} {m:SModule} {T:Mx} (h:Pres x) (hE:ExOk x.Orders.length D x m T) (hT:∀ i,i < T.length → Row m.Prime D (T.getD i []))
 include h hE hT
theorem ecs_2 {k j:Nat} (hk:k < x.Orders.length) (hj:x.Orders.length ≤ j) (h2:j < x.Orders.length + D):(lvl (exx D x m T) k).cs.getD (j - (k + 1)) [] = zeros (x.Orders.length - (k + 1)) ++ (m.Actions.getD k []).getD (j - x.Orders.length) []:=by
 rw [exl_cs h hE hT hk,List.getD_eq_getElem?_getD,List.getElem?_append_right (by rw [eC1_len h hE hT];omega),eC1_len h hE hT,eC2]
 simp only [gl,List.getElem?_map]
 rw [List.getElem?_range (by omega),show j - (k + 1) - (x.Orders.length - 1 - k) = j - x.Orders.length from by omega,show x.Orders.length - 1 - k = x.Orders.length - (k + 1) from by omega]
 rfl
theorem ecs_1 {k j:Nat} (hk:k < x.Orders.length) (hj:k + 1 ≤ j) (h2:j < x.Orders.length):(lvl (exx D x m T) k).cs.getD (j - (k + 1)) [] = (lvl x k).cs.getD (j - (k + 1)) [] ++ T.getD (base x.Orders.length k + (j - (k + 1))) []:=by
 rw [exl_cs h hE hT hk,List.getD_eq_getElem?_getD,List.getElem?_append_left (by rw [eC1_len h hE hT];omega),eC1]
 simp only [gl,List.getElem?_map]
 rw [List.getElem?_range (by omega)]
 rfl
theorem T_row {i j:Nat} (hi:i < j) (hj:j < x.Orders.length):Row m.Prime D (T.getD (base x.Orders.length i + (j - (i + 1))) []):=by
 have _:=h
 have hn:=hE.hn
 have hb:=base_le x.Orders.length (by omega) i (by omega)
 exact hT _ (by rw [hE.t];omega)
theorem T_rowp {i:Nat} (hi:i < x.Orders.length):Row m.Prime D (T.getD i []):=by
 have _:=h
 have hn:=hE.hn
 have hb:=base_big x.Orders.length (by omega)
 exact hT _ (by rw [hE.t];omega)
theorem epow_1 {k j:Nat} (hj:k ≤ j) (h2:j < x.Orders.length):((exx D x m T).Powers.getD j []).drop (k + 1) = (x.Powers.getD j []).drop (k + 1) ++ T.getD j []:=by
 have t1:=(h.tl j h2).1.1.1
 have _:=hE;have _:=hT
 have hP:(exx D x m T).Powers.getD j [] = exP x.Orders.length D x T j:=gl_getD (by omega)
 rw [hP,exP,if_pos h2,List.drop_append_of_le_length (by omega)]
theorem epow_2 {k j:Nat} (hk:k < x.Orders.length) (hj:x.Orders.length ≤ j) (h2:j < x.Orders.length + D):((exx D x m T).Powers.getD j []).drop (k + 1) = zeros (x.Orders.length - (k + 1)) ++ zeros D:=by
 have _:=h;have _:=hE;have _:=hT
 have hP:(exx D x m T).Powers.getD j [] = exP x.Orders.length D x T j:=gl_getD (by omega)
 rw [hP,exP,if_neg (by omega),List.drop_replicate]
 simp only [zeros,List.replicate_append_replicate];congr 1;omega
theorem econ_C {i:Nat} (hi:i < x.Orders.length + D):(exx D x m T).Conjugates.getD i [] = exC x.Orders.length D x m T i:=by
 have _:=h;have _:=hE;have _:=hT
 show (gl (x.Orders.length + D) (exC x.Orders.length D x m T)).getD i [] = _
 simp [gl,List.getD_eq_getElem?_getD,hi]
theorem econ_1 {k i j:Nat} (hk:k ≤ i) (hi:i < j) (hj:j < x.Orders.length):(((exx D x m T).Conjugates.getD i []).getD (j - (i + 1)) []).drop (k + 1) = ((x.Conjugates.getD i []).getD (j - (i + 1)) []).drop (k + 1) ++ T.getD (base x.Orders.length i + (j - (i + 1))) []:=by
 obtain ⟨_,t2,t3⟩:=h.tl i (by omega)
 have t:=(t3 (j - (i + 1)) (by omega)).1.1
 rw [econ_C h hE hT (by omega),exC,if_pos (by omega),gl_getD (by omega),exF,if_pos (by omega),List.drop_append_of_le_length (by omega)]
theorem econ_2 {k i j:Nat} (hk:k < x.Orders.length) (hi:i < x.Orders.length) (hj:x.Orders.length ≤ j) (h2:j < x.Orders.length + D):(((exx D x m T).Conjugates.getD i []).getD (j - (i + 1)) []).drop (k + 1) = zeros (x.Orders.length - (k + 1)) ++ (m.Actions.getD i []).getD (j - x.Orders.length) []:=by
 rw [econ_C h hE hT (by omega),exC,if_pos (by omega),gl_getD (by omega),exF,if_neg (by omega),List.drop_append_of_le_length (by simp;omega),List.drop_replicate,show j - (i + 1) - (x.Orders.length - 1 - i) = j - x.Orders.length from by omega]
 rfl
theorem econ_3 {k i j:Nat} (hk:k < x.Orders.length) (hi:x.Orders.length ≤ i) (hj:i < j) (h2:j < x.Orders.length + D):(((exx D x m T).Conjugates.getD i []).getD (j - (i + 1)) []).drop (k + 1) = zeros (x.Orders.length - (k + 1)) ++ unit D (j - x.Orders.length):=by
 rw [econ_C h hE hT (by omega),exC,if_neg (by omega),unC,gl_getD (by omega),unitv,mkv_drop,← unit_app (by omega),unit_mkv]
 rw [show x.Orders.length + D - (k + 1) = x.Orders.length - (k + 1) + D from by omega]
 refine mkv_congr fun q _ => ?_
 by_cases g:q = x.Orders.length - (k + 1) + (j - x.Orders.length)
 ·rw [if_pos g,if_pos (by omega)]
 ·rw [if_neg g,if_neg (by omega)]
theorem rel_lvl (hr:RelM x m D) {k:Nat} (hk:k < x.Orders.length):pw (PM m.Prime D) (idM D) (m.Actions.getD k []) (at0 x.Orders k).toNat = aM m D (k + 1) (lvl x k).w ∧
  ∀ i,k < i → i < x.Orders.length → PM m.Prime D (m.Actions.getD i []) (m.Actions.getD k []) = PM m.Prime D (m.Actions.getD k []) (aM m D (k + 1) ((lvl x k).cs.getD (i - (k + 1)) [])):=by
 have R:=rel_mat h hE.m hr (x.Orders.length - k) k (by omega)
 rw [suf_cons hk,act_drop h hE hT hk] at R
 obtain ⟨r1,r2,_⟩:=R
 refine ⟨r1,fun i h1 h2 => ?_⟩
 have hcl:=cs_length h hk
 have hl:=hE.m.len
 refine r2 (i - (k + 1)) _ _ ?_ ?_
 ·rw [List.getElem?_drop,show k + 1 + (i - (k + 1)) = i from by omega,List.getD_eq_getElem?_getD,List.getElem?_eq_getElem (by omega)];rfl
 ·rw [List.getD_eq_getElem?_getD,List.getElem?_eq_getElem (by omega)];rfl
theorem zv {k:Nat} (hk:k ≤ x.Orders.length):V (suf x k) (zeros (x.Orders.length - k)):=by
 have _:=hE;have _:=hT
 have:=V_zeros (h.okAt hk)
 rwa [suf_length] at this
theorem lc_all (hr:RelM x m D) {k:Nat} (hk:k < x.Orders.length) (hc:LCn x (exx D x m T) k):LC (exx D x m T) k:=by
 have hp:=hE.m.p.pos
 have hl:=ex_len h hE hT
 have hA:=hE.m.mat k hk
 obtain ⟨r1,r2⟩:=rel_lvl h hE hT hr hk
 have hz:=zv h hE hT (k:=k + 1) (by omega)
 have hD0:Row m.Prime D (zeros D):=zero_row (by omega)
 have hw:=(w_at h hk).2
 refine ⟨fun j h1 h2 => ?_,fun i h1 h2 j h3 h4 => ?_,hc.c3,fun j h1 h2 => ?_⟩
 ·rw [hl] at h2
  rcases Nat.lt_or_ge j x.Orders.length with g | g
  ·exact hc.c1 j h1 g
  ·have hq:=hA.2 (j - x.Orders.length) (by omega)
   rw [ecs_2 h hE hT hk g h2,epow_2 h hE hT hk g h2,ex_sig0 h hE hT hk hD0,rowM_zeros,ex_ord2 h hE hT g h2,zs_len h hE hT (by omega)]
   have e:=img_R1 h hE hT (d:=x.Orders.length - (k + 1)) (k:=k + 1) (by omega) [(m.Actions.getD k []).getD (j - x.Orders.length) []] [m.Prime] _ _ (fun r hr => by rw [List.mem_singleton.1 hr];exact hq) hz hD0
   have e2:iter m.Prime.toNat (fun w => adv m.Prime D w ((m.Actions.getD k []).getD (j - x.Orders.length) [])) (zeros D) = zeros D:=pw_adv (by omega)
   unfold pw
   refine e.trans ?_
   show zeros _ ++ iter m.Prime.toNat (fun w => adv m.Prime D w ((m.Actions.getD k []).getD (j - x.Orders.length) [])) (zeros D) = _
   rw [e2]
 ·rw [hl] at h4
  rcases Nat.lt_or_ge j x.Orders.length with g | g
  ·exact hc.c2 i h1 (by omega) j h3 g
  ·have hq:=hA.2 (j - x.Orders.length) (by omega)
   rw [ecs_2 h hE hT hk g h4]
   rcases Nat.lt_or_ge i x.Orders.length with gi | gi
   ·have hAi:=hE.m.mat i gi
    have hqi:=hAi.2 (j - x.Orders.length) (by omega)
    have hcv:=(conj_at' h hk h1 gi).2.2
    have ht:=T_row h hE hT (i:=k) (j:=i) (by omega) gi
    rw [ecs_1 h hE hT hk h1 gi,econ_2 h hE hT hk gi g h4,ex_sig0 h hE hT hk hqi,ex_L1 h hE hT _ (k + 1) (by omega) _ _ _ hq hcv ht,ex_R1 h hE hT _ (k + 1) (by omega) _ _ _ hcv ht (rowM_row (by omega)),adv_comm]
    congr 2
    rw [← PM_get (by rw [hA.1];omega),← PM_get (by rw [hAi.1];omega),r2 i (by omega) gi]
   ·have hqi:=hA.2 (i - x.Orders.length) (by omega)
    rw [ecs_2 h hE hT hk gi (by omega),econ_3 h hE hT hk gi (by omega) h4,ex_sig0 h hE hT hk (unit_row' (by omega)),rowM_unit (by omega) hA,ex_R1 h hE hT _ (k + 1) (by omega) _ _ _ hz hq hqi,ex_R1 h hE hT _ (k + 1) (by omega) _ _ _ hz hqi hq,adv_comm]
 ·rw [hl] at h2 ⊢
  rcases Nat.lt_or_ge j x.Orders.length with g | g
  ·have:=hc.c4 j h1 g
   rwa [hl] at this
  ·have ht:=T_rowp h hE hT hk
   have hu:Row m.Prime D (unit D (j - x.Orders.length)):=unit_row' (by omega)
   rw [show x.Orders.length + D - (k + 1) = x.Orders.length - (k + 1) + D from by omega,show j - (k + 1) = x.Orders.length - (k + 1) + (j - x.Orders.length) from by omega,unit_app (by omega),exl_o h hE hT hk,ex_iter0 h hE hT hk _ hu,exl_w h hE hT hk,iter_rowM hA (by omega) hu,r1,ex_L1 h hE hT _ (k + 1) (by omega) _ _ _ hu hw ht,ex_R1 h hE hT _ (k + 1) (by omega) _ _ _ hw ht (rowM_row (by omega)),adv_comm]
theorem lc_mod {k:Nat} (hk:x.Orders.length ≤ k) (h2:k < x.Orders.length + D):LC (exx D x m T) k:=by
 have hp:=hE.m.p.pos
 have hl:=ex_len h hE hT
 have hs:=suf_tlv h hE hT (x.Orders.length + D - (k + 1)) (k + 1) (by omega) (by omega)
 have hL:=suf_tlv h hE hT (x.Orders.length + D - (k + 1) + 1) k (by omega) (by omega)
 rw [suf_cons (by omega),hs,tlv] at hL
 have hlv:lvl (exx D x m T) k = ⟨m.Prime,zeros (x.Orders.length + D - (k + 1)),units (x.Orders.length + D - (k + 1))⟩:=(List.cons.inj hL).1
 generalize hd:x.Orders.length + D - (k + 1) = d at *
 have hsig:∀ w,Row m.Prime d w → sig (tlv m.Prime d) ⟨m.Prime,zeros d,units d⟩ w = w:=fun w hw => tlv_sig (by omega) hw
 have hzr:Row m.Prime d (zeros d):=zero_row (by omega)
 have hum:∀ j,(units d).getD j [] = if j < d then unit d j else []:=fun j => by
  by_cases g:j < d
  ·rw [if_pos g,units_getD g]
  ·rw [if_neg g,List.getD_eq_getElem?_getD,List.getElem?_eq_none (by simp [units];omega)];rfl
 refine ⟨fun j h1 h3 => ?_,fun i h1 h3 j h4 h5 => ?_,?_,fun j h1 h3 => ?_⟩
 ·rw [hl] at h3
  have hP:(exx D x m T).Powers.getD j [] = exP x.Orders.length D x T j:=gl_getD (by omega)
  rw [hs,hlv,ex_ord2 h hE hT (by omega) h3,hP,exP,if_neg (by omega),List.drop_replicate,hd]
  show pw (mul (tlv m.Prime d)) (zeros (tlv m.Prime d).length) ((units d).getD (j - (k + 1)) []) m.Prime.toNat = sig (tlv m.Prime d) ⟨m.Prime,zeros d,units d⟩ (zeros d)
  rw [hsig _ hzr,hum,if_pos (by omega),tlv_len]
  have e:=img_congr (S:=Row m.Prime d) (m':=adv m.Prime d) (fun a b ha hb => tlv_mul (by omega) d a b ha hb) (fun _ _ _ _ => adv_row (by omega)) [unit d (j - (k + 1))] [m.Prime] (zeros d) (fun c hc => by rw [List.mem_singleton.1 hc];exact unit_row' (by omega)) hzr
  exact e.trans (pw_adv (by omega))
 ·rw [hl] at h3 h5
  rw [hs,hlv,econ_C h hE hT h3,exC,if_neg (by omega),unC,gl_getD (by omega),unitv,mkv_drop,hd]
  have e:(mkv d fun q => if k + 1 + q = i + 1 + (j - (i + 1)) then (1:Int) else 0) = unit d (j - (k + 1)):=by
   rw [unit_mkv]
   refine mkv_congr fun q _ => ?_
   by_cases g:q = j - (k + 1)
   ·rw [if_pos g,if_pos (by omega)]
   ·rw [if_neg g,if_neg (by omega)]
  rw [e,hsig _ (unit_row' (by omega))]
  show mul (tlv m.Prime d) ((units d).getD (j - (k + 1)) []) ((units d).getD (i - (k + 1)) []) = mul (tlv m.Prime d) ((units d).getD (i - (k + 1)) []) (unit d (j - (k + 1)))
  rw [hum,hum,if_pos (by omega),if_pos (by omega),tlv_mul (by omega) d _ _ (unit_row' (by omega)) (unit_row' (by omega)),tlv_mul (by omega) d _ _ (unit_row' (by omega)) (unit_row' (by omega)),adv_comm]
 ·rw [hs,hlv,hsig _ hzr]
 ·rw [hl] at h3 ⊢
  have hu:Row m.Prime d (unit d (j - (k + 1))):=unit_row' (by omega)
  rw [hs,hlv,hd,iter_fix (hsig _ hu),tlv_mul (by omega) d _ _ hzr hu,tlv_mul (by omega) d _ _ hu hzr,adv_comm]
theorem cons_mod:∀ (d k:Nat),x.Orders.length ≤ k → k + d = x.Orders.length + D → Cons (suf (exx D x m T) k)
 | 0,k,hk,hd => by
  rw [suf_nil (by rw [ex_len h hE hT];omega)];simp only [Cons]
 | d + 1,k,hk,hd => (cons_iff (ex_pres h hE hT) (by rw [ex_len h hE hT];omega)).2 ⟨cons_mod d (k + 1) (by omega) (by omega),lc_mod h hE hT hk (by omega)⟩
theorem ex_cons (hr:RelM x m D):Cons (suf (exx D x m T) 0) ↔ ∀ k,k < x.Orders.length → LCn x (exx D x m T) k:=by
 have hl:=ex_len h hE hT
 have key:∀ (d k:Nat),k + d = x.Orders.length → (Cons (suf (exx D x m T) k) ↔ ∀ i,k ≤ i → i < x.Orders.length → LCn x (exx D x m T) i):=by
  intro d
  induction d with
  | zero => intro k hk;exact ⟨fun _ i h1 h2 => by omega,fun _ => cons_mod h hE hT D k (by omega) (by omega)⟩
  | succ d ih =>
   intro k hk
   rw [cons_iff (ex_pres h hE hT) (by omega),ih (k + 1) (by omega)]
   constructor
   ·rintro ⟨g1,g2⟩ i h1 h2
    rcases Nat.lt_or_ge k i with g | g
    ·exact g1 i (by omega) h2
    ·obtain rfl:i = k:=by omega
     exact ⟨fun j a b => g2.c1 j a (by omega),fun i a b j c d => g2.c2 i a (by omega) j c (by omega),g2.c3,fun j a b => g2.c4 j a (by omega)⟩
   ·exact fun g => ⟨fun i h1 h2 => g i (by omega) h2,lc_all h hE hT hr (by omega) (g k (by omega) (by omega))⟩
 have:=key x.Orders.length 0 (by omega)
 rw [this]
 exact ⟨fun g k hk => g k (by omega) hk,fun g k _ hk => g k hk⟩
end
end Go.Pl

namespace Go.Pl
open Go Go.Ab Go.Wk Go.Pc
def prE (x:SPr) (k:Nat) (w:Vec):Sl23Pair:=⟨fv k (w.take (x.Orders.length - k)),w.drop (x.Orders.length - k)⟩
theorem prE_app {x:SPr} {k:Nat} {y u:Vec} (hy:y.length = x.Orders.length - k):prE x k (y ++ u) = ⟨fv k y,u⟩:=by
 rw [prE,List.take_left' hy,List.drop_left' hy]
theorem iter_loop3 {α α' β:Type} {body:α × α' × Int → Option ((α × α' × Int) ⊕ (α × α'))} {S:β → Prop} (e1:β → α) (e2:β → α') (g:β → β) (n:Int) (hn:0 ≤ n) (hS:∀ a,S a → S (g a))
  (h:∀ a (i:Nat),S a → (i:Int) < n → body (e1 a,e2 a,(i:Int)) = some (.inl (e1 (g a),e2 (g a),((i + 1:Nat):Int)))) (he:∀ a,S a → body (e1 a,e2 a,n) = some (.inr (e1 a,e2 a))) {a:β} (ha:S a) :
  loopO body (e1 a,e2 a,0) = some (e1 (iter n.toNat g a),e2 (iter n.toNat g a)):=by
 have hit:∀ k,S (iter k g a):=fun k => iter_in (S:=S) hS k ha
 exact loopO_seq (body:=body) (r:=(e1 (iter n.toNat g a),e2 (iter n.toNat g a))) (fun i => (e1 (iter i g a),e2 (iter i g a),(i:Int))) n.toNat (fun i hi => by
  rw [h _ i (hit i) (by omega),iter_succ]) (by
  rw [show ((n.toNat:Nat):Int) = n from by omega]
  exact he _ (hit _))
section
variable {D:Nat} {x:SPr} {m:SModule} {T:Mx} (h:Pres x) (hE:ExOk x.Orders.length D x m T) (hT:∀ i,i < T.length → Row m.Prime D (T.getD i []))
def FAt2 (D:Nat) (x:SPr) (m:SModule) (T:Mx) (k:Nat) (g:Sl23Rules → Int → Sl23Pair → Sl23Pair → Option Sl23Pair):Prop :=
 ∀ a b,V (suf (exx D x m T) k) a → V (suf (exx D x m T) k) b → g ⟨x,m,T⟩ k (prE x k a) (prE x k b) = some (prE x k (mul (suf (exx D x m T) k) a b))
def FIm2 (D:Nat) (x:SPr) (m:SModule) (T:Mx) (k:Nat) (g:Sl23Rules → Int → Sl23Pair → Option Sl23Pair):Prop :=
 ∀ v,V (suf (exx D x m T) (k + 1)) v → g ⟨x,m,T⟩ k (prE x (k + 1) v) = some (prE x (k + 1) (sig (suf (exx D x m T) (k + 1)) (lvl (exx D x m T) k) v))
 include h hE hT
theorem conj_pr {k i j:Nat} (hk:k ≤ i) (hi:i < j) (hj:j < x.Orders.length):f_N ⟨x,m,T⟩ (i:Int) (j:Int) = some (prE x (k + 1) ((((exx D x m T).Conjugates.getD i []).getD (j - (i + 1)) []).drop (k + 1))) ∧ V (suf (exx D x m T) (k + 1)) ((((exx D x m T).Conjugates.getD i []).getD (j - (i + 1)) []).drop (k + 1)):=by
 have hn:=hE.hn
 have hb:=base_le x.Orders.length (by omega) i (by omega)
 have ht:=hE.t
 obtain ⟨_,t2,t3⟩:=h.tl i (by omega)
 have tt:=t3 (j - (i + 1)) (by omega)
 obtain ⟨e1,e2⟩:=exp_drop (k:=k + 1) tt (by omega) (by omega)
 have hl:=V_len h (by omega) e2
 have hcl:=h.cl
 have hr:=T_row h hE hT hi hj
 refine ⟨?_,?_⟩
 ·rw [econ_1 h hE hT hk hi hj,prE_app hl,← e1]
  unfold f_N
  dsimp only
  rw [ixO_d [] (by omega),bs,rng_of (by omega) (by omega),bs,rng_of (by omega) (by omega),bs,show (j:Int) - (i:Int) - 1 = ((j - (i + 1):Nat):Int) from by omega,ixO_d [] (by omega),bs,place_spec x.Orders.length (by omega) j hj i hi,bs,ixO_d [] (by omega),bs,show j - i - 1 = j - (i + 1) from by omega]
 ·rw [econ_1 h hE hT hk hi hj]
  exact (V_ext h hE hT (x.Orders.length - (k + 1)) (k + 1) (by omega) _).2 ⟨_,_,rfl,e2,hr⟩
theorem conj_prk {k j:Nat} (hk:k < j) (hj:j < x.Orders.length):f_N ⟨x,m,T⟩ (k:Int) (j:Int) = some (prE x (k + 1) ((lvl (exx D x m T) k).cs.getD (j - (k + 1)) [])) ∧ V (suf (exx D x m T) (k + 1)) ((lvl (exx D x m T) k).cs.getD (j - (k + 1)) []):=by
 have e:(lvl (exx D x m T) k).cs.getD (j - (k + 1)) [] = (((exx D x m T).Conjugates.getD k []).getD (j - (k + 1)) []).drop (k + 1):=by
  have hC:((exx D x m T).Conjugates.getD k []).length = x.Orders.length + D - 1 - k:=by rw [econ_C h hE hT (by omega),exC,if_pos (by omega),gl_len]
  simp only [lvl]
  rw [List.getD_eq_getElem?_getD,List.getElem?_map,List.getElem?_eq_getElem (by omega),List.getD_eq_getElem?_getD (l:=(exx D x m T).Conjugates.getD k []),List.getElem?_eq_getElem (by omega)]
  rfl
 rw [e]
 exact conj_pr h hE hT (Nat.le_refl k) hk hj
theorem pow_pr {k j:Nat} (hk:k ≤ j) (hj:j < x.Orders.length):f_aE ⟨x,m,T⟩ (j:Int) = some (prE x (k + 1) (((exx D x m T).Powers.getD j []).drop (k + 1))) ∧ V (suf (exx D x m T) (k + 1)) (((exx D x m T).Powers.getD j []).drop (k + 1)):=by
 have hn:=hE.hn
 have hb:=base_big x.Orders.length (by omega)
 have ht:=hE.t
 have hpl:=h.pl
 have t1:=(h.tl j hj).1
 obtain ⟨e1,e2⟩:=exp_drop (k:=k + 1) t1 (by omega) (by omega)
 have hl:=V_len h (by omega) e2
 have hr:=T_rowp h hE hT hj
 refine ⟨?_,?_⟩
 ·rw [epow_1 h hE hT hk hj,prE_app hl,← e1]
  unfold f_aE
  dsimp only
  rw [ixO_d [] (by omega),bs,ixO_d [] (by omega),bs]
 ·rw [epow_1 h hE hT hk hj]
  exact (V_ext h hE hT (x.Orders.length - (k + 1)) (k + 1) (by omega) _).2 ⟨_,_,rfl,e2,hr⟩
theorem zero_pr {k:Nat} (hk:k ≤ x.Orders.length) (h0:0 < x.Orders.length):f_at ⟨x,m,T⟩ = some (prE x k (zeros (suf (exx D x m T) k).length)):=by
 have hn:=hE.hn
 have h3:=hE.m.d3
 have hb:=base_big x.Orders.length (by omega)
 have ht:=hE.t
 have hr:=T_rowp h hE hT h0
 have hrl:=hr.1
 unfold f_at
 dsimp only
 have e0:ixO T 0 = some (T.getD 0 []):=ixO_d (i:=0) [] (by omega)
 rw [decide_eq_true (by omega),cnd_t,e0,bs,lenOk_nat (by omega),bs,lenOk_nat (by omega),bs,zs_len h hE hT hk,prE_app (zeros_length _),hrl,fv]
 congr 2
 simp only [zeros,List.replicate_append_replicate];congr 1;omega
theorem move_eq {k:Nat} (hk:k < x.Orders.length) {u:Vec} (hu:Row m.Prime D u):f_ae m u (k:Int) = some (rowM m.Prime D u (m.Actions.getD k [])):=by
 have _:=h;have _:=hT
 have hn:=hE.hn
 have h3:=hE.m.d3
 have h1:=hE.m.d1
 have hA:=hE.m.mat k hk
 have hul:=hu.1
 have hl:=hE.m.len
 unfold f_ae
 have e1:l1_ae m u (k:Int) ([],0) = some (.inl (rowM m.Prime D u (m.Actions.getD k []),(D:Int))):=by
  unfold l1_ae
  simp only
  rw [decide_eq_true (by omega),cnd_t,hE.m.d,rng_of (by omega) (by omega),bs,Int.zero_add]
  have hsl:sliceO u 0 (D:Int) = some u:=by
   unfold sliceO
   rw [if_pos ⟨by omega,by omega,by omega⟩]
   congr 1
   rw [show ((D:Int)).toNat = D from by omega,show (0:Int).toNat = 0 from rfl,List.drop_zero,List.take_of_length_le (by omega)]
  rw [hsl,bs,ixO_d [] (by omega),bs,times_spec hE.m.p (by omega) hu hA,bs,appO_of (by rw [rowM,mkv_length];simp;omega),bs,bs,List.nil_append]
 have e2:l1_ae m u (k:Int) (rowM m.Prime D u (m.Actions.getD k []),(D:Int)) = some (.inr (rowM m.Prime D u (m.Actions.getD k []))):=by
  unfold l1_ae
  simp only
  rw [decide_eq_false (by omega),cnd_f]
 rw [loopO_eq,e1]
 simp only
 rw [loopO_eq,e2]
 rfl
theorem add_eq {u v:Vec} (hu:Row m.Prime D u) (hv:Row m.Prime D v):f_m m.Prime u 1 v = some (adv m.Prime D u v):=by
 have _:=h;have _:=hT
 have h3:=hE.m.d3
 rw [l02Add_spec hE.m.p hu hv (by omega) (by omega)]
 congr 1
 exact mkv_congr fun j _ => by rw [Int.one_mul]
theorem prV {k:Nat} (hk:k ≤ x.Orders.length) {w:Vec} (hw:V (suf (exx D x m T) k) w):∃ y u,w = y ++ u ∧ V (suf x k) y ∧ Row m.Prime D u ∧ prE x k w = ⟨fv k y,u⟩ ∧ y.length = x.Orders.length - k:=by
 obtain ⟨y,u,rfl,hy,hu⟩:=(V_ext h hE hT (x.Orders.length - k) k (by omega) _).1 hw
 have hyl:=V_len h hk hy
 exact ⟨y,u,rfl,hy,hu,prE_app hyl,hyl⟩
theorem image2_step {k:Nat} (hk:k < x.Orders.length) {g:Sl23Rules → Int → Sl23Pair → Sl23Pair → Option Sl23Pair} (hg:FAt2 D x m T (k + 1) g):FIm2 D x m T k (b_f g):=by
 intro v hv
 have hn:=hE.hn
 have hp:=hE.m.p.pos
 have ok:=ex_ok h hE hT (k:=k + 1) (by omega)
 have hA:=hE.m.mat k hk
 obtain ⟨y,u,rfl,hy,hu,hpr,hyl⟩:=prV h hE hT (k:=k + 1) (by omega) hv
 obtain ⟨_,hyr⟩:=V_at h.os (x.Orders.length - (k + 1)) (k + 1) y (by omega) hy
 have hcl:=eC1_len h hE hT (k:=k)
 have hcs:=eC1_V h hE hT hk
 have hcg:∀ i,i < x.Orders.length - (k + 1) → (eC1 x T k).getD i [] = (lvl (exx D x m T) k).cs.getD i []:=fun i hi => by
  rw [exl_cs h hE hT hk,List.getD_eq_getElem?_getD,List.getD_eq_getElem?_getD,List.getElem?_append_left (by omega)]
 obtain ⟨A,hAe⟩:∃ A:Nat → Vec,∀ i,A i = img (mul (suf (exx D x m T) (k + 1))) ((eC1 x T k).take i) (y.take i) (zeros (suf (exx D x m T) (k + 1)).length):=⟨_,fun _ => rfl⟩
 have hI:∀ i,V (suf (exx D x m T) (k + 1)) (A i):=fun i => by
  rw [hAe];exact img_in' (mul_in ok) _ _ (fun c hc => hcs c (List.mem_of_mem_take hc)) (V_zeros ok)
 have hA0:A 0 = zeros (suf (exx D x m T) (k + 1)).length:=by rw [hAe];simp only [List.take_zero,img]
 have hAn:A (x.Orders.length - (k + 1)) = sgG D x m T k y:=by
  rw [hAe,List.take_of_length_le (by omega),List.take_of_length_le (by omega)];rfl
 rw [hpr]
 unfold b_f
 dsimp only
 rw [zero_pr h hE hT (k:=k + 1) (by omega) (by omega),bs,rng_of (by omega) (by omega),bs,cs]
 have:=loopO_seq (body:=l2_f g ⟨x,m,T⟩ k ⟨fv (k + 1) y,u⟩) (r:=((prE x (k + 1) (sgG D x m T k y)).x,(prE x (k + 1) (sgG D x m T k y)).v))
  (fun i => ((prE x (k + 1) (A i)).x,(prE x (k + 1) (A i)).v,((k + 1 + i:Nat):Int))) (x.Orders.length - (k + 1)) (fun i hi => by
  have hr:=hyr i hi
  obtain ⟨c1,c2⟩:=conj_prk h hE hT (k:=k) (j:=k + 1 + i) (by omega) (by omega)
  rw [show k + 1 + i - (k + 1) = i from by omega] at c1 c2
  unfold l2_f
  dsimp only
  rw [decide_eq_true (by rw [fv_len h (by omega) hy];omega),cnd_t]
  rw [iter_loop3 (S:=V (suf (exx D x m T) (k + 1))) (fun w => (prE x (k + 1) w).x) (fun w => (prE x (k + 1) w).v) (fun w => mul (suf (exx D x m T) (k + 1)) w ((lvl (exx D x m T) k).cs.getD i [])) (at0 y i) hr.1 (fun w hw => mul_in ok hw c2) (fun w q hw hq => by
   unfold l1_f
   dsimp only
   rw [fv,z_ix (by omega),bs,decide_eq_true hq,cnd_t,rng_of (by omega) (by omega),bs,c1,bs,cs,show (Sl23Pair.mk (prE x (k + 1) w).x (prE x (k + 1) w).v) = prE x (k + 1) w from rfl,hg w _ hw c2,bs,rng_of (by omega) (by omega),bs,cs]) (fun w hw => by
   unfold l1_f
   dsimp only
   rw [fv,z_ix (by omega),bs,decide_eq_false (by omega),cnd_f]) (hI i),bs,rng_of (by omega) (by omega),bs,cs]
  rw [hAe (i + 1),img_take _ _ _ _ (by omega) (by omega),hcg i hi,← hAe]
  rfl) (by
  unfold l2_f
  dsimp only
  rw [decide_eq_false (by rw [fv_len h (by omega) hy];omega),cnd_f,hAn])
 rw [hA0,Nat.add_zero] at this
 rw [this,bs,move_eq h hE hT hk hu,bs]
 obtain ⟨y1,u1,e,hy1,hu1,hpr1,hyl1⟩:=prV h hE hT (k:=k + 1) (by omega) (sgG_V h hE hT hk (y:=y))
 rw [ex_sig h hE hT hk hy hu,hpr1,e,List.take_left' hyl1,List.drop_left' hyl1,prE_app hyl1]
 dsimp only
 rw [add_eq h hE hT hu1 (rowM_row (by omega)),bs]
theorem at2_step {k:Nat} (hk:k < x.Orders.length) {g:Sl23Rules → Int → Sl23Pair → Sl23Pair → Option Sl23Pair} {gi:Sl23Rules → Int → Sl23Pair → Option Sl23Pair} (hg:FAt2 D x m T (k + 1) g) (hi:FIm2 D x m T k gi):FAt2 D x m T k (b_e gi g):=by
 intro a b ha hb
 have hn:=hE.hn
 have hl:=ex_len h hE hT
 have hp:=(h.os.2 k hk).pos
 have ok:=ex_ok h hE hT (k:=k + 1) (by omega)
 have ok0:=ex_ok h hE hT (k:=k) (by omega)
 obtain ⟨al,au,rfl,hal,hau,hpa,hall⟩:=prV h hE hT (k:=k) (by omega) ha
 obtain ⟨bl,bu,rfl,hbl,hbu,hpb,hbll⟩:=prV h hE hT (k:=k) (by omega) hb
 rw [hpa,hpb]
 rw [suf_cons (x:=x) hk] at hal hbl
 rw [suf_cons (x:=exx D x m T) (by omega)] at ok0 ⊢
 obtain ⟨a0,a,rfl⟩:∃ a0 a',al = a0 :: a':=by cases al with | nil => exact hal.elim | cons p q => exact ⟨p,q,rfl⟩
 obtain ⟨b0,b,rfl⟩:∃ a0 a',bl = a0 :: a':=by cases bl with | nil => exact hbl.elim | cons p q => exact ⟨p,q,rfl⟩
 obtain ⟨⟨a1,a2⟩,hal⟩:=hal
 obtain ⟨⟨b1,b2⟩,hbl⟩:=hbl
 change a0 < at0 x.Orders k at a2
 change b0 < at0 x.Orders k at b2
 have hal1:=V_len h (by omega) hal
 have hbl1:=V_len h (by omega) hbl
 have hA:=(V_ext h hE hT (x.Orders.length - (k + 1)) (k + 1) (by omega) (a ++ au)).2 ⟨_,_,rfl,hal,hau⟩
 have hB:=(V_ext h hE hT (x.Orders.length - (k + 1)) (k + 1) (by omega) (b ++ bu)).2 ⟨_,_,rfl,hbl,hbu⟩
 have own:∀ u,V (suf x (k + 1)) u → f_v (fv (k + 1) u) = some (fv (k + 1) u):=fun u hu => own_spec (by
  rw [fv_len h (by omega) hu];omega)
 have own':∀ (c:Int) u,V (suf x (k + 1)) u → f_v (fv k (c :: u)) = some (fv k (c :: u)):=fun c u hu => own_spec (by
  have:=V_len h (by omega) hu
  rw [fv,List.length_append,zeros_length,List.length_cons];omega)
 have hsig:∀ u,V (suf (exx D x m T) (k + 1)) u → V (suf (exx D x m T) (k + 1)) (sig (suf (exx D x m T) (k + 1)) (lvl (exx D x m T) k) u):=fun u hu => sig_in ok0 hu
 have hit:V (suf (exx D x m T) (k + 1)) (iter b0.toNat (sig (suf (exx D x m T) (k + 1)) (lvl (exx D x m T) k)) (a ++ au)):=iter_in hsig _ hA
 have ea:(⟨fv (k + 1) a,au⟩:Sl23Pair) = prE x (k + 1) (a ++ au):=(prE_app hal1).symm
 have eb:(⟨fv (k + 1) b,bu⟩:Sl23Pair) = prE x (k + 1) (b ++ bu):=(prE_app hbl1).symm
 unfold b_e
 dsimp only
 rw [decide_eq_false (by omega),cnd_f,own' _ _ hal,bs,own' _ _ hbl,bs,z_get,bs,z_get,bs,Int.toNat_natCast,z_set,z_set,z_zero,z_zero]
 have e1:loopO (l1_e gi ⟨x,m,T⟩ k ⟨fv k (b0 :: b),bu⟩) (zeros (k + 1) ++ a,au,0) = some ((prE x (k + 1) (iter b0.toNat (sig (suf (exx D x m T) (k + 1)) (lvl (exx D x m T) k)) (a ++ au))).x,(prE x (k + 1) (iter b0.toNat (sig (suf (exx D x m T) (k + 1)) (lvl (exx D x m T) k)) (a ++ au))).v):=by
  have:=iter_loop3 (body:=l1_e gi ⟨x,m,T⟩ k ⟨fv k (b0 :: b),bu⟩) (S:=V (suf (exx D x m T) (k + 1))) (fun w => (prE x (k + 1) w).x) (fun w => (prE x (k + 1) w).v) (sig (suf (exx D x m T) (k + 1)) (lvl (exx D x m T) k)) b0 b1 hsig (fun w q hw hq => by
   unfold l1_e
   dsimp only
   rw [z_get,bs,decide_eq_true hq,cnd_t,show (Sl23Pair.mk (prE x (k + 1) w).x (prE x (k + 1) w).v) = prE x (k + 1) w from rfl,hi w hw,bs,rng_of (by omega) (by omega),bs,cs]) (fun w hw => by
   unfold l1_e
   dsimp only
   rw [z_get,bs,decide_eq_false (by omega),cnd_f]) hA
  rw [← ea] at this
  exact this
 rw [e1,bs,rng_of (by omega) (by omega),bs,cs]
 dsimp only
 rw [show zeros (k + 1) ++ b = fv (k + 1) b from rfl,eb,show (Sl23Pair.mk (prE x (k + 1) (iter b0.toNat (sig (suf (exx D x m T) (k + 1)) (lvl (exx D x m T) k)) (a ++ au))).x (prE x (k + 1) (iter b0.toNat (sig (suf (exx D x m T) (k + 1)) (lvl (exx D x m T) k)) (a ++ au))).v) = prE x (k + 1) (iter b0.toNat (sig (suf (exx D x m T) (k + 1)) (lvl (exx D x m T) k)) (a ++ au)) from rfl,hg _ _ hit hB,bs,bs,bs,rng_of (by omega) (by omega),bs,ixO_at hk,bs]
 have hm:=mul_in ok hit hB
 show _ = some (prE x k (mul _ (a0 :: (a ++ au)) (b0 :: (b ++ bu))))
 rw [mul_cons,exl_o h hE hT hk]
 generalize mul (suf (exx D x m T) (k + 1)) (iter b0.toNat (sig (suf (exx D x m T) (k + 1)) (lvl (exx D x m T) k)) (a ++ au)) (b ++ bu) = r at hm ⊢
 have fin:∀ (c:Int) w,V (suf (exx D x m T) (k + 1)) w → ((f_v (prE x (k + 1) w).x).bind fun r22 => (ixO r22 (k:Int)).bind fun _ => some (Sl23Pair.mk (r22.set k c) (prE x (k + 1) w).v)) = some (prE x k (c :: w)):=fun c w hw => by
  obtain ⟨w1,w2,rfl,h1,h2,h3,h4⟩:=prV h hE hT (k:=k + 1) (by omega) hw
  have e3:prE x k (c :: (w1 ++ w2)) = ⟨fv k (c :: w1),w2⟩:=prE_app (y:=c :: w1) (by rw [List.length_cons];omega)
  rw [h3,e3]
  dsimp only
  rw [own _ h1,bs,fv,← z_zero,z_get,bs,z_set]
 by_cases hge:a0 + b0 ≥ at0 x.Orders k
 ·obtain ⟨p1,p2⟩:=pow_pr h hE hT (k:=k) (j:=k) (Nat.le_refl k) hk
  change V (suf (exx D x m T) (k + 1)) (lvl (exx D x m T) k).w at p2
  rw [decide_eq_true hge,cnd_t,if_pos hge,bs,rng_of (by omega) (by omega),bs,bs,p1,bs]
  have e4:=hg _ _ p2 hm
  rw [show (((exx D x m T).Powers.getD k []).drop (k + 1)) = (lvl (exx D x m T) k).w from rfl,e4,bs]
  exact fin _ _ (mul_in ok p2 hm)
 ·rw [decide_eq_false hge,cnd_f,if_neg hge]
  exact fin _ _ hm
theorem spec2_fuel:∀ (d k:Nat),k + d = x.Orders.length → (∀ q,2 * d + 1 ≤ q → FAt2 D x m T k (fN_e q)) ∧ (1 ≤ d → ∀ q,2 * d ≤ q → FIm2 D x m T k (fN_f q))
 | 0,k,hk => by
  refine ⟨fun q hq a b ha hb => ?_,fun h => by omega⟩
  have hn:=hE.hn
  have hp:=hE.m.p.pos
  obtain ⟨q,rfl⟩:∃ m',q = m' + 1:=⟨q - 1,by omega⟩
  rw [suf_tlv h hE hT D k (by omega) (by omega)] at ha hb ⊢
  have ha':=(V_tlv _ _).1 ha
  have hb':=(V_tlv _ _).1 hb
  show b_e _ _ ⟨x,m,T⟩ k _ _ = _
  unfold b_e
  have e:∀ w:Vec,prE x k w = ⟨zeros k,w⟩:=fun w => by
   rw [prE,show x.Orders.length - k = 0 from by omega,List.take_zero,List.drop_zero,fv,List.append_nil]
  rw [e,e,e]
  dsimp only
  rw [decide_eq_true (by omega),cnd_t,lenOk_nat (by omega),bs,add_eq h hE hT ha' hb',bs,tlv_mul (by omega) D _ _ ha' hb',show x.Orders.length = k from by omega]
  rfl
 | d + 1,k,hk => by
  obtain ⟨h1,h2⟩:=spec2_fuel d (k + 1) (by omega)
  have hI:∀ q,2 * (d + 1) ≤ q → FIm2 D x m T k (fN_f q):=fun q hq => by
   obtain ⟨q,rfl⟩:∃ m',q = m' + 1:=⟨q - 1,by omega⟩
   exact image2_step h hE hT (by omega) (h1 q (by omega))
  refine ⟨fun q hq => ?_,fun _ => hI⟩
  obtain ⟨q,rfl⟩:∃ m',q = m' + 1:=⟨q - 1,by omega⟩
  exact at2_step h hE hT (by omega) (h1 q (by omega)) (hI q (by omega))
theorem spec2_At {k:Nat} (hk:k ≤ x.Orders.length):FAt2 D x m T k f_e:=fun a b ha hb =>
 fuelO_of (2 * (x.Orders.length - k) + 1) fun q hq => (spec2_fuel h hE hT (x.Orders.length - k) k (by omega)).1 q hq a b ha hb
theorem spec2_Image {k:Nat} (hk:k < x.Orders.length):FIm2 D x m T k f_f:=fun v hv =>
 fuelO_of (2 * (x.Orders.length - k)) fun q hq => (spec2_fuel h hE hT (x.Orders.length - k) k (by omega)).2 (by omega) q hq v hv
end
end Go.Pl

namespace Go.Pl
open Go Go.Ab Go.Wk Go.Pc
structure GR (p:Int) (D:Nat) (L:Mx) (N:Nat) (C:Prop):Prop where
 len:L.length ≤ N
 row:∀ r ∈ L,Row p D r
 iff:(∀ r ∈ L,r = zeros D) ↔ C
theorem GR.nil {p:Int} {D N:Nat}:GR p D [] N True:=⟨by simp,by simp,by simp⟩
theorem GR.app {p:Int} {D N M:Nat} {L L':Mx} {C C':Prop} (h:GR p D L N C) (h':GR p D L' M C'):GR p D (L ++ L') (N + M) (C ∧ C'):=by
 refine ⟨by have:=h.len;have:=h'.len;rw [List.length_append];omega,fun r hr => ?_,?_⟩
 ·rcases List.mem_append.1 hr with g | g
  ·exact h.row r g
  ·exact h'.row r g
 ·rw [← h.iff,← h'.iff]
  exact ⟨fun g => ⟨fun r hr => g r (List.mem_append_left _ hr),fun r hr => g r (List.mem_append_right _ hr)⟩,fun g r hr => (List.mem_append.1 hr).elim (g.1 r) (g.2 r)⟩
theorem GR.one {p:Int} {D:Nat} {r:List Int} {C:Prop} (hr:Row p D r) (h:r = zeros D ↔ C):GR p D [r] 1 C :=
 ⟨by simp,fun q hq => by rw [List.mem_singleton.1 hq];exact hr,by rw [← h];exact ⟨fun g => g r (by simp),fun g q hq => by rw [List.mem_singleton.1 hq];exact g⟩⟩
theorem GR.to {p:Int} {D N M:Nat} {L:Mx} {C C':Prop} (h:GR p D L N C) (hN:N ≤ M) (hc:C ↔ C'):GR p D L M C':=⟨by have:=h.len;omega,h.row,h.iff.trans hc⟩
def c1E (e:SPr) (k j:Nat):Prop:=pw (mul (suf e (k + 1))) (zeros (suf e (k + 1)).length) ((lvl e k).cs.getD (j - (k + 1)) []) (at0 e.Orders j).toNat = sig (suf e (k + 1)) (lvl e k) ((e.Powers.getD j []).drop (k + 1))
def c2E (e:SPr) (k i j:Nat):Prop:=mul (suf e (k + 1)) ((lvl e k).cs.getD (j - (k + 1)) []) ((lvl e k).cs.getD (i - (k + 1)) []) = mul (suf e (k + 1)) ((lvl e k).cs.getD (i - (k + 1)) []) (sig (suf e (k + 1)) (lvl e k) (((e.Conjugates.getD i []).getD (j - (i + 1)) []).drop (k + 1)))
def c4E (e:SPr) (k j:Nat):Prop:=mul (suf e (k + 1)) (lvl e k).w (iter (lvl e k).o.toNat (sig (suf e (k + 1)) (lvl e k)) (unit (e.Orders.length - (k + 1)) (j - (k + 1)))) = mul (suf e (k + 1)) (unit (e.Orders.length - (k + 1)) (j - (k + 1))) (lvl e k).w
section
variable {D:Nat} {x:SPr} {m:SModule} {T:Mx} (h:Pres x) (hE:ExOk x.Orders.length D x m T) (hT:∀ i,i < T.length → Row m.Prime D (T.getD i []))
 include h hE hT
theorem tk_mul {k:Nat} (hk:k ≤ x.Orders.length) {a b:Vec} (ha:V (suf (exx D x m T) k) a) (hb:V (suf (exx D x m T) k) b):(mul (suf (exx D x m T) k) a b).take (x.Orders.length - k) = mul (suf x k) (a.take (x.Orders.length - k)) (b.take (x.Orders.length - k)):=ex_proj h hE hT _ k (by omega) a b ha hb
theorem tk_sig {k:Nat} (hk:k < x.Orders.length) {v:Vec} (hv:V (suf (exx D x m T) (k + 1)) v):(sig (suf (exx D x m T) (k + 1)) (lvl (exx D x m T) k) v).take (x.Orders.length - (k + 1)) = sig (suf x (k + 1)) (lvl x k) (v.take (x.Orders.length - (k + 1))) :=
 sig_proj h hE hT hk (ex_proj h hE hT _ (k + 1) (by omega)) hv
theorem esig_V {k:Nat} (hk:k < x.Orders.length) {v:Vec} (hv:V (suf (exx D x m T) (k + 1)) v):V (suf (exx D x m T) (k + 1)) (sig (suf (exx D x m T) (k + 1)) (lvl (exx D x m T) k) v):=sig_V (ex_pres h hE hT) (by rw [ex_len h hE hT];omega) hv
theorem tk_iter {k:Nat} (hk:k < x.Orders.length):∀ (q:Nat) {v:Vec},V (suf (exx D x m T) (k + 1)) v → (iter q (sig (suf (exx D x m T) (k + 1)) (lvl (exx D x m T) k)) v).take (x.Orders.length - (k + 1)) = iter q (sig (suf x (k + 1)) (lvl x k)) (v.take (x.Orders.length - (k + 1)))
 | 0,_,_ => rfl
 | q + 1,v,hv => by
  have:=tk_iter hk q (esig_V h hE hT hk hv)
  rw [tk_sig h hE hT hk hv] at this
  exact this
theorem tk_zero {k:Nat} (hk:k ≤ x.Orders.length):(zeros (suf (exx D x m T) k).length).take (x.Orders.length - k) = zeros (suf x k).length:=by
 rw [zs_len h hE hT hk,List.take_left' (zeros_length _),suf_length]
theorem tk_pw {k:Nat} (hk:k ≤ x.Orders.length) {c:Vec} (hc:V (suf (exx D x m T) k) c) (q:Nat):(pw (mul (suf (exx D x m T) k)) (zeros (suf (exx D x m T) k).length) c q).take (x.Orders.length - k) = pw (mul (suf x k)) (zeros (suf x k).length) (c.take (x.Orders.length - k)) q:=by
 have ok:=ex_ok h hE hT (k:=k) (by omega)
 have:=img_proj (S:=V (suf (exx D x m T) k)) (n:=mul (suf x k)) (·.take (x.Orders.length - k)) (fun a b => mul_in ok) (fun a b => tk_mul h hE hT hk) [c] [(q:Int)] (zeros (suf (exx D x m T) k).length) (fun a ha => by rw [List.mem_singleton.1 ha];exact hc) (V_zeros ok)
 simp only [List.map_cons,List.map_nil,img,Int.toNat_natCast] at this
 rw [tk_zero h hE hT hk] at this
 exact this
theorem gap_eq {k:Nat} (hk:k ≤ x.Orders.length) {a b:Vec} (ha:V (suf (exx D x m T) k) a) (hb:V (suf (exx D x m T) k) b) (e:a.take (x.Orders.length - k) = b.take (x.Orders.length - k)):∃ r,f_af ⟨x,m,T⟩ (prE x k a) (prE x k b) = some r ∧ Row m.Prime D r ∧ (r = zeros D ↔ a = b):=by
 have h7:=hE.m.p.pos
 have h3:=hE.m.d3
 obtain ⟨y,u,rfl,hy,hu,hpr,hyl⟩:=prV h hE hT hk ha
 obtain ⟨z,v,rfl,hz,hv,hpr2,hzl⟩:=prV h hE hT hk hb
 rw [List.take_left' hyl,List.take_left' hzl] at e
 subst e
 unfold f_af
 rw [hpr,hpr2]
 dsimp only
 rw [rng_of (by omega) (by omega),bs,l02Add_spec hE.m.p hu hv (by omega) (by omega),bs,addM_minus]
 refine ⟨_,rfl,addM_row hE.m.p,?_⟩
 rw [List.append_cancel_left_eq,← addM_zero (p:=m.Prime) hu hv]
 constructor
 ·intro g j hj;rw [g,at0_zeros]
 ·intro g
  rw [mkv_eq (addM_len (p:=m.Prime) (r:=u) (s:=v) (k:=-1)),show zeros D = mkv D fun _ => 0 from mkv_zero D]
  exact mkv_congr fun j hj => g j hj
section
variable {k:Nat} (hk:k < x.Orders.length) (hc:LC x k)
 include hk
theorem tk_cs {j:Nat} (h1:k + 1 ≤ j) (h2:j < x.Orders.length):((lvl (exx D x m T) k).cs.getD (j - (k + 1)) []).take (x.Orders.length - (k + 1)) = (lvl x k).cs.getD (j - (k + 1)) []:=by
 rw [ecs_1 h hE hT hk h1 h2,List.take_left' (V_len h (by omega) (conj_at' h hk h1 h2).2.2)]
theorem tk_pow {j:Nat} (h1:k ≤ j) (h2:j < x.Orders.length):(((exx D x m T).Powers.getD j []).drop (k + 1)).take (x.Orders.length - (k + 1)) = (x.Powers.getD j []).drop (k + 1):=by
 have t1:=(h.tl j h2).1.1.1
 rw [epow_1 h hE hT h1 h2,List.take_left' (by rw [List.length_drop];omega)]
theorem tk_con {i j:Nat} (h1:k + 1 ≤ i) (h2:i < j) (h3:j < x.Orders.length):((((exx D x m T).Conjugates.getD i []).getD (j - (i + 1)) []).drop (k + 1)).take (x.Orders.length - (k + 1)) = ((x.Conjugates.getD i []).getD (j - (i + 1)) []).drop (k + 1):=by
 rw [econ_1 h hE hT (by omega) h2 h3,List.take_left' (V_len h (by omega) (cc_at h hk h1 h2 h3).2.2)]
theorem unit_e {j:Nat} (h1:k + 1 ≤ j) (h2:j < x.Orders.length):unit ((exx D x m T).Orders.length - (k + 1)) (j - (k + 1)) = unit (x.Orders.length - (k + 1)) (j - (k + 1)) ++ zeros D:=by
 rw [ex_len h hE hT,unit_eq (by omega),unit_eq (by omega),List.append_assoc,List.cons_append]
 simp only [zeros,List.replicate_append_replicate]
 rw [show x.Orders.length + D - (k + 1) - (j - (k + 1) + 1) = x.Orders.length - (k + 1) - (j - (k + 1) + 1) + D from by omega]
 include hc
theorem lev1 {j:Nat} (h1:k + 1 ≤ j) (h2:j < x.Orders.length) {L0 L:Mx} {N:Nat} {C:Prop} (hL:GR m.Prime D L N C) (hN:N ≤ 1000) {f:Mx → Option (Mx × Int ⊕ Mx)}:∃ L',((f_at ⟨x,m,T⟩).bind fun r2 =>
  (loopO (l1_h ⟨x,m,T⟩ (k:Int) (L0,(j:Int))) (r2.x,r2.v,0)).bind fun r8 =>
  (f_aE ⟨x,m,T⟩ (j:Int)).bind fun r9 =>
  (f_f ⟨x,m,T⟩ (k:Int) r9).bind fun r10 =>
  (f_af ⟨x,m,T⟩ (Sl23Pair.mk r8.1 r8.2) r10).bind fun r11 =>
  (appO L [r11]).bind f) = f L' ∧ GR m.Prime D L' (N + 1) (C ∧ c1E (exx D x m T) k j):=by
 have ok:=ex_ok h hE hT (k:=k + 1) (by omega)
 have hn:=hE.hn
 have hp:=(h.os.2 j h2).pos
 have hz:=V_zeros ok
 obtain ⟨c1,c2⟩:=conj_prk h hE hT (k:=k) (j:=j) (by omega) h2
 obtain ⟨p1,p2⟩:=pow_pr h hE hT (k:=k) (j:=j) (by omega) h2
 have hA:=spec2_At h hE hT (k:=k + 1) (by omega)
 have hI:=spec2_Image h hE hT hk
 have hlp:loopO (l1_h ⟨x,m,T⟩ (k:Int) (L0,(j:Int))) ((prE x (k + 1) (zeros (suf (exx D x m T) (k + 1)).length)).x,(prE x (k + 1) (zeros (suf (exx D x m T) (k + 1)).length)).v,0) = some ((prE x (k + 1) (pw (mul (suf (exx D x m T) (k + 1))) (zeros (suf (exx D x m T) (k + 1)).length) ((lvl (exx D x m T) k).cs.getD (j - (k + 1)) []) (at0 x.Orders j).toNat)).x,(prE x (k + 1) (pw (mul (suf (exx D x m T) (k + 1))) (zeros (suf (exx D x m T) (k + 1)).length) ((lvl (exx D x m T) k).cs.getD (j - (k + 1)) []) (at0 x.Orders j).toNat)).v) :=
  iter_loop3 (S:=V (suf (exx D x m T) (k + 1))) (fun w => (prE x (k + 1) w).x) (fun w => (prE x (k + 1) w).v) (fun w => mul (suf (exx D x m T) (k + 1)) w ((lvl (exx D x m T) k).cs.getD (j - (k + 1)) [])) (at0 x.Orders j) (by omega) (fun w hw => mul_in ok hw c2) (fun w q hw hq => by
   unfold l1_h
   dsimp only
   rw [ixO_at h2,bs,decide_eq_true hq,cnd_t,rng_of (by omega) (by omega),bs,c1,bs,cs,show (Sl23Pair.mk (prE x (k + 1) w).x (prE x (k + 1) w).v) = prE x (k + 1) w from rfl,hA w _ hw c2,bs,rng_of (by omega) (by omega),bs,cs]) (fun w hw => by
   unfold l1_h
   dsimp only
   rw [ixO_at h2,bs,decide_eq_false (by omega),cnd_f]) hz
 have hpw:V (suf (exx D x m T) (k + 1)) (pw (mul (suf (exx D x m T) (k + 1))) (zeros (suf (exx D x m T) (k + 1)).length) ((lvl (exx D x m T) k).cs.getD (j - (k + 1)) []) (at0 x.Orders j).toNat):=iter_in (fun w hw => mul_in ok hw c2) _ hz
 obtain ⟨r,r1,r2,r3⟩:=gap_eq h hE hT (k:=k + 1) (by omega) hpw (esig_V h hE hT hk p2) (by
  rw [tk_pw h hE hT (by omega) c2,tk_sig h hE hT hk p2,tk_cs h hE hT hk h1 h2,tk_pow h hE hT hk (by omega) h2]
  exact hc.c1 j h1 h2)
 have hll:=hL.len
 refine ⟨L ++ [r],?_,hL.app (GR.one r2 (r3.trans ?_))⟩
 ·rw [zero_pr h hE hT (k:=k + 1) (by omega) (by omega),bs,hlp,bs,p1,bs,hI _ p2,bs]
  dsimp only
  rw [r1,bs,appO_of (by simp;omega),bs]
 ·unfold c1E;rw [ex_ord1 h hE hT h2]
theorem lev2 {j:Nat} (h1:k + 1 ≤ j) (h2:j < x.Orders.length) {L0 L:Mx} {N:Nat} {C:Prop} (hL:GR m.Prime D L N C) (hN:N ≤ 1000):∃ L',loopO (l2_h ⟨x,m,T⟩ (k:Int) (L0,(j:Int))) (L,((j + 1:Nat):Int)) = some L' ∧ GR m.Prime D L' (N + (x.Orders.length - (j + 1))) (C ∧ ∀ j2,j + 1 ≤ j2 → j2 < x.Orders.length → c2E (exx D x m T) k j j2):=by
 have ok:=ex_ok h hE hT (k:=k + 1) (by omega)
 have hn:=hE.hn
 have hA:=spec2_At h hE hT (k:=k + 1) (by omega)
 have hI:=spec2_Image h hE hT hk
 refine loopO_tot (fun i (s:Mx × Int) => s.2 = ((j + 1 + i:Nat):Int) ∧ GR m.Prime D s.1 (N + i) (C ∧ ∀ j2,j + 1 ≤ j2 → j2 < j + 1 + i → c2E (exx D x m T) k j j2)) (x.Orders.length - (j + 1)) (fun i s hi ⟨hs,hg⟩ => ?_) (fun s ⟨hs,hg⟩ => ?_) ⟨rfl,hL.to (by omega) ⟨fun g => ⟨g,fun j2 a b => by omega⟩,fun g => g.1⟩⟩
 ·left
  obtain ⟨L1,s2⟩:=s
  dsimp only at hs hg
  subst hs
  have g2:j + 1 + i < x.Orders.length:=by omega
  obtain ⟨a1,a2⟩:=conj_prk h hE hT (k:=k) (j:=j) (by omega) h2
  obtain ⟨b1,b2⟩:=conj_prk h hE hT (k:=k) (j:=j + 1 + i) (by omega) g2
  obtain ⟨d1,d2⟩:=conj_pr h hE hT (k:=k) (i:=j) (j:=j + 1 + i) (by omega) (by omega) g2
  have hs:=esig_V h hE hT hk d2
  obtain ⟨r,r1,r2,r3⟩:=gap_eq h hE hT (k:=k + 1) (by omega) (mul_in ok b2 a2) (mul_in ok a2 hs) (by
   rw [tk_mul h hE hT (by omega) b2 a2,tk_mul h hE hT (by omega) a2 hs,tk_sig h hE hT hk d2,tk_cs h hE hT hk h1 h2,tk_cs h hE hT hk (by omega) g2,tk_con h hE hT hk h1 (by omega) g2]
   exact hc.c2 j h1 h2 (j + 1 + i) (by omega) g2)
  have hll:=hg.len
  refine ⟨(L1 ++ [r],((j + 1 + i + 1:Nat):Int)),?_,rfl,(hg.app (GR.one r2 r3)).to (by omega) ?_⟩
  ·unfold l2_h
   dsimp only
   rw [decide_eq_true (by omega),cnd_t,a1,bs,b1,bs,d1,bs,hI _ d2,bs,rng_of (by omega) (by omega),bs,cs,hA _ _ b2 a2,bs,bs,hA _ _ a2 hs,bs,r1,bs,appO_of (by simp;omega),bs,rng_of (by omega) (by omega),bs,cs]
  ·constructor
   ·rintro ⟨⟨g1,g3⟩,g4⟩
    refine ⟨g1,fun j2 e1 e2 => ?_⟩
    rcases Nat.lt_or_ge j2 (j + 1 + i) with e | e
    ·exact g3 j2 e1 e
    ·obtain rfl:j2 = j + 1 + i:=by omega
     exact g4
   ·rintro ⟨g1,g3⟩
    exact ⟨⟨g1,fun j2 e1 e2 => g3 j2 e1 (by omega)⟩,g3 (j + 1 + i) (by omega) (by omega)⟩
 ·obtain ⟨L1,s2⟩:=s
  dsimp only at hs hg
  subst hs
  refine ⟨L1,?_,hg.to (Nat.le_refl _) ?_⟩
  ·unfold l2_h
   dsimp only
   rw [decide_eq_false (by omega),cnd_f]
  ·rw [show j + 1 + (x.Orders.length - (j + 1)) = x.Orders.length from by omega]
theorem lev3:∃ L',loopO (l3_h ⟨x,m,T⟩ (k:Int)) ([],((k + 1:Nat):Int)) = some L' ∧ GR m.Prime D L' 100 (∀ j,k + 1 ≤ j → j < x.Orders.length → c1E (exx D x m T) k j ∧ ∀ j2,j + 1 ≤ j2 → j2 < x.Orders.length → c2E (exx D x m T) k j j2):=by
 have hn:=hE.hn
 refine loopO_tot (fun i (s:Mx × Int) => s.2 = ((k + 1 + i:Nat):Int) ∧ GR m.Prime D s.1 (7 * i) (∀ j,k + 1 ≤ j → j < k + 1 + i → c1E (exx D x m T) k j ∧ ∀ j2,j + 1 ≤ j2 → j2 < x.Orders.length → c2E (exx D x m T) k j j2)) (x.Orders.length - (k + 1)) (fun i s hi ⟨hs,hg⟩ => ?_) (fun s ⟨hs,hg⟩ => ?_) ⟨rfl,(GR.nil (N:=0)).to (by omega) ⟨fun _ j a b => by omega,fun _ => trivial⟩⟩
 ·left
  obtain ⟨L1,s2⟩:=s
  dsimp only at hs hg
  subst hs
  have g2:k + 1 + i < x.Orders.length:=by omega
  obtain ⟨L2,e2,hg2⟩:=lev1 h hE hT hk hc (j:=k + 1 + i) (by omega) g2 (L0:=L1) hg (by omega) (f:=fun v12 => (rng (((k + 1 + i:Nat):Int) + 1)).bind fun v13 =>
   (loopO (l2_h ⟨x,m,T⟩ (k:Int) (L1,((k + 1 + i:Nat):Int))) (v12,v13)).bind fun r25 =>
   (rng (((k + 1 + i:Nat):Int) + 1)).bind fun v26 => some (.inl (r25,v26)))
  obtain ⟨L3,e3,hg3⟩:=lev2 h hE hT hk hc (j:=k + 1 + i) (by omega) g2 (L0:=L1) hg2 (by omega)
  refine ⟨(L3,((k + 1 + i + 1:Nat):Int)),?_,rfl,hg3.to (by omega) ?_⟩
  ·unfold l3_h
   dsimp only
   rw [decide_eq_true (by omega),cnd_t,e2,rng_of (by omega) (by omega),bs,cs,e3,bs,bs]
  ·constructor
   ·rintro ⟨⟨g1,g3⟩,g4⟩ j e1 e2
    rcases Nat.lt_or_ge j (k + 1 + i) with e | e
    ·exact g1 j e1 e
    ·obtain rfl:j = k + 1 + i:=by omega
     exact ⟨g3,g4⟩
   ·intro g
    have:=g (k + 1 + i) (by omega) (by omega)
    exact ⟨⟨fun j e1 e2 => g j e1 (by omega),this.1⟩,this.2⟩
 ·obtain ⟨L1,s2⟩:=s
  dsimp only at hs hg
  subst hs
  refine ⟨L1,?_,hg.to (by omega) ?_⟩
  ·unfold l3_h
   dsimp only
   rw [decide_eq_false (by omega),cnd_f]
  ·rw [show k + 1 + (x.Orders.length - (k + 1)) = x.Orders.length from by omega]
theorem zero_set {j:Nat} (h1:k + 1 ≤ j) (h2:j < x.Orders.length):∃ r,f_at ⟨x,m,T⟩ = some r ∧ ixO r.x (j:Int) = some 0 ∧ r.x.set j 1 = (prE x (k + 1) (unit (x.Orders.length - (k + 1)) (j - (k + 1)) ++ zeros D)).x ∧ r.v = (prE x (k + 1) (unit (x.Orders.length - (k + 1)) (j - (k + 1)) ++ zeros D)).v:=by
 have _:=hc
 have hn:=hE.hn
 have hul:(unit (x.Orders.length - (k + 1)) (j - (k + 1))).length = x.Orders.length - (k + 1):=by rw [unit_mkv,mkv_length]
 refine ⟨_,zero_pr h hE hT (k:=k + 1) (by omega) (by omega),?_,?_,?_⟩
 ·rw [zs_len h hE hT (by omega),prE_app (zeros_length _)]
  dsimp only
  simp only [fv,zeros,List.replicate_append_replicate]
  rw [ixO_nat,List.getElem?_replicate,if_pos (by omega)]
 ·rw [zs_len h hE hT (by omega),prE_app (zeros_length _),prE_app hul]
  dsimp only
  have e1:fv (k + 1) (zeros (x.Orders.length - (k + 1))) = zeros j ++ 0 :: zeros (x.Orders.length - (k + 1) - (j - (k + 1) + 1)):=by
   simp only [fv,zeros]
   rw [← List.replicate_succ,List.replicate_append_replicate,List.replicate_append_replicate]
   congr 1;omega
  rw [e1,z_set,fv,unit_eq (by omega),← List.append_assoc]
  simp only [zeros,List.replicate_append_replicate]
  rw [show k + 1 + (j - (k + 1)) = j from by omega]
 ·rw [zs_len h hE hT (by omega),prE_app (zeros_length _),prE_app hul]
theorem lev5 {L:Mx} {N:Nat} {C:Prop} (hL:GR m.Prime D L N C) (hN:N ≤ 1000):∃ L',loopO (l5_h ⟨x,m,T⟩ (k:Int) (prE x (k + 1) (((exx D x m T).Powers.getD k []).drop (k + 1)))) (L,((k + 1:Nat):Int)) = some L' ∧ GR m.Prime D L' (N + (x.Orders.length - (k + 1))) (C ∧ ∀ j,k + 1 ≤ j → j < x.Orders.length → c4E (exx D x m T) k j):=by
 have hn:=hE.hn
 have hpk:=(h.os.2 k hk).pos
 have h7:=hE.m.p.pos
 have ok:=ex_ok h hE hT (k:=k + 1) (by omega)
 have hA:=spec2_At h hE hT (k:=k + 1) (by omega)
 have hI:=spec2_Image h hE hT hk
 obtain ⟨p1,p2⟩:=pow_pr h hE hT (k:=k) (j:=k) (Nat.le_refl k) hk
 change V (suf (exx D x m T) (k + 1)) (lvl (exx D x m T) k).w at p2
 change ∃ L',loopO (l5_h ⟨x,m,T⟩ (k:Int) (prE x (k + 1) (lvl (exx D x m T) k).w)) (L,((k + 1:Nat):Int)) = some L' ∧ _
 have htw:(lvl (exx D x m T) k).w.take (x.Orders.length - (k + 1)) = (lvl x k).w:=tk_pow h hE hT hk (Nat.le_refl k) hk
 have ho:(lvl (exx D x m T) k).o = at0 x.Orders k:=exl_o h hE hT hk
 refine loopO_tot (fun i (s:Mx × Int) => s.2 = ((k + 1 + i:Nat):Int) ∧ GR m.Prime D s.1 (N + i) (C ∧ ∀ j,k + 1 ≤ j → j < k + 1 + i → c4E (exx D x m T) k j)) (x.Orders.length - (k + 1)) (fun i s hi ⟨hs,hg⟩ => ?_) (fun s ⟨hs,hg⟩ => ?_) ⟨rfl,hL.to (by omega) ⟨fun g => ⟨g,fun j2 a b => by omega⟩,fun g => g.1⟩⟩
 ·left
  obtain ⟨L1,s2⟩:=s
  dsimp only at hs hg
  subst hs
  have g2:k + 1 + i < x.Orders.length:=by omega
  obtain ⟨r33,z1,z2,z3,z4⟩:=zero_set h hE hT hk hc (j:=k + 1 + i) (by omega) g2
  have hue:=unit_e h hE hT hk (j:=k + 1 + i) (by omega) g2
  have hux:V (suf x (k + 1)) (unit (x.Orders.length - (k + 1)) (k + 1 + i - (k + 1))):=by
   have:=V_unit (h.okAt (k:=k + 1) (by omega)) (j:=k + 1 + i - (k + 1)) (by rw [suf_length];omega)
   rwa [suf_length] at this
  have hul:=V_len h (by omega) hux
  have huV:V (suf (exx D x m T) (k + 1)) (unit (x.Orders.length - (k + 1)) (k + 1 + i - (k + 1)) ++ zeros D):=(V_ext h hE hT (x.Orders.length - (k + 1)) (k + 1) (by omega) _).2 ⟨_,_,rfl,hux,zero_row (by omega)⟩
  have hit:V (suf (exx D x m T) (k + 1)) (iter (at0 x.Orders k).toNat (sig (suf (exx D x m T) (k + 1)) (lvl (exx D x m T) k)) (unit (x.Orders.length - (k + 1)) (k + 1 + i - (k + 1)) ++ zeros D)):=iter_in (fun w hw => esig_V h hE hT hk hw) _ huV
  have hlp:loopO (l4_h ⟨x,m,T⟩ (k:Int)) ((prE x (k + 1) (unit (x.Orders.length - (k + 1)) (k + 1 + i - (k + 1)) ++ zeros D)).x,(prE x (k + 1) (unit (x.Orders.length - (k + 1)) (k + 1 + i - (k + 1)) ++ zeros D)).v,0) = some ((prE x (k + 1) (iter (at0 x.Orders k).toNat (sig (suf (exx D x m T) (k + 1)) (lvl (exx D x m T) k)) (unit (x.Orders.length - (k + 1)) (k + 1 + i - (k + 1)) ++ zeros D))).x,(prE x (k + 1) (iter (at0 x.Orders k).toNat (sig (suf (exx D x m T) (k + 1)) (lvl (exx D x m T) k)) (unit (x.Orders.length - (k + 1)) (k + 1 + i - (k + 1)) ++ zeros D))).v) :=
   iter_loop3 (S:=V (suf (exx D x m T) (k + 1))) (fun w => (prE x (k + 1) w).x) (fun w => (prE x (k + 1) w).v) (sig (suf (exx D x m T) (k + 1)) (lvl (exx D x m T) k)) (at0 x.Orders k) (by omega) (fun w hw => esig_V h hE hT hk hw) (fun w q hw hq => by
    unfold l4_h
    dsimp only
    rw [ixO_at hk,bs,decide_eq_true hq,cnd_t,show (Sl23Pair.mk (prE x (k + 1) w).x (prE x (k + 1) w).v) = prE x (k + 1) w from rfl,hI w hw,bs,rng_of (by omega) (by omega),bs,cs]) (fun w hw => by
    unfold l4_h
    dsimp only
    rw [ixO_at hk,bs,decide_eq_false (by omega),cnd_f]) huV
  obtain ⟨r,r1,r2,r3⟩:=gap_eq h hE hT (k:=k + 1) (by omega) (mul_in ok p2 hit) (mul_in ok huV p2) (by
   rw [tk_mul h hE hT (by omega) p2 hit,tk_mul h hE hT (by omega) huV p2,tk_iter h hE hT hk _ huV,htw,List.take_left' hul]
   exact hc.c4 (k + 1 + i) (by omega) g2)
  have hll:=hg.len
  refine ⟨(L1 ++ [r],((k + 1 + i + 1:Nat):Int)),?_,rfl,(hg.app (GR.one r2 r3)).to (by omega) ?_⟩
  ·unfold l5_h
   dsimp only
   rw [decide_eq_true (by omega),cnd_t,z1,bs,z2,bs,Int.toNat_natCast,z3,z4,hlp,bs,rng_of (by omega) (by omega),bs,cs]
   dsimp only
   have e1:=hA _ _ p2 hit
   have e2:=hA _ _ huV p2
   rw [show ∀ w,(Sl23Pair.mk (prE x (k + 1) w).x (prE x (k + 1) w).v) = prE x (k + 1) w from fun _ => rfl,show ∀ w,(Sl23Pair.mk (prE x (k + 1) w).x (prE x (k + 1) w).v) = prE x (k + 1) w from fun _ => rfl,e1,bs,bs,e2,bs,r1,bs,appO_of (by simp;omega),bs,rng_of (by omega) (by omega),bs,cs]
  ·have e4:c4E (exx D x m T) k (k + 1 + i) ↔ mul (suf (exx D x m T) (k + 1)) (lvl (exx D x m T) k).w (iter (at0 x.Orders k).toNat (sig (suf (exx D x m T) (k + 1)) (lvl (exx D x m T) k)) (unit (x.Orders.length - (k + 1)) (k + 1 + i - (k + 1)) ++ zeros D)) = mul (suf (exx D x m T) (k + 1)) (unit (x.Orders.length - (k + 1)) (k + 1 + i - (k + 1)) ++ zeros D) (lvl (exx D x m T) k).w:=by
    unfold c4E;rw [hue,ho]
   rw [← e4]
   constructor
   ·rintro ⟨⟨g1,g3⟩,g4⟩
    refine ⟨g1,fun j2 e1 e2 => ?_⟩
    rcases Nat.lt_or_ge j2 (k + 1 + i) with e | e
    ·exact g3 j2 e1 e
    ·obtain rfl:j2 = k + 1 + i:=by omega
     exact g4
   ·rintro ⟨g1,g3⟩
    exact ⟨⟨g1,fun j2 e1 e2 => g3 j2 e1 (by omega)⟩,g3 (k + 1 + i) (by omega) (by omega)⟩
 ·obtain ⟨L1,s2⟩:=s
  dsimp only at hs hg
  subst hs
  refine ⟨L1,?_,hg.to (Nat.le_refl _) ?_⟩
  ·unfold l5_h
   dsimp only
   rw [decide_eq_false (by omega),cnd_f]
  ·rw [show k + 1 + (x.Orders.length - (k + 1)) = x.Orders.length from by omega]
theorem level2:∃ L,f_h ⟨x,m,T⟩ (k:Int) = some L ∧ GR m.Prime D L 120 (LCn x (exx D x m T) k):=by
 have hn:=hE.hn
 have hI:=spec2_Image h hE hT hk
 obtain ⟨p1,p2⟩:=pow_pr h hE hT (k:=k) (j:=k) (Nat.le_refl k) hk
 obtain ⟨L1,e1,g1⟩:=lev3 h hE hT hk hc
 have hs:=esig_V h hE hT hk p2
 obtain ⟨r,r1,r2,r3⟩:=gap_eq h hE hT (k:=k + 1) (by omega) hs p2 (by
  rw [tk_sig h hE hT hk p2,tk_pow h hE hT hk (Nat.le_refl k) hk]
  exact hc.c3)
 obtain ⟨L2,e2,g2⟩:=lev5 h hE hT hk hc (g1.app (GR.one r2 r3)) (by omega)
 have hll:=g1.len
 refine ⟨L2,?_,g2.to (by omega) ?_⟩
 ·unfold f_h
  rw [rng_of (by omega) (by omega),bs,cs,e1,bs,p1,bs,hI _ p2,bs,r1,bs,appO_of (by simp;omega),bs,bs,e2,bs]
 ·constructor
  ·rintro ⟨⟨a1,a2⟩,a3⟩
   exact ⟨fun j b1 b2 => (a1 j b1 b2).1,fun i b1 b2 j b3 b4 => (a1 i b1 b2).2 j b3 b4,a2,a3⟩
  ·intro a
   exact ⟨⟨fun j b1 b2 => ⟨a.c1 j b1 b2,fun j2 b3 b4 => a.c2 j b1 b2 j2 b3 b4⟩,a.c3⟩,a.c4⟩
end
theorem is_spec (hx:Cons (suf x 0)) (hr:RelM x m D):IsB (f_au x m T) (Cons (suf (exx D x m T) 0)):=by
 have hn:=hE.hn
 have h3:=hE.m.d3
 have hlc:∀ k,k < x.Orders.length → LC x k:=fun k hk => ((cons_iff h hk).1 (cons_from hx k)).2
 have hgaps:∃ L,f_aF ⟨x,m,T⟩ = some L ∧ GR m.Prime D L 1000 (∀ k,k < x.Orders.length → LCn x (exx D x m T) k):=by
  obtain ⟨L,e,g⟩:=loopO_tot (body:=l1_aF ⟨x,m,T⟩) (Q:=fun L => GR m.Prime D L 1000 (∀ k,k < x.Orders.length → LCn x (exx D x m T) k)) (fun i (s:Mx × Int) => s.2 = (i:Int) ∧ GR m.Prime D s.1 (120 * i) (∀ k,k < i → LCn x (exx D x m T) k)) x.Orders.length (fun i s hi ⟨hs,hg⟩ => by
   left
   obtain ⟨L1,s2⟩:=s
   dsimp only at hs hg
   subst hs
   obtain ⟨L2,e2,g2⟩:=level2 h hE hT hi (hlc i hi)
   have l1:=hg.len
   have l2:=g2.len
   refine ⟨(L1 ++ L2,((i + 1:Nat):Int)),?_,rfl,(hg.app g2).to (by omega) ?_⟩
   ·unfold l1_aF
    dsimp only
    rw [lt_t hi,cnd_t,e2,bs,appO_of (by omega),bs,rng_of (by omega) (by omega),bs,cs]
   ·constructor
    ·rintro ⟨a1,a2⟩ k hk
     rcases Nat.lt_or_ge k i with e | e
     ·exact a1 k e
     ·obtain rfl:k = i:=by omega
      exact a2
    ·exact fun a => ⟨fun k hk => a k (by omega),a i (by omega)⟩) (fun s ⟨hs,hg⟩ => by
   obtain ⟨L1,s2⟩:=s
   dsimp only at hs hg
   subst hs
   refine ⟨L1,?_,hg.to (by omega) Iff.rfl⟩
   unfold l1_aF
   dsimp only
   rw [lt_f,cnd_f]) (s:=([],0)) ⟨rfl,(GR.nil (N:=0)).to (by omega) ⟨fun _ k hk => by omega,fun _ => trivial⟩⟩
  exact ⟨L,by unfold f_aF;rw [e,bs],g⟩
 obtain ⟨L,e,g⟩:=hgaps
 have hll:=g.len
 unfold f_au
 rw [e,bs]
 refine (all_fn (body:=l1_au L) L.length (fun i => ∀ j,j < (L.getD i []).length → at0 (L.getD i []) j = 0) rfl (fun i hi _ => ?_) ?_).iff ?_
 ·have hrow:=g.row (L.getD i []) (by rw [List.getD_eq_getElem?_getD,List.getElem?_eq_getElem hi];exact List.getElem_mem hi)
  unfold l1_au
  rw [lt_t hi,cnd_t,ixO_d [] hi,bs]
  rcases zero_spec (v:=L.getD i []) (by rw [hrow.1];omega) with ⟨z1,z2⟩ | ⟨z1,z2⟩
  ·left
   rw [z1,bs,Bool.not_true,cnd_f,rng_of (by omega) (by omega),bs,cs]
   exact ⟨rfl,z2⟩
  ·right
   rw [z1,bs,Bool.not_false,cnd_t]
   exact ⟨rfl,z2⟩
 ·unfold l1_au
  rw [lt_f,cnd_f]
 ·rw [ex_cons h hE hT hr,← g.iff]
  constructor
  ·intro a r hr
   obtain ⟨i,hi,rfl⟩:=List.mem_iff_getElem.1 hr
   have a:=a i hi
   rw [List.getD_eq_getElem?_getD,List.getElem?_eq_getElem hi] at a
   have hrow:=g.row _ hr
   rw [mkv_eq hrow.1,show zeros D = mkv D fun _ => 0 from mkv_zero D]
   exact mkv_congr fun j hj => a j (by show j < (L[i]).length;rw [hrow.1];exact hj)
  ·intro a i hi j _
   have:=a (L.getD i []) (by rw [List.getD_eq_getElem?_getD,List.getElem?_eq_getElem hi];exact List.getElem_mem hi)
   rw [this,at0_zeros]
end
end Go.Pl

namespace Go.Pl
open Go Go.Ab Go.Wk Go.Pc
theorem consistentFrom_impl {x:SPr} (h:Pres x):∃ s:Nat,f_L x = some (s:Int) ∧ (s = 0 ↔ Cons (suf x 0)):=by
 have h6:=h.os.1
 unfold f_L
 obtain ⟨r,r1,r2⟩:=loopO_tot (body:=l1_L x) (Q:=fun r => ∃ s:Nat,r = (s:Int) ∧ Cons (suf x s) ∧ (s = 0 ∨ ¬ Cons (suf x (s - 1)))) (fun i s => i ≤ x.Orders.length ∧ s = ((x.Orders.length - i:Nat):Int) ∧ Cons (suf x (x.Orders.length - i))) x.Orders.length (fun i s hi ⟨_,hs,hcs⟩ => by
   subst hs
   have hk:x.Orders.length - i - 1 < x.Orders.length:=by omega
   have e9:x.Orders.length - (i + 1) = x.Orders.length - i - 1:=by omega
   rw [e9]
   have e8:i + 1 ≤ x.Orders.length:=by omega
   rw [show x.Orders.length - i = x.Orders.length - i - 1 + 1 from by omega] at hcs ⊢
   have hlev:=impl_level h hk hcs
   have hiff:=cons_iff h hk
   generalize x.Orders.length - i - 1 = k at *
   unfold l1_L
   rw [decide_eq_true (by omega),cnd_t,rng_of (by omega) (by omega),bs,show (((k + 1:Nat):Int) - 1) = (k:Int) from by omega]
   rcases hlev with ⟨g1,g2⟩ | ⟨r,g1,g2,g3⟩
   ·left
    rw [g1,bs]
    simp only [beq_self_eq_true,Bool.and_true]
    rw [cnd_t,bs]
    exact ⟨_,rfl,e8,rfl,hiff.2 ⟨hcs,g2⟩⟩
   ·right
    rw [g1,bs,show (r.Kind == 0) = false from by simpa using g2,Bool.false_and,cnd_f]
    refine ⟨_,rfl,k + 1,rfl,hcs,.inr fun q => g3 (hiff.1 q).2⟩) (fun s ⟨_,hs,hcs⟩ => by
   rw [Nat.sub_self] at hs hcs
   subst hs
   unfold l1_L
   rw [show decide (((0:Nat):Int) > 0) = false from rfl,cnd_f]
   exact ⟨_,rfl,0,rfl,hcs,.inl rfl⟩) (s:=(x.Orders.length:Int)) ⟨by omega,by rw [Nat.sub_zero],by rw [Nat.sub_zero,suf_nil (by omega)];simp only [Cons]⟩
 obtain ⟨s,rfl,hcs,hs⟩:=r2
 rw [r1,bs]
 refine ⟨s,rfl,fun g => by subst g;exact hcs,fun g => ?_⟩
 rcases hs with hs | hs
 ·exact hs
 ·exact absurd (cons_from g _) hs
section
variable {x:SPr} {m:SModule} {T:Mx} {D:Nat} (hx:PresS x) (hm:MOk x.Orders.length m D) (hT:T.length ≤ 1048576)
 include hx hm hT
def TailsOk (x:SPr) (m:SModule) (D:Nat) (T:Mx):Prop:=T.length = base x.Orders.length x.Orders.length ∧ Vecs m D T
theorem tails2_spec:IsB (f_bi x m T) (TailsOk x m D T):=by
 have h6:=hx.n6
 unfold f_bi
 rw [count_spec rfl h6,bs]
 by_cases g:T.length = base x.Orders.length x.Orders.length
 ·rw [show ((T.length:Int) == ((base x.Orders.length x.Orders.length:Nat):Int)) = true from by simp [g],cnd_t]
  exact (IsB.b (vectors_spec hm (by omega) hT)).iff ⟨fun q => ⟨g,q⟩,fun q => q.2⟩
 ·rw [show ((T.length:Int) == ((base x.Orders.length x.Orders.length:Nat):Int)) = false from by simp;omega,cnd_f]
  exact .inr ⟨rfl,fun q => g q.1⟩
theorem tails2_impl:IsB (f_bq x m T) (TailsOk x m D T):=by
 have h6:=hx.n6
 have h3:=hm.d3
 unfold f_bq
 rw [count_impl rfl h6,bs]
 by_cases g:T.length = base x.Orders.length x.Orders.length
 ·rw [show ((T.length:Int) == ((base x.Orders.length x.Orders.length:Nat):Int)) = true from by simp [g],cnd_t]
  exact (IsB.b (vecs_impl hm.p hm.d (by omega) hT)).iff ⟨fun q => ⟨g,q⟩,fun q => q.2⟩
 ·rw [show ((T.length:Int) == ((base x.Orders.length x.Orders.length:Nat):Int)) = false from by simp;omega,cnd_f]
  exact .inr ⟨rfl,fun q => g q.1⟩
 omit hT in
theorem exOk (ht:TailsOk x m D T):ExOk x.Orders.length D x m T:=by
  have h3:=hm.d3
  exact ExOk.of hx hm ht.1 (gd_len fun i hi => by have:=(ht.2 i hi).1;omega)
 omit hT in
theorem is_impl (ht:TailsOk x m D T):IsB (f_br x m T) (Cons (suf (exx D x m T) 0)):=by
  have hE:=exOk hx hm ht
  unfold f_br
  rw [ext_impl hE,bs]
  obtain ⟨s,s1,s2⟩:=consistentFrom_impl (ex_pres hx.toPres hE ht.2)
  rw [s1,bs]
  refine (IsB.of_bool ?_).iff s2
  simp
end
end Go.Pl

namespace Go.Pl
open Go Go.Ab Go.Wk Go.Pc
def Coc (x:SPr) (m:SModule) (D:Nat) (T:Mx):Prop:=TailsOk x m D T ∧ Cons (suf (exx D x m T) 0)
section
variable {x:SPr} {m:SModule} {A B:Mx} {L:List Mx}
theorem code_both (hx:SPres x) (hm:SMod m) (hA:A.length ≤ 1048576) (hB:B.length ≤ 1048576) (hl:L.length ≤ 1000) (hL:∀ t,t ∈ L ↔ t = A ∨ t = B):∃ c:Int,f_bs x m A B = some c ∧ f_K x m L = some c ∧ (c = 0 → Consistent x ∧ ∃ D,MOk x.Orders.length m D ∧ RelM x m D ∧ Coc x m D A ∧ Coc x m D B):=by
 have hxl:x.Orders.length ≤ 1048576:=hx.1
 have hml:=S3.len hm
 unfold f_bs f_K
 rcases (IsModule_spec (m:=m) hxl).both (isModule_impl (m:=m) hxl hml) with ⟨s1,i1,hM⟩ | ⟨s1,i1,hM⟩
 ·obtain ⟨hc,D,hD,hr⟩:=hM
  have hmem:∀ i,i < L.length → L.getD i [] = A ∨ L.getD i [] = B:=fun i hi => (hL _).1 (by rw [List.getD_eq_getElem?_getD,List.getElem?_eq_getElem hi];exact List.getElem_mem hi)
  have hlen:∀ i,i < L.length → (L.getD i []).length ≤ 1048576:=fun i hi => by rcases hmem i hi with e | e <;> rw [e] <;> assumption
  have hall:∀ (P:Mx → Prop),(∀ i,0 ≤ i → i < L.length → P (L.getD i [])) ↔ P A ∧ P B:=fun P => by
   constructor
   ·intro g
    have key:∀ t,t ∈ L → P t:=fun t ht => by
     obtain ⟨i,hi,rfl⟩:=List.mem_iff_getElem.1 ht
     have:=g i (Nat.zero_le _) hi
     rwa [List.getD_eq_getElem?_getD,List.getElem?_eq_getElem hi] at this
    exact ⟨key A ((hL A).2 (.inl rfl)),key B ((hL B).2 (.inr rfl))⟩
   ·rintro ⟨g1,g2⟩ i _ hi
    rcases hmem i hi with e | e <;> rw [e] <;> assumption
  have hle:∀ i:Nat,i < L.length → ((i:Nat):Int) < (L.length:Int):=fun i hi => by omega
  simp only [s1,i1,bs,Bool.not_true,cnd_f]
  have c1:=chk (body:=l1_K x m L) L.length 0 (Nat.zero_le _) (fun i => TailsOk x m D (L.getD i [])) (fun _ => (1:Int)) (fun i _ hi _ => by
   unfold l1_K
   rw [lt_t hi,cnd_t,ixO_d [] hi,bs]
   rcases tails2_impl hc.2.2 hD (hlen i hi) with ⟨z1,z2⟩ | ⟨z1,z2⟩
   ·left
    rw [z1,bs,Bool.not_true,cnd_f,rng_of (by omega) (by omega),bs,cs]
    exact ⟨rfl,z2⟩
   ·right
    rw [z1,bs,Bool.not_false,cnd_t]
    exact ⟨rfl,z2⟩) (by
   unfold l1_K
   rw [lt_f,cnd_f])
  rw [show ((0:Nat):Int) = 0 from rfl] at c1
  have hAB:(∀ i,0 ≤ i → i < L.length → TailsOk x m D (L.getD i [])) ↔ _:=hall (TailsOk x m D)
  rcases c1 with ⟨c1,c2⟩ | ⟨i,_,hi,c1,c2⟩
  ·obtain ⟨tA,tB⟩:=hAB.1 c2
   rw [c1,bs]
   simp only
   rcases tails2_spec hc.2.2 hD hA with ⟨z1,_⟩ | ⟨_,z2⟩
   rcases tails2_spec hc.2.2 hD hB with ⟨y1,_⟩ | ⟨_,y2⟩
   ·simp only [z1,y1,bs,Bool.not_true,cnd_f]
    have c3:=chk (body:=l2_K x m L) L.length 0 (Nat.zero_le _) (fun i => Cons (suf (exx D x m (L.getD i [])) 0)) (fun _ => (5:Int)) (fun i _ hi _ => by
     unfold l2_K
     rw [lt_t hi,cnd_t,ixO_d [] hi,bs]
     rcases is_impl hc.2.2 hD (c2 i (Nat.zero_le _) hi) with ⟨z1,z2⟩ | ⟨z1,z2⟩
     ·left
      rw [z1,bs,Bool.not_true,cnd_f,rng_of (by omega) (by omega),bs,cs]
      exact ⟨rfl,z2⟩
     ·right
      rw [z1,bs,Bool.not_false,cnd_t]
      exact ⟨rfl,z2⟩) (by
     unfold l2_K
     rw [lt_f,cnd_f])
    rw [show ((0:Nat):Int) = 0 from rfl] at c3
    have hCC:(∀ i,0 ≤ i → i < L.length → Cons (suf (exx D x m (L.getD i [])) 0)) ↔ _:=hall (fun t => Cons (suf (exx D x m t) 0))
    have sA:=is_spec hc.1 (exOk hc.2.2 hD tA) tA.2 hc.2.1 hr
    have sB:=is_spec hc.1 (exOk hc.2.2 hD tB) tB.2 hc.2.1 hr
    rcases c3 with ⟨c3,c4⟩ | ⟨i,_,hi,c3,c4⟩
    ·obtain ⟨kA,kB⟩:=hCC.1 c4
     rcases sA with ⟨z3,_⟩ | ⟨_,z3⟩
     rcases sB with ⟨y3,_⟩ | ⟨_,y3⟩
     ·rw [z3,bs,Bool.not_true,cnd_f,y3,bs,Bool.not_true,cnd_f,c3,bs]
      exact ⟨0,rfl,rfl,fun _ => ⟨hc,D,hD,hr,⟨tA,kA⟩,tB,kB⟩⟩
     ·exact absurd kB y3
     ·exact absurd kA z3
    ·rw [c3,bs]
     refine ⟨5,?_,rfl,fun e => absurd e (by decide)⟩
     rcases sA with ⟨z3,z4⟩ | ⟨z3,z4⟩
     ·rcases sB with ⟨y3,y4⟩ | ⟨y3,y4⟩
      ·exact absurd (hCC.2 ⟨z4,y4⟩ i (Nat.zero_le _) hi) c4
      ·rw [z3,bs,Bool.not_true,cnd_f,y3,bs,Bool.not_false,cnd_t]
     ·rw [z3,bs,Bool.not_false,cnd_t]
   ·exact absurd tB y2
   ·exact absurd tA z2
  ·rw [c1,bs]
   refine ⟨1,?_,rfl,fun e => absurd e (by decide)⟩
   rcases tails2_spec hc.2.2 hD hA with ⟨z1,z2⟩ | ⟨z1,z2⟩
   ·rcases tails2_spec hc.2.2 hD hB with ⟨y1,y2⟩ | ⟨y1,y2⟩
    ·exact absurd (hAB.2 ⟨z2,y2⟩ i (Nat.zero_le _) hi) c2
    ·rw [z1,bs,Bool.not_true,cnd_f,y1,bs,Bool.not_false,cnd_t]
   ·rw [z1,bs,Bool.not_false,cnd_t]
 ·simp only [s1,i1,bs,Bool.not_false,cnd_t]
  exact ⟨1,rfl,rfl,fun e => absurd e (by decide)⟩
end
end Go.Pl

namespace Go.Pl
open Go Go.Ab Go.Wk Go.Pc
theorem base_len {x:SPr} (h:Pres x) (h6:x.Orders.length ≤ 6):(relsN x).length = base x.Orders.length x.Orders.length:=by
 have h1:=relsN_len h
 have key:∀ n:Nat,n < 7 → 2 * base n n = n * (n + 1):=by decide
 have h2:=key x.Orders.length (by omega)
 omega
abbrev dRows (x:SPr) (m:SModule) (D:Nat):Mx:=prows (x.Orders.length * D) (fun k => dfc m D (uv x.Orders.length D k)) (relsN x)
section
variable {x:SPr} {m:SModule} {D:Nat} (hx:PresS x) (hD:MOk x.Orders.length m D)
 include hx hD
theorem bounds_red:∃ R pv,f_a2 x m = some R ∧ f_ar x m = some (dRows x m D) ∧ f_g m.Prime (dRows x m D) = some R ∧ Red m.Prime (base x.Orders.length x.Orders.length * D) R pv ∧ R.length ≤ 63 ∧ base x.Orders.length x.Orders.length * D ≤ 63:=by
 have h6:=hx.n6
 have h3:=hD.d3
 have hb:=base_big x.Orders.length (by omega)
 have hl:=base_len hx.toPres h6
 have hnd:x.Orders.length * D ≤ 6 * 3:=Nat.mul_le_mul h6 h3
 have hrD:base x.Orders.length x.Orders.length * D ≤ 21 * 3:=Nat.mul_le_mul hb.2.1 h3
 have hpl:(dRows x m D).length = x.Orders.length * D:=gl_len
 obtain ⟨R,pv,r1,r2,r3,_⟩:=reduce_both hD.p (n:=(relsN x).length * D) (by rw [hl];omega) (rows:=dRows x m D) (by omega) (by rw [hpl];exact prows_row (uv_row hx.toPres hD) (relsN x))
 rw [hl] at r3
 have hR:=r3.len_le
 refine ⟨R,pv,?_,defectRows_impl hx.toPres hD,r2,r3,by omega,hrD⟩
 unfold f_a2
 rw [deltas_spec hx.toPres hD,bs,r1,bs]
theorem tails_flat {T:Mx} (ht:TailsOk x m D T):Row m.Prime (base x.Orders.length x.Orders.length * D) T.flatten ∧ f_V T = some T.flatten ∧ f_s T = some T.flatten:=by
 have h6:=hx.n6
 have h3:=hD.d3
 have hb:=base_big x.Orders.length (by omega)
 have hrD:base x.Orders.length x.Orders.length * D ≤ 21 * 3:=Nat.mul_le_mul hb.2.1 h3
 have h:=flat_row (p:=m.Prime) (D:=D) (xs:=T) fun r hr => by
  obtain ⟨i,hi,rfl⟩:=List.mem_iff_getElem.1 hr
  have:=ht.2 i hi
  rwa [List.getD_eq_getElem?_getD,List.getElem?_eq_getElem hi] at this
 rw [ht.1] at h
 have hl:=ht.1
 exact ⟨h,flat_spec (by omega) (by rw [h.1];omega),concat_impl (by omega) (by rw [h.1];omega)⟩
theorem clear_both {v:List Int} (hv:Row m.Prime (base x.Orders.length x.Orders.length * D) v):∃ g,f_bt x m v = some g ∧ f_bu x m v = some g ∧ S2 g:=by
 have h3:=hD.d3
 obtain ⟨R,pv,r1,r2,r3,r4,r5,r6⟩:=bounds_red hx hD
 have hcl:=cl_row hD.p (by omega) r4 hv R.length
 unfold f_bt f_bu f_bx
 rw [r1,bs,clear_spec hD.p (by omega) r4 hv (by omega),bs,hD.d,cut_spec hD.d1 (by omega) hcl.1 (by omega),bs,r2,bs,r3,bs,bs,remainder_impl hD.p (by omega) r4 hv (by omega),bs,split_impl hD.d1 hcl.1 (by omega),bs]
 have h6:=hx.n6
 have hb:=base_big x.Orders.length (by omega)
 refine ⟨_,rfl,rfl,?_⟩
 have:=sm_le (c:=c1) (b:=3) (xs:=cutM (base x.Orders.length x.Orders.length) D (cl m.Prime (base x.Orders.length x.Orders.length * D) R pv v R.length)) (fun r hr => by
  obtain ⟨i,_,rfl⟩:=List.mem_map.1 hr
  show (mkv _ _).length ≤ 3
  rw [mkv_length];exact h3)
 have hl:(cutM (base x.Orders.length x.Orders.length) D (cl m.Prime (base x.Orders.length x.Orders.length * D) R pv v R.length)).length = base x.Orders.length x.Orders.length:=gl_len
 simp only [S2,c2];omega
end
theorem BaerSum_agree {x:SPr} {m:SModule} {A B:Mx} (hx:SPres x) (hm:SMod m) (hA:S2 A) (hB:S2 B):∃ g k,f_a4 x m A B = some (g,k) ∧ f_aX x m A B = some (g,k) ∧ S2 g:=by
 have hAl:A.length ≤ 1048576:=hA.len
 have hBl:B.length ≤ 1048576:=hB.len
 have hnil:S2 ([]:Mx):=by simp [S2,c2,sm]
 obtain ⟨c,e1,e2,e3⟩:=code_both (L:=[A,B]) hx hm hAl hBl (by simp) (fun t => by simp)
 unfold f_a4 f_aX
 rw [e1,e2,bs,bs]
 by_cases g:c = 0
 ·obtain ⟨hc,D,hD,hr,kA,kB⟩:=e3 g
  obtain ⟨a1,a2,a3⟩:=tails_flat hc.2.2 hD kA.1
  obtain ⟨b1,b2,b3⟩:=tails_flat hc.2.2 hD kB.1
  have hle:base x.Orders.length x.Orders.length * D ≤ 63:=by obtain ⟨_,_,_,_,_,_,_,q⟩:=bounds_red hc.2.2 hD;exact q
  obtain ⟨g',m1,m2,m3⟩:=clear_both hc.2.2 hD (addM_row hD.p (D:=base x.Orders.length x.Orders.length * D) (r:=A.flatten) (k:=1) (s:=B.flatten))
  subst g
  rw [show ((0:Int) != 0) = false from rfl,cnd_f,cnd_f,a2,bs,b2,bs,l02Add_spec hD.p a1 b1 (by omega) (by omega),bs,m1,bs,a3,bs,b3,bs,addM_impl hD.p a1 b1 (by omega) (by omega),bs,m2,bs]
  exact ⟨_,_,rfl,rfl,m3⟩
 ·rw [show (c != 0) = true from by simpa using g,cnd_t,cnd_t]
  exact ⟨_,_,rfl,rfl,hnil⟩
end Go.Pl

namespace Go.Pl
open Go Go.Ab Go.Wk Go.Pc
end Go.Pl

namespace Go.Pl
open Go Go.Ab Go.Wk Go.Pc
theorem law_BaerSum (x0:SPr) (x1:SModule) (x2:Mx) (x3:Mx) (v0:VPres x0) (v1:VMod x1) (v2:VL (VL VI) x2) (v3:VL (VL VI) x3)
  (h:SPres x0 → SMod x1 → S2 x2 → S2 x3 → ∃ g k,f_a4 x0 x1 x2 x3 = some (g,k) ∧ f_aX x0 x1 x2 x3 = some (g,k) ∧ S2 g):f_aY x0 x1 x2 x3 = some true:=by
 unfold f_aY
 rw [szPresentation v0 (by decide) (by decide),bs]
 rcases sz_case (c:=cPres x0) (b:=1048576) (by decide) (by decide) with e | ⟨e,a0,b0,w0⟩ <;> rw [e]
 ·rfl
 rw [cnd_f,szModule v1 a0 b0,bs]
 rcases sz_case (c:=cMod x1) a0 b0 with e | ⟨e,a1,b1,w1⟩ <;> rw [e]
 ·rfl
 rw [cnd_f,szInt64SS v2 a1 b1,bs]
 rcases sz_case (c:=c2 x2) a1 b1 with e | ⟨e,a2,b2,w2⟩ <;> rw [e]
 ·rfl
 rw [cnd_f,szInt64SS v3 a2 b2,bs]
 rcases sz_case (c:=c2 x3) a2 b2 with e | ⟨e,a3,b3,w3⟩ <;> rw [e]
 ·rfl
 have s0:SPres x0:=SPres.of w0
 have s1:SMod x1:=SMod.of w1
 have s2:S2 x2:=w2
 have s3:S2 x3:=w3
 obtain ⟨g,k,hs,hi,sg⟩:=h s0 s1 s2 s3
 have t0:=totP_le s0
 have q1:=sm3_le (x:=x1.Actions)
 have w1':=w1
 simp only [cMod] at w1'
 have q2:=sm2_le (x:=x2)
 have q3:=sm2_le (x:=x3)
 have qg:=sm2_le (x:=g)
 have sg':=sg
 simp only [S2] at sg'
 rw [cnd_f,toPresentation s0,bs,toModule s1,bs,toInt64SS s2,bs,toInt64SS s3,bs]
 simp only [bs]
 rw [hs,bs,hi,bs]
 simp only
 rw [eqInt64SS sg,bs]
 simp only [beq_self_eq_true,Bool.not_true,cnd_f,bne_self_eq_false]
 rw [eqPresentation s0,bs,Bool.not_true,cnd_f,eqModule s1,bs,Bool.not_true,cnd_f,eqInt64SS s2,bs,beq_self_eq_true,Bool.not_true,cnd_f,eqInt64SS s3,bs,beq_self_eq_true,Bool.not_true,cnd_f,markPresentation_eq s0 (by decide) (by decide),bs]
 simp only
 rw [markModule s1 (by omega) (by omega),bs]
 simp only
 rw [markInt64SS s2 (by omega) (by omega),bs]
 simp only
 rw [markInt64SS s3 (by omega) (by omega),bs]
 simp only
 rw [decide_eq_false (by omega),cnd_f,bs,Bool.not_true,cnd_f]
 rw [markInt64SS sg (by decide) (by omega),bs]
 simp only
 rw [heldInt64SS sg (by decide) (by omega),bs,decide_eq_false (by omega),cnd_f,bne_self_eq_false,cnd_f,bs]
 simp only
 rw [eqInt64SS sg,bs,beq_self_eq_true,Bool.not_true,cnd_f,bne_self_eq_false,cnd_f,bs,decide_eq_false (by omega),cnd_f,bne_self_eq_false,cnd_f]
theorem BaerSum_plain (x0:SPr) (x1:SModule) (x2:Mx) (x3:Mx) (v0:VPres x0) (v1:VMod x1) (v2:VL (VL VI) x2) (v3:VL (VL VI) x3):f_aY x0 x1 x2 x3 = some true :=
 law_BaerSum x0 x1 x2 x3 v0 v1 v2 v3 BaerSum_agree
end Go.Pl
