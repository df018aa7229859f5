/- The program and the reference return the same vectors of inner derivations, for all arguments (FnExactInnerVector). This file is a part of the proof. -/
import Derived.Test.YtdcfglaicpidkabGreatPlA
namespace Go.Pl
open Go Go.Ab Go.Wk Go.Pc
theorem Red.empty {p:Int} {n:Nat}:Red p n [] (fun _ => 0):=⟨fun _ h => by simp at h,fun _ h => by simp at h,fun _ h => by simp at h,fun _ h => by simp at h,fun _ _ h => by simp at h,fun _ _ _ h => by simp at h⟩
theorem RInv.take {p:Int} {n m:Nat} {rows:Mx} {c:Nat} {M:Mx} {d:Nat} {pv:Nat → Nat} (h:RInv p n m rows c M d pv) (hcn:c ≤ n) (hz:∀ k,d ≤ k → k < m → ∀ j,j < n → ent M k j = 0):Red p n (M.take d) pv ∧ SpEq p n (M.take d) rows:=by
 have hl:(M.take d).length = d:=by rw [List.length_take,h.len];exact Nat.min_eq_left h.dm
 have hg:∀ i,i < d → (M.take d).getD i [] = M.getD i []:=fun i hi => by simp only [List.getD_eq_getElem?_getD,List.getElem?_take,if_pos hi]
 have dm:=h.dm
 refine ⟨⟨fun i hi => ?_,fun i hi => ?_,fun i hi => ?_,fun i hi j hj => ?_,fun i k hi hk hne => ?_,fun i j hij hj => ?_⟩,SpEq.trans ⟨fun i hi => ?_,fun i hi => ?_⟩ h.sp⟩
 ·rw [hl] at hi;rw [hg i hi];exact h.row i (by omega)
 ·rw [hl] at hi;have:=h.lt i hi;omega
 ·rw [hl] at hi;simp only [ent,hg i hi];exact h.one i hi
 ·rw [hl] at hi;simp only [ent,hg i hi];exact h.low i hi j hj
 ·rw [hl] at hi hk;simp only [ent,hg k hk];exact h.off i k hi (by omega) hne
 ·rw [hl] at hj;exact h.mono i j hij hj
 ·rw [hl] at hi;rw [hg i hi];exact sp_row (by rw [h.len];omega)
 ·rw [h.len] at hi
  rcases Nat.lt_or_ge i d with g | g
  ·have:=sp_row (p:=p) (n:=n) (R:=M.take d) (i:=i) (by rw [hl];exact g)
   rw [hg i g] at this;exact this
  ·exact sp_zero fun j hj => by
    have:=hz i g hi j hj
    simp only [ent] at this
    rw [this];rfl
section
variable {p:Int} (hp:Prime p) {n:Nat} {rows:Mx} (hn:n ≤ 100000) (hm:rows.length ≤ 600000) (hr:∀ i,i < rows.length → Row p n (rows.getD i []))
 include hp hn hm hr
theorem reduce_impl:∃ R pv,f_impl_reduceRows p rows = some R ∧ Red p n R pv ∧ SpEq p n R rows:=by
 have h7:=hp.pos
 unfold f_impl_reduceRows
 rw [copyRows_impl (by omega) (fun i hi => by have:=(hr i hi).1;omega),bs]
 have main:=loopO_tot (body:=l4_impl_reduceRows p) (s:=(rows,0,0)) (Q:=fun r => ∃ (M:Mx) (d:Nat) (pv:Nat → Nat),r = (M,(d:Int)) ∧ d ≤ M.length ∧ Red p n (M.take d) pv ∧ SpEq p n (M.take d) rows)
  (fun i s => ∃ (M:Mx) (d:Nat) (pv:Nat → Nat),s = (M,(d:Int),(i:Int)) ∧ RInv p n rows.length rows i M d pv ∧ i ≤ n) n (fun c s hc hI => ?_) (fun s hI => ?_) ⟨rows,0,fun _ => 0,rfl,⟨rfl,hr,Nat.zero_le _,fun _ h => by omega,fun _ h => by omega,fun _ h => by omega,fun _ _ h => by omega,fun _ _ _ h => by omega,fun _ _ _ _ h => by omega,SpEq.refl⟩,Nat.zero_le _⟩
 ·obtain ⟨r,h1,M,d,pv,rfl,hd,hR,hS⟩:=main
  rw [h1,bs]
  simp only
  have e:sliceO M 0 (d:Int) = some (M.take d):=by
   unfold sliceO
   rw [if_pos ⟨by omega,by omega,by omega⟩];simp
  rw [e,bs]
  exact ⟨_,_,rfl,hR,hS⟩
 ·
  obtain ⟨M,d,pv,rfl,h,hcn⟩:=hI
  have hl:=h.len
  have hdm:=h.dm
  by_cases h0:rows.length = 0
  ·refine .inr ⟨(M,(d:Int)),?_,M,d,pv,rfl,by omega,h.take hcn fun k hk hk2 => by omega⟩
   unfold l4_impl_reduceRows
   simp only
   rw [decide_eq_false (by omega),cnd_f]
  have e0:l4_impl_reduceRows p (M,(d:Int),(c:Int)) = cond (decide ((d:Int) < (M.length:Int))) ((loopO (l1_impl_reduceRows (M,(d:Int),(c:Int))) (d:Int)).bind fun r6 =>
    cond (r6 == (M.length:Int)) ((rng ((c:Int) + 1)).bind fun v7 => some (.inl (M,(d:Int),v7))) (
     (ixO M r6).bind fun v8 => (ixO M (d:Int)).bind fun v9 => (ixO (swapL M (d:Int) r6 v8 v9) (d:Int)).bind fun v10 => (ixO v10 (c:Int)).bind fun v11 => (f_impl_inverseMod v11 p).bind fun r12 =>
     (ixO (swapL M (d:Int) r6 v8 v9) (d:Int)).bind fun v13 => (loopO (l2_impl_reduceRows p (M,(d:Int),(c:Int)) r12 v13) (swapL M (d:Int) r6 v8 v9,0)).bind fun r21 =>
     (loopO (l3_impl_reduceRows p (M,(d:Int),(c:Int)) r21) (r21,0)).bind fun r30 => (rng ((d:Int) + 1)).bind fun v31 => (rng ((c:Int) + 1)).bind fun v32 => some (.inl (r30,v31,v32)))) (some (.inr (M,(d:Int)))):=by
   unfold l4_impl_reduceRows
   simp only
   have hx:ixO M (0:Int) = some (M.getD 0 []):=by
    have:=ixO_d (v:=M) (i:=0) [] (by omega)
    exact this
   rw [decide_eq_true (by omega),cnd_t,hx]
   simp only [bs]
   rw [(h.row 0 (by omega)).1,lt_t hc,cnd_t]
  rcases Nat.lt_or_ge d rows.length with hd | hd
  ·obtain ⟨t,t1,t2,t3,t4,t5⟩:=find_impl (M:=M) (d:=d) (c:=c) (m:=rows.length) (n:=n) hl hdm (by omega) (fun i hi => (h.row i hi).1) hc
   rw [e0,hl,lt_t hd,cnd_t,t3]
   simp only [bs]
   by_cases htm:t = rows.length
   ·
    left
    refine ⟨(M,(d:Int),((c + 1:Nat):Int)),?_,M,d,pv,rfl,⟨hl,h.row,hdm,fun i hi => by have:=h.lt i hi;omega,h.one,h.low,h.off,h.mono,fun k k1 k2 j hj => ?_,h.sp⟩,by omega⟩
    ·rw [beq_t (by omega),cnd_t,rng_of (by omega) (by omega),bs,cs]
    ·rcases Nat.lt_or_ge j c with g | g
     ·exact h.zero k k1 k2 j g
     ·rw [show j = c from by omega];exact t4 k k1 (by omega)
   ·have htl:t < rows.length:=by omega
    have hne:=t5 htl
    have hrt:=h.row t htl
    have hrc:=hrt.2 c hc
    obtain ⟨q,q1,q2,q3,q4⟩:=inverse_impl (p:=p) (x:=ent M t c) hp (by simp only [ent] at hne ⊢;omega) (by simp only [ent];omega)
    left
    have hM:M = mkR rows.length (fun i => M.getD i []):=mkR_eq hl
    obtain ⟨F,hF⟩:∃ F:Nat → List Int,∀ i,F i = if i = t then M.getD d [] else if i = d then M.getD t [] else M.getD i []:=⟨_,fun _ => rfl⟩
    have hsw:swapL M (d:Int) (t:Int) (M.getD t []) (M.getD d []) = mkR rows.length F:=by
     unfold swapL
     rw [Int.toNat_natCast,Int.toNat_natCast]
     conv => lhs;rw [hM]
     rw [mkR_set,mkR_set]
     exact mkR_congr fun i hi => by rw [hF,mkR_get hd,mkR_get htl]
    have hrow2:∀ i,i < rows.length → Row p n (F i):=fun i hi => by
     rw [hF]
     split
     ·exact h.row d hd
     ·split
      ·exact hrt
      ·exact h.row i hi
    have hFd:F d = M.getD t []:=by
     rw [hF]
     by_cases e:d = t
     ·rw [if_pos e,e]
     ·rw [if_neg e,if_pos rfl]
    obtain ⟨G,hG⟩:∃ G:Nat → List Int,∀ i,G i = if i = d then mkv n fun j => (at0 (F d) j * q) % p else F i:=⟨_,fun _ => rfl⟩
    have hGd:G d = mkv n fun j => (ent M t j * q) % p:=by rw [hG,if_pos rfl,hFd]
    have hGo:∀ i,i ≠ d → G i = if i = t then M.getD d [] else M.getD i []:=fun i hid => by rw [hG,if_neg hid,hF];simp only [hid,if_false]
    have hsc:loopO (l2_impl_reduceRows p (M,(d:Int),(c:Int)) (q,true) (M.getD t [])) (mkR rows.length F,0) = some (mkR rows.length G):=by
     rw [scale_loop hp (F:=F) hd (hrow2 d hd) (by omega) ⟨q2,q3⟩ hrt.1 rfl]
     congr 1
     exact mkR_congr fun i _ => (hG i).symm
    have hF3:∀ i,i < rows.length → Row p n (G i):=fun i hi => by
     rw [hG]
     split
     ·refine ⟨mkv_length _ _,fun j hj => ?_⟩
      have e1:=Int.emod_nonneg (at0 (F d) j * q) (show p ≠ 0 by omega)
      have e2:=Int.emod_lt_of_pos (at0 (F d) j * q) (show 0 < p by omega)
      rw [mkv_at hj];omega
     ·exact hrow2 i hi
    have hcl:=clear_loop hp (c:=c) (F:=G) hd hc hF3 (by omega) (by omega) (r21:=mkR rows.length G) mkR_len (s:=(M,(d:Int),(c:Int))) rfl rfl
    rw [beq_f (by omega),cnd_f,ixO_d [] (by omega),ixO_d [] (by omega)]
    simp only [bs]
    rw [hsw,mkR_ix hd,hFd]
    simp only [bs]
    rw [ixO_at (by rw [hrt.1];exact hc)]
    simp only [bs]
    rw [show at0 (M.getD t []) c = ent M t c from rfl,q1]
    simp only [bs]
    rw [hsc]
    simp only [bs]
    rw [hcl]
    simp only [bs]
    rw [rng_of (by omega) (by omega),rng_of (by omega) (by omega)]
    simp only [bs,cs]
    have hfin:=h.pivot hp hc hd t1 htl hne q4
    refine ⟨_,rfl,_,d + 1,fun i => if i = d then c else pv i,rfl,?_,by omega⟩
    have e3:(mkR rows.length fun i => if i = d then G d else addM p n (G i) (0 - at0 (G i) c) (G d)) = (mkR rows.length fun i => if i = d then mkv n fun j => (ent M t j * q) % p else addM p n (if i = t then M.getD d [] else M.getD i []) (0 - at0 (if i = t then M.getD d [] else M.getD i []) c) (mkv n fun j => (ent M t j * q) % p)):=by
     refine mkR_congr fun i hi => ?_
     rw [hGd]
     by_cases hid:i = d
     ·rw [if_pos hid,if_pos hid]
     ·rw [if_neg hid,if_neg hid,hGo i hid]
    rw [e3];exact hfin
  ·
   refine .inr ⟨(M,(d:Int)),?_,M,d,pv,rfl,by omega,h.take hcn fun k hk hk2 => by omega⟩
   rw [e0,decide_eq_false (by omega),cnd_f]
 ·
  obtain ⟨M,d,pv,rfl,h,hcn⟩:=hI
  have hl:=h.len
  have hdm:=h.dm
  refine ⟨(M,(d:Int)),?_,M,d,pv,rfl,by omega,h.take hcn fun k hk hk2 j hj => h.zero k hk hk2 j hj⟩
  unfold l4_impl_reduceRows
  simp only
  by_cases h0:rows.length = 0
  ·rw [decide_eq_false (by omega),cnd_f]
  ·have hx:ixO M (0:Int) = some (M.getD 0 []):=by
    have:=ixO_d (v:=M) (i:=0) [] (by omega)
    exact this
   rw [decide_eq_true (by omega),cnd_t,hx]
   simp only [bs]
   rw [(h.row 0 (by omega)).1,lt_f,cnd_f]
end
end Go.Pl

namespace Go.Pl
open Go Go.Ab Go.Wk Go.Pc
theorem lead_spec {v:List Int} {n:Nat} (hl:v.length = n) (hn:n ≤ 1000000):∃ k:Nat,k ≤ n ∧ f_spec_l02Lead v = some (k:Int) ∧ (∀ j,j < k → at0 v j = 0) ∧ (k < n → at0 v k ≠ 0):=by
 unfold f_spec_l02Lead
 rcases chk (body:=l1_spec_l02Lead v) n 0 (Nat.zero_le _) (fun i => at0 v i = 0) (fun i => (i:Int)) (fun i _ hi _ => by
   unfold l1_spec_l02Lead
   rw [hl,lt_t hi,cnd_t,ixO_at (by omega),bs]
   by_cases h:at0 v i = 0
   ·rw [bne_f h,cnd_f,rng_of (by omega) (by omega),bs,cs];exact .inl ⟨rfl,h⟩
   ·rw [bne_t h,cnd_t];exact .inr ⟨rfl,h⟩) (by
   unfold l1_spec_l02Lead
   rw [hl,lt_f,cnd_f]) with ⟨h1,h2⟩ | ⟨i,_,hi,h1,h2⟩
 ·rw [show ((0:Nat):Int) = 0 from rfl] at h1
  rw [h1,bs]
  exact ⟨n,Nat.le_refl _,by simp only [hl],fun j hj => h2 j (Nat.zero_le _) hj,fun h => by omega⟩
 ·rw [show ((0:Nat):Int) = 0 from rfl] at h1
  rw [h1,bs]
  obtain ⟨k,⟨hk1,hk2⟩,hmin⟩:=least (p:=fun k => k < n ∧ at0 v k ≠ 0) ⟨i,hi,h2⟩
  have hz:∀ j,j < k → at0 v j = 0:=fun j hj => Classical.byContradiction fun h => hmin j hj ⟨by omega,h⟩
  have hki:k = i:=by
   have hloop:∀ q,q ≤ k → loopO (l1_spec_l02Lead v) ((k - q:Nat):Int) = some (.inr (k:Int)):=by
    intro q
    induction q with
    | zero =>
     intro _
     rw [loopO_eq]
     have e:l1_spec_l02Lead v ((k - 0:Nat):Int) = some (.inr (.inr (k:Int))):=by
      unfold l1_spec_l02Lead
      rw [show k - 0 = k from rfl,hl,lt_t hk1,cnd_t,ixO_at (by omega),bs,bne_t hk2,cnd_t]
     rw [e]
    | succ q ih =>
     intro hq
     rw [loopO_eq]
     have e:l1_spec_l02Lead v ((k - (q + 1):Nat):Int) = some (.inl ((k - q:Nat):Int)):=by
      unfold l1_spec_l02Lead
      rw [hl,lt_t (by omega),cnd_t,ixO_at (by omega),bs,bne_f (hz _ (by omega)),cnd_f,rng_of (by omega) (by omega),bs,cs,show k - (q + 1) + 1 = k - q from by omega]
     rw [e];exact ih (by omega)
   have:=hloop k (Nat.le_refl _)
   rw [Nat.sub_self,show ((0:Nat):Int) = 0 from rfl,h1] at this
   have:=Sum.inr.inj (Option.some.inj this)
   omega
  exact ⟨i,by omega,rfl,by rw [← hki];exact hz,fun _ => h2⟩
theorem lead_is {v:List Int} {n k:Nat} (hl:v.length = n) (hn:n ≤ 1000000) (hk:k < n) (h0:∀ j,j < k → at0 v j = 0) (h1:at0 v k ≠ 0):f_spec_l02Lead v = some (k:Int):=by
 obtain ⟨q,q1,q2,q3,q4⟩:=lead_spec hl hn
 have:q = k:=by
  rcases Nat.lt_trichotomy q k with g | g | g
  ·exact absurd (h0 q g) (q4 (by omega))
  ·exact g
  ·exact absurd (q3 k g) h1
 rw [q2,this]
theorem inv_spec {p x:Int} (hp:Prime p) (h0:1 ≤ x) (h1:x ≤ p - 1):∃ r,f_spec_l01Inv x p = some r ∧ 0 ≤ r ∧ r ≤ p - 1 ∧ (x * r) % p = 1:=by
 have h7:=hp.pos
 have hx:∃ k:Nat,1 ≤ k ∧ (k:Int) < p ∧ (x * (k:Int)) % p = 1:=by
  obtain ⟨r,_,r1,r2,r3⟩:=inverse_impl hp h0 h1
  refine ⟨r.toNat,?_,by omega,by rw [Int.toNat_of_nonneg r1];exact r3⟩
  rcases Int.lt_or_eq_of_le r1 with g | g
  ·omega
  ·rw [← g] at r3;simp at r3
 obtain ⟨k,⟨k1,k2,k3⟩,hmin⟩:=least hx
 have body:∀ i:Nat,1 ≤ i → (i:Int) < p → l1_spec_l01Inv x p (i:Int) = cond ((x * (i:Int)) % p == 1) (some (.inr (.inr (i:Int)))) (some (.inl ((i + 1:Nat):Int))):=fun i hi hip => by
  have a3:=Int.mul_nonneg (show 0 ≤ x by omega) (show 0 ≤ (i:Int) by omega)
  have a4:=mulk_small hp (k:=(i:Int)) ⟨by omega,by omega⟩ (b:=x) ⟨by omega,h1⟩
  rw [Int.mul_comm] at a4
  unfold l1_spec_l01Inv
  rw [decide_eq_true hip,cnd_t,mod_spec hp (by omega) (by omega),bs,Int.emod_eq_of_lt (by omega) (by omega),rng_of (by omega) (by omega),bs]
  unfold remO
  rw [if_neg (by omega),bs,Int.tmod_eq_emod_of_nonneg a3]
  by_cases hh:(x * (i:Int)) % p = 1
  ·rw [beq_t hh,cnd_t,cnd_t]
  ·rw [beq_f hh,cnd_f,cnd_f,rng_of (by omega) (by omega),bs,cs]
 have hloop:∀ q,q + 1 ≤ k → loopO (l1_spec_l01Inv x p) ((k - q:Nat):Int) = some (.inr (k:Int)):=by
  intro q
  induction q with
  | zero =>
   intro _
   rw [loopO_eq,show k - 0 = k from rfl,body k k1 k2,beq_t k3,cnd_t]
  | succ q ih =>
   intro hq
   have hne:(x * ((k - (q + 1):Nat):Int)) % p ≠ 1:=fun h => hmin (k - (q + 1)) (by omega) ⟨by omega,by omega,h⟩
   rw [loopO_eq,body _ (by omega) (by omega),beq_f hne,cnd_f,show k - (q + 1) + 1 = k - q from by omega]
   exact ih (by omega)
 have:=hloop (k - 1) (by omega)
 rw [show k - (k - 1) = 1 from by omega,show ((1:Nat):Int) = 1 from rfl] at this
 refine ⟨(k:Int),?_,by omega,by omega,k3⟩
 unfold f_spec_l01Inv
 rw [this,bs]
section
variable {p:Int} (hp:Prime p) {n:Nat} (hn:n ≤ 100000)
 include hp hn
theorem addM_p {r s:List Int} (hr:Row p n r):addM p n r p s = r:=by
 have _:=hp
 have _:=hn
 conv => rhs;rw [mkv_eq hr.1]
 refine mkv_congr fun j hj => ?_
 have:=hr.2 j hj
 rw [Int.add_mul_emod_self_left];exact Int.emod_eq_of_lt this.1 (by omega)
def cl (p:Int) (n:Nat) (out:Mx) (pv:Nat → Nat) (v:List Int):Nat → List Int
 | 0 => v
 | i + 1 => addM p n (cl p n out pv v i) (p - at0 (cl p n out pv v i) (pv i)) (out.getD i [])
variable {out:Mx} {pv:Nat → Nat} (h:Red p n out pv) {v:List Int} (hv:Row p n v)
 include h hv
theorem cl_row:∀ i,Row p n (cl p n out pv v i):=by
 have _:=hn
 have _:=h
 intro i
 cases i with
 | zero => exact hv
 | succ i => exact addM_row hp
theorem cl_piv:∀ i,i ≤ out.length → ∀ k,k < i → at0 (cl p n out pv v i) (pv k) = 0:=by
 have _:=hn;have _:=hv
 have h7:=hp.pos
 intro i
 induction i with
 | zero => intro _ k hk;omega
 | succ i ih =>
  intro hi k hk
  have hlt:=h.lt k (by omega)
  rw [cl,addM,mkv_at hlt]
  rcases Nat.lt_or_ge k i with g | g
  ·have h1:=ih (by omega) k g
   have h2:=h.off k i (by omega) (by omega) (by omega)
   simp only [ent] at h2
   rw [h1,h2];simp
  ·have hki:k = i:=by omega
   subst hki
   have h2:=h.one k (by omega)
   simp only [ent] at h2
   rw [h2,Int.mul_one,show at0 (cl p n out pv v k) (pv k) + (p - at0 (cl p n out pv v k) (pv k)) = p from by omega,Int.emod_self]
theorem cl_comb:∀ i,i ≤ out.length → ∃ cf:Nat → Int,∀ j,j < n → at0 (cl p n out pv v i) j % p = (at0 v j + S out.length fun k => cf k * ent out k j) % p:=by
 have _:=hp;have _:=h;have _:=hv
 have _:=hn
 intro i
 induction i with
 | zero => intro _;exact ⟨fun _ => 0,fun j _ => by rw [S_congr (g:=fun _ => 0) (fun i _ => by simp),S_zero,Int.add_zero];rfl⟩
 | succ i ih =>
  intro hi
  obtain ⟨cf,hcf⟩:=ih (by omega)
  refine ⟨fun k => cf k + (if k = i then p - at0 (cl p n out pv v i) (pv i) else 0),fun j hj => ?_⟩
  have e1:(S out.length fun k => (cf k + (if k = i then p - at0 (cl p n out pv v i) (pv i) else 0)) * ent out k j) = (S out.length fun k => cf k * ent out k j) + (p - at0 (cl p n out pv v i) (pv i)) * ent out i j:=by
   rw [S_congr (g:=fun k => cf k * ent out k j + (if k = i then p - at0 (cl p n out pv v i) (pv i) else 0) * ent out k j) (fun k _ => by rw [Int.add_mul]),S_add,S_one (f:=fun k => (if k = i then p - at0 (cl p n out pv v i) (pv i) else 0) * ent out k j) (k:=i) (by omega) (fun k _ hk => by simp [hk])]
   simp
  rw [e1,cl,addM,mkv_at hj,Int.emod_emod,← Int.add_assoc,Int.add_emod,hcf j hj,← Int.add_emod]
theorem clear_spec (hm:out.length ≤ 100000):f_spec_l02Clear p out v = some (cl p n out pv v out.length):=by
 have h7:=hp.pos
 unfold f_spec_l02Clear
 rw [own_spec (by rw [hv.1];omega),bs]
 have:=loopO_seq (body:=l1_spec_l02Clear p out) (r:=cl p n out pv v out.length) (fun i => (cl p n out pv v i,(i:Int))) out.length (fun i hi => by
  have hr:=cl_row hp hn h hv i
  have ho:=h.row i hi
  have hlt:=h.lt i hi
  have hone:=h.one i hi
  have hlow:=h.low i hi
  simp only [ent] at hone hlow
  have he:=hr.2 (pv i) hlt
  unfold l1_spec_l02Clear
  simp only
  rw [lt_t hi,cnd_t,ixO_d [] hi,bs,lead_is ho.1 (by omega) hlt hlow (by rw [hone];decide),bs,hr.1,lt_t hlt,cnd_t,ixO_at (by rw [hr.1];exact hlt),bs]
  by_cases hz:at0 (cl p n out pv v i) (pv i) = 0
  ·rw [bne_f hz,cnd_f,rng_of (by omega) (by omega),bs,cs,cl,hz,Int.sub_zero,addM_p hp hn hr]
  ·rw [bne_t hz,cnd_t,bs,rng_of (by omega) (by omega),bs,bs,l02Add_spec hp hr ho ⟨by omega,by omega⟩ (by omega),bs,rng_of (by omega) (by omega),bs,cs]
   rfl) (by
  unfold l1_spec_l02Clear
  simp only
  rw [lt_f,cnd_f])
 rw [show ((0:Nat):Int) = 0 from rfl] at this
 simp only [cl] at this
 rw [this,bs]
end
end Go.Pl

namespace Go.Pl
open Go Go.Ab Go.Wk Go.Pc
section
variable {p:Int} (hp:Prime p) {n:Nat} {out:Mx} {pv:Nat → Nat} (h:Red p n out pv) {u:List Int} {k q:Nat} (hu:Row p n u) (hk:k < n) (u1:at0 u k = 1) (ul:∀ j,j < k → at0 u j = 0) (up:∀ i,i < out.length → at0 u (pv i) = 0) (hq:q ≤ out.length) (q1:∀ i,i < q → pv i < k) (q2:∀ i,q ≤ i → i < out.length → k < pv i)
def oth (p:Int) (n:Nat) (out:Mx) (u:List Int) (k i:Nat):List Int:=addM p n (out.getD i []) (p - at0 (out.getD i []) k) u
def newR (p:Int) (n:Nat) (out:Mx) (u:List Int) (k q i:Nat):List Int:=if i < q then oth p n out u k i else if i = q then u else oth p n out u k (i - 1)
def newP (pv:Nat → Nat) (k q i:Nat):Nat:=if i < q then pv i else if i = q then k else pv (i - 1)
 include hp h hu hk u1 ul up hq q1 q2
theorem oth_at {i j:Nat} (hj:j < n):at0 (oth p n out u k i) j = (at0 (out.getD i []) j - at0 (out.getD i []) k * at0 u j) % p:=by
 have _:=hp;have _:=h;have _:=hu;have _:=hk;have _:=u1;have _:=ul;have _:=up;have _:=hq;have _:=q1;have _:=q2
 rw [oth,addM,mkv_at hj,show at0 (out.getD i []) j + (p - at0 (out.getD i []) k) * at0 u j = at0 (out.getD i []) j - at0 (out.getD i []) k * at0 u j + p * at0 u j from by rw [Int.sub_mul];omega,Int.add_mul_emod_self_left]
theorem oth_same {i j:Nat} (hi:i < out.length) (hj:j < n) (hz:at0 (out.getD i []) k = 0 ∨ at0 u j = 0):at0 (oth p n out u k i) j = ent out i j:=by
 rw [oth_at hp h hu hk u1 ul up hq q1 q2 hj]
 have:=(h.row i hi).2 j hj
 have e:at0 (out.getD i []) k * at0 u j = 0:=by rcases hz with g | g <;> rw [g] <;> simp
 rw [e,Int.sub_zero];exact Int.emod_eq_of_lt this.1 (by omega)
theorem oth_k {i:Nat}:at0 (oth p n out u k i) k = 0:=by
 rw [oth_at hp h hu hk u1 ul up hq q1 q2 hk,u1,Int.mul_one,Int.sub_self];rfl
theorem oth_low {i j:Nat} (hi:i < out.length) (hj:j < pv i) (hne:pv i ≠ k):at0 (oth p n out u k i) j = 0:=by
 have hlt:=h.lt i hi
 rcases Nat.lt_or_ge (pv i) k with g | g
 ·rw [oth_same hp h hu hk u1 ul up hq q1 q2 hi (by omega) (.inr (ul j (by omega)))];exact h.low i hi j hj
 ·have:=h.low i hi k (by omega)
  rw [oth_same hp h hu hk u1 ul up hq q1 q2 hi (by omega) (.inl this)];exact h.low i hi j hj
theorem pv_ne {i:Nat} (hi:i < out.length):pv i ≠ k:=by
 have _:=h;have _:=q1;have _:=q2
 have _:=hp;have _:=hu;have _:=hk;have _:=ul;have _:=hq
 intro e
 have:=up i hi
 rw [e,u1] at this;cases this
theorem new_cases {i:Nat} (hi:i < out.length + 1):(i = q ∧ newR p n out u k q i = u ∧ newP pv k q i = k) ∨ ∃ a,a < out.length ∧ (i < q ∧ a = i ∨ q < i ∧ i = a + 1) ∧ newR p n out u k q i = oth p n out u k a ∧ newP pv k q i = pv a:=by
 have _:=hp;have _:=h;have _:=hu;have _:=hk;have _:=u1;have _:=ul;have _:=up;have _:=q1;have _:=q2
 unfold newR newP
 rcases Nat.lt_trichotomy i q with g | g | g
 ·exact .inr ⟨i,by omega,.inl ⟨g,rfl⟩,by rw [if_pos g],by rw [if_pos g]⟩
 ·exact .inl ⟨g,by rw [if_neg (by omega),if_pos g],by rw [if_neg (by omega),if_pos g]⟩
 ·exact .inr ⟨i - 1,by omega,.inr ⟨g,by omega⟩,by rw [if_neg (by omega),if_neg (by omega)],by rw [if_neg (by omega),if_neg (by omega)]⟩
theorem insert_red:Red p n (mkR (out.length + 1) (newR p n out u k q)) (newP pv k q):=by
 have nc:=fun i hi => new_cases hp h hu hk u1 ul up hq q1 q2 (i:=i) hi
 have pn:=fun i hi => pv_ne hp h hu hk u1 ul up hq q1 q2 (i:=i) hi
 refine ⟨fun i hi => ?_,fun i hi => ?_,fun i hi => ?_,fun i hi j hj => ?_,fun i j hi hj hne => ?_,fun i j hij hj => ?_⟩ <;> rw [mkR_len] at *
 ·rw [mkR_get hi]
  rcases nc i hi with ⟨_,e,_⟩ | ⟨a,_,_,e,_⟩ <;> rw [e]
  ·exact hu
  ·exact addM_row hp
 ·rcases nc i hi with ⟨_,_,e⟩ | ⟨a,ha,_,_,e⟩ <;> rw [e]
  ·exact hk
  ·exact h.lt a ha
 ·rw [mkR_ent hi]
  rcases nc i hi with ⟨_,e1,e2⟩ | ⟨a,ha,_,e1,e2⟩ <;> rw [e1,e2]
  ·exact u1
  ·rw [oth_same hp h hu hk u1 ul up hq q1 q2 ha (h.lt a ha) (.inr (up a ha))];exact h.one a ha
 ·rw [mkR_ent hi]
  rcases nc i hi with ⟨_,e1,e2⟩ | ⟨a,ha,_,e1,e2⟩ <;> rw [e2] at hj <;> rw [e1]
  ·exact ul j hj
  ·exact oth_low hp h hu hk u1 ul up hq q1 q2 ha hj (pn a ha)
 ·rw [mkR_ent hj]
  rcases nc i hi with ⟨g1,_,e2⟩ | ⟨a,ha,ga,_,e2⟩ <;> rw [e2] <;> rcases nc j hj with ⟨g3,e3,_⟩ | ⟨b,hb,gb,e3,_⟩ <;> rw [e3]
  ·omega
  ·exact oth_k hp h hu hk u1 ul up hq q1 q2
  ·exact up a ha
  ·rw [oth_same hp h hu hk u1 ul up hq q1 q2 hb (h.lt a ha) (.inr (up a ha))]
   exact h.off a b ha hb (by omega)
 ·rcases nc i (by omega) with ⟨g1,_,e2⟩ | ⟨a,ha,ga,_,e2⟩ <;> rw [e2] <;> rcases nc j hj with ⟨g3,_,e4⟩ | ⟨b,hb,gb,_,e4⟩ <;> rw [e4]
  ·omega
  ·exact q2 b (by omega) hb
  ·exact q1 a (by omega)
  ·exact h.mono a b (by omega) hb
theorem insert_sp:(∀ i,i < out.length + 1 → Sp p n (out ++ [u]) (newR p n out u k q i)) ∧ (∀ i,i < out.length → Sp p n (mkR (out.length + 1) (newR p n out u k q)) (out.getD i [])) ∧ Sp p n (mkR (out.length + 1) (newR p n out u k q)) u:=by
 have hul:Sp p n (out ++ [u]) u:=by
  have:=sp_row (p:=p) (n:=n) (R:=out ++ [u]) (i:=out.length) (by simp)
  simpa [List.getD_eq_getElem?_getD] using this
 have hol:∀ i,i < out.length → Sp p n (out ++ [u]) (out.getD i []):=fun i hi => by
  have:=sp_row (p:=p) (n:=n) (R:=out ++ [u]) (i:=i) (by simp;omega)
  simpa [List.getD_eq_getElem?_getD,List.getElem?_append_left hi] using this
 have hoth:∀ i,i < out.length → Sp p n (out ++ [u]) (oth p n out u k i):=fun i hi =>
  sp_add (k:=p - at0 (out.getD i []) k) (hol i hi) hul fun j hj => by rw [oth,addM,mkv_at hj,Int.emod_emod]
 have hsu:Sp p n (mkR (out.length + 1) (newR p n out u k q)) u:=by
  have:=sp_mkR_row (p:=p) (n:=n) (m:=out.length + 1) (F:=newR p n out u k q) (i:=q) (by omega)
  rw [show newR p n out u k q q = u from by unfold newR;rw [if_neg (by omega),if_pos rfl]] at this
  exact this
 refine ⟨fun i hi => ?_,fun i hi => ?_,hsu⟩
 ·rcases new_cases hp h hu hk u1 ul up hq q1 q2 hi with ⟨_,e,_⟩ | ⟨a,ha,_,e,_⟩ <;> rw [e]
  ·exact hul
  ·exact hoth a ha
 ·have hi2:∃ b,b < out.length + 1 ∧ newR p n out u k q b = oth p n out u k i:=by
   rcases Nat.lt_or_ge i q with g | g
   ·exact ⟨i,by omega,by unfold newR;rw [if_pos g]⟩
   ·exact ⟨i + 1,by omega,by unfold newR;rw [if_neg (by omega),if_neg (by omega)];rfl⟩
  obtain ⟨b,hb,e⟩:=hi2
  have h1:=sp_mkR_row (p:=p) (n:=n) (m:=out.length + 1) (F:=newR p n out u k q) hb
  rw [e] at h1
  refine sp_add (k:=at0 (out.getD i []) k) h1 hsu fun j hj => ?_
  rw [oth_at hp h hu hk u1 ul up hq q1 q2 hj,Int.add_emod,Int.emod_emod,← Int.add_emod,show at0 (out.getD i []) j - at0 (out.getD i []) k * at0 u j + at0 (out.getD i []) k * at0 u j = at0 (out.getD i []) j from by omega]
theorem insert_loop (hn:n ≤ 100000) (hm:out.length ≤ 100000) {x:Int} :
  ((loopO (l1_spec_l02Reduce p (out,x) (k:Int) u) ([],false,0)).bind fun r32 => cond (!r32.2) ((appO r32.1 [u]).bind fun v33 => some v33) (some r32.1)) = some (mkR (out.length + 1) (newR p n out u k q)):=by
 have _:=u1;have _:=ul;have _:=up
 have h7:=hp.pos
 have ho:∀ i,i < out.length → f_spec_l02Add p (out.getD i []) (p - at0 (out.getD i []) k) u = some (oth p n out u k i) ∧ ixO (out.getD i []) (k:Int) = some (at0 (out.getD i []) k) ∧ 0 ≤ at0 (out.getD i []) k ∧ at0 (out.getD i []) k ≤ p - 1 ∧ f_spec_l02Lead (out.getD i []) = some (pv i:Int):=fun i hi => by
  have hr:=h.row i hi
  have hk2:=hr.2 k hk
  have hone:=h.one i hi
  have hlow:=h.low i hi
  simp only [ent] at hone hlow
  exact ⟨by rw [l02Add_spec hp hr hu ⟨by omega,by omega⟩ (by omega)];rfl,ixO_at (by rw [hr.1];exact hk),hk2.1,hk2.2,lead_is hr.1 (by omega) (h.lt i hi) hlow (by rw [hone];decide)⟩
 have hsn:∀ {m:Nat} {F:Nat → List Int},mkR m F ++ [F m] = mkR (m + 1) F:=fun {m F} => by simp [mkR,List.range_succ]
 have:=loopO_seq (body:=l1_spec_l02Reduce p (out,x) (k:Int) u) (r:=(if out.length ≤ q then (mkR out.length (newR p n out u k q),false) else (mkR (out.length + 1) (newR p n out u k q),true)))
  (fun j => if j ≤ q then (mkR j (newR p n out u k q),false,(j:Int)) else (mkR (j + 1) (newR p n out u k q),true,(j:Int))) out.length (fun j hj => by
   obtain ⟨a1,a2,a3,a4,a5⟩:=ho j hj
   have hrg:rng (p - at0 (out.getD j []) k) = some (p - at0 (out.getD j []) k):=rng_of (by omega) (by omega)
   rcases Nat.lt_trichotomy j q with g | g | g
   ·have hpj:=q1 j g
    rw [if_pos (by omega),if_pos (by omega)]
    unfold l1_spec_l02Reduce
    simp only
    rw [lt_t hj,cnd_t,Bool.not_false,cnd_t,ixO_d [] hj]
    simp only [bs,a5]
    rw [decide_eq_false (by omega),cnd_f,a2]
    simp only [bs,hrg,a1]
    rw [appO_of (by rw [mkR_len];simp;omega),bs,rng_of (by omega) (by omega),bs,cs]
    have:newR p n out u k q j = oth p n out u k j:=by unfold newR;rw [if_pos g]
    rw [← this,hsn]
   ·subst g
    have hpj:=q2 j (Nat.le_refl _) hj
    rw [if_pos (by omega),if_neg (by omega)]
    unfold l1_spec_l02Reduce
    simp only
    rw [lt_t hj,cnd_t,Bool.not_false,cnd_t,ixO_d [] hj]
    simp only [bs,a5]
    rw [decide_eq_true (by omega),cnd_t,appO_of (by rw [mkR_len];simp;omega),a2]
    simp only [bs,hrg,a1]
    have e1:newR p n out u k j j = u:=by unfold newR;rw [if_neg (by omega),if_pos rfl]
    have e2:newR p n out u k j (j + 1) = oth p n out u k j:=by unfold newR;rw [if_neg (by omega),if_neg (by omega)];rfl
    have e3:mkR j (newR p n out u k j) ++ [u] = mkR (j + 1) (newR p n out u k j):=by rw [← hsn,e1]
    rw [e3,appO_of (by rw [mkR_len];simp;omega),bs,rng_of (by omega) (by omega),bs,cs,← e2,hsn]
   ·rw [if_neg (by omega),if_neg (by omega)]
    unfold l1_spec_l02Reduce
    simp only
    rw [lt_t hj,cnd_t,Bool.not_true,cnd_f,ixO_d [] hj]
    simp only [bs,a2,hrg,a1]
    have e2:newR p n out u k q (j + 1) = oth p n out u k j:=by unfold newR;rw [if_neg (by omega),if_neg (by omega)];rfl
    rw [appO_of (by rw [mkR_len];simp;omega),bs,rng_of (by omega) (by omega),bs,cs,← e2,hsn]) (by
   by_cases g:out.length ≤ q
   ·rw [if_pos g,if_pos g]
    unfold l1_spec_l02Reduce
    simp only
    rw [lt_f,cnd_f]
   ·rw [if_neg g,if_neg g]
    unfold l1_spec_l02Reduce
    simp only
    rw [lt_f,cnd_f])
 rw [if_pos (Nat.zero_le _),show ((0:Nat):Int) = 0 from rfl,show mkR 0 (newR p n out u k q) = [] from rfl] at this
 rw [this,bs]
 by_cases g:out.length ≤ q
 ·have e1:newR p n out u k q out.length = u:=by unfold newR;rw [if_neg (by omega),if_pos (by omega)]
  rw [if_pos g]
  simp only
  rw [Bool.not_false,cnd_t,appO_of (by rw [mkR_len];simp;omega),bs]
  congr 1
  rw [← hsn,e1]
 ·rw [if_neg g]
  simp only
  rw [Bool.not_true,cnd_f]
end
end Go.Pl

namespace Go.Pl
open Go Go.Ab Go.Wk Go.Pc
theorem sp_sum {p:Int} {n:Nat} {R out:Mx} {cf:Nat → Int} (ho:∀ i,i < out.length → Sp p n R (out.getD i [])) {u:List Int} (hu:∀ j,j < n → at0 u j % p = (S out.length fun k => cf k * ent out k j) % p):Sp p n R u :=
 sp_trans ho ⟨cf,fun j hj => (hu j hj).symm⟩
theorem Red.len_le {p:Int} {n:Nat} {R:Mx} {pv:Nat → Nat} (h:Red p n R pv):R.length ≤ n:=by
 have key:∀ i,i < R.length → i ≤ pv i:=by
  intro i
  induction i with
  | zero => intro _;omega
  | succ i ih =>
   intro hi
   have h1:=ih (by omega)
   have h2:=h.mono i (i + 1) (by omega) hi
   omega
 rcases Nat.eq_zero_or_pos R.length with g | g
 ·omega
 ·have h1:=key (R.length - 1) (by omega)
  have h2:=h.lt (R.length - 1) (by omega)
  omega
theorem getD_snoc {xs:Mx} {v:List Int} {i:Nat} (h:i < xs.length):(xs ++ [v]).getD i [] = xs.getD i []:=by
 simp only [List.getD_eq_getElem?_getD,List.getElem?_append_left h]
theorem getD_last {xs:Mx} {v:List Int}:(xs ++ [v]).getD xs.length [] = v:=by simp [List.getD_eq_getElem?_getD]
section
variable {p:Int} (hp:Prime p) {n:Nat} (hn:n ≤ 100000)
 include hp hn
theorem scale_spec {w:List Int} (hw:Row p n w) {r:Int} (h0:0 ≤ r) (h1:r ≤ p - 1):f_spec_l02Scale p r w = some (mkv n fun j => (at0 w j * r) % p):=by
 have h7:=hp.pos
 unfold f_spec_l02Scale
 rw [hw.1,lenOk_nat (by omega),bs,l02Add_spec hp (z0_row (by omega)) hw ⟨by omega,by omega⟩ (by omega),bs]
 congr 1
 refine mkv_congr fun j hj => ?_
 rw [show at0 (z0 n) j = 0 from by simp [z0,at0,List.getD_eq_getElem?_getD,hj],Int.zero_add,Int.mul_comm]
variable {rows:Mx} (hm:rows.length ≤ 600000) (hr:∀ i,i < rows.length → Row p n (rows.getD i []))
 include hm hr
theorem reduce_specL:∃ R pv,f_spec_l02Reduce p rows = some R ∧ (Red p n R pv ∧ R.length ≤ rows.length) ∧ SpEq p n R rows:=by
 have h7:=hp.pos
 unfold f_spec_l02Reduce
 have main:=loopO_tot (body:=l2_spec_l02Reduce p rows) (s:=([],0)) (Q:=fun R => ∃ pv,(Red p n R pv ∧ R.length ≤ rows.length) ∧ SpEq p n R rows)
  (fun i s => ∃ (out:Mx) (pv:Nat → Nat),s = (out,(i:Int)) ∧ Red p n out pv ∧ SpEq p n out (rows.take i) ∧ out.length ≤ i ∧ i ≤ rows.length) rows.length (fun i s hi hI => ?_) (fun s hI => ?_) ⟨[],fun _ => 0,rfl,Red.empty,by rw [List.take_zero];exact SpEq.refl,Nat.zero_le _,Nat.zero_le _⟩
 ·obtain ⟨R,h1,pv,h2,h3⟩:=main
  rw [h1,bs]
  exact ⟨R,pv,rfl,h2,h3⟩
 ·obtain ⟨out,pv,rfl,h,hs,hl,_⟩:=hI
  have hon:out.length ≤ n:=h.len_le
  left
  have hv:=hr i hi
  have hw:=cl_row hp hn h hv out.length
  have hcl:=clear_spec hp hn h hv (by omega)
  have hpz:=cl_piv hp hn h hv out.length (Nat.le_refl _)
  obtain ⟨cf,hcf⟩:=cl_comb hp hn h hv out.length (Nat.le_refl _)
  obtain ⟨k,k1,k2,k3,k4⟩:=lead_spec hw.1 (by omega)
  have htk:rows.take (i + 1) = rows.take i ++ [rows.getD i []]:=by
   rw [List.take_succ_eq_append_getElem hi,List.getD_eq_getElem?_getD,List.getElem?_eq_getElem hi];rfl
  have hti:(rows.take i).length = i:=by rw [List.length_take];omega
  have hup:∀ u,Sp p n (rows.take i) u → Sp p n (rows.take (i + 1)) u:=fun u hu => sp_trans (fun a ha => by
   have:=sp_row (p:=p) (n:=n) (R:=rows.take (i + 1)) (i:=a) (by rw [htk,List.length_append];omega)
   rw [htk,getD_snoc ha,← htk] at this;exact this) hu
  have hvs:Sp p n (rows.take (i + 1)) (rows.getD i []):=by
   have:=sp_row (p:=p) (n:=n) (R:=rows.take (i + 1)) (i:=i) (by rw [htk,List.length_append,hti];simp)
   rw [htk] at this
   have e:(rows.take i ++ [rows.getD i []]).getD i [] = rows.getD i []:=by
    have:=getD_last (xs:=rows.take i) (v:=rows.getD i [])
    rw [hti] at this;exact this
   rw [e,← htk] at this;exact this
  by_cases hkn:k = n
  ·
   refine ⟨(out,((i + 1:Nat):Int)),?_,out,pv,rfl,h,⟨fun a ha => hup _ (hs.1 a ha),fun a ha => ?_⟩,by omega,by omega⟩
   ·unfold l2_spec_l02Reduce
    simp only
    rw [lt_t hi,cnd_t,ixO_d [] hi]
    simp only [bs,hcl,k2]
    rw [hw.1,beq_t (by omega),cnd_t,rng_of (by omega) (by omega),bs,cs]
   ·rw [htk,List.length_append,hti,List.length_singleton] at ha
    rw [htk]
    rcases Nat.lt_or_ge a i with g | g
    ·rw [getD_snoc (by omega)];exact hs.2 a (by omega)
    ·have:a = i:=by omega
     subst this
     have e:(rows.take a ++ [rows.getD a []]).getD a [] = rows.getD a []:=by
      have:=getD_last (xs:=rows.take a) (v:=rows.getD a [])
      rw [hti] at this;exact this
     rw [e]
     refine sp_sum (out:=out) (cf:=fun q => -1 * cf q) (fun a ha => sp_row ha) fun j hj => ?_
     have h1:=hcf j hj
     rw [k3 j (by omega)] at h1
     rw [S_congr (g:=fun q => -1 * (cf q * ent out q j)) (fun q _ => by rw [Int.mul_assoc]),S_mul']
     have h2:(at0 (rows.getD a []) j + S out.length fun q => cf q * ent out q j) % p = 0:=by rw [← h1];rfl
     rw [show at0 (rows.getD a []) j = (at0 (rows.getD a []) j + S out.length fun q => cf q * ent out q j) + -1 * (S out.length fun q => cf q * ent out q j) from by omega,Int.add_emod,h2,Int.zero_add,Int.emod_emod]
  ·have hk:k < n:=by omega
   have hwk:=hw.2 k hk
   have hne:=k4 hk
   obtain ⟨r,r1,r2,r3,r4⟩:=inv_spec hp (x:=at0 (cl p n out pv (rows.getD i []) out.length) k) (by omega) (by omega)
   have hsc:=scale_spec hp hn hw r2 r3
   have hu:Row p n (mkv n fun j => (at0 (cl p n out pv (rows.getD i []) out.length) j * r) % p):=⟨mkv_length _ _,fun j hj => by
    have e1:=Int.emod_nonneg (at0 (cl p n out pv (rows.getD i []) out.length) j * r) (show p ≠ 0 by omega)
    have e2:=Int.emod_lt_of_pos (at0 (cl p n out pv (rows.getD i []) out.length) j * r) (show 0 < p by omega)
    rw [mkv_at hj];omega⟩
   have ua:∀ j,j < n → at0 (mkv n fun j => (at0 (cl p n out pv (rows.getD i []) out.length) j * r) % p) j = (at0 (cl p n out pv (rows.getD i []) out.length) j * r) % p:=fun j hj => mkv_at hj
   generalize mkv n (fun j => (at0 (cl p n out pv (rows.getD i []) out.length) j * r) % p) = u at hsc hu ua
   have u1:at0 u k = 1:=by rw [ua k hk];exact r4
   have ul:∀ j,j < k → at0 u j = 0:=fun j hj => by rw [ua j (by omega),k3 j hj];simp
   have up:∀ a,a < out.length → at0 u (pv a) = 0:=fun a ha => by rw [ua _ (h.lt a ha),hpz a ha];simp
   obtain ⟨q,⟨hq,hq2⟩,hmin⟩:=least (p:=fun q => q ≤ out.length ∧ (q < out.length → k < pv q)) ⟨out.length,Nat.le_refl _,fun g => by omega⟩
   have q1:∀ a,a < q → pv a < k:=fun a ha => by
    have h1:¬ (k < pv a):=fun g => hmin a ha ⟨by omega,fun _ => g⟩
    have h2:pv a ≠ k:=fun e => by
     have:=up a (by omega)
     rw [e,u1] at this;cases this
    omega
   have q2:∀ a,q ≤ a → a < out.length → k < pv a:=fun a ha ha2 => by
    have h1:=hq2 (by omega)
    rcases Nat.lt_or_ge q a with g | g
    ·have:=h.mono q a g ha2;omega
    ·rw [show a = q from by omega];exact h1
   have hins:=insert_loop hp h hu hk u1 ul up hq q1 q2 hn (by omega) (x:=(i:Int))
   have hred:=insert_red hp h hu hk u1 ul up hq q1 q2
   obtain ⟨s1,s2,s3⟩:=insert_sp hp h hu hk u1 ul up hq q1 q2
   refine ⟨(mkR (out.length + 1) (newR p n out u k q),((i + 1:Nat):Int)),?_,_,_,rfl,hred,⟨fun a ha => ?_,fun a ha => ?_⟩,by rw [mkR_len];omega,by omega⟩
   ·unfold l2_spec_l02Reduce
    simp only
    rw [lt_t hi,cnd_t,ixO_d [] hi]
    simp only [bs,hcl,k2]
    rw [hw.1,beq_f (by omega),cnd_f,ixO_at (by rw [hw.1];exact hk)]
    simp only [bs,r1,hsc]
    cases hlo:loopO (l1_spec_l02Reduce p (out,(i:Int)) (k:Int) u) ([],false,0) with
    | none => rw [hlo] at hins;cases hins
    | some r32 =>
     rw [hlo,bs] at hins
     simp only [bs]
     obtain ⟨a1,a2⟩:=r32
     cases a2 with
     | true =>
      simp only [Bool.not_true,cnd_f] at hins ⊢
      rw [rng_of (by omega) (by omega),bs,cs,Option.some.inj hins]
     | false =>
      simp only [Bool.not_false,cnd_t] at hins ⊢
      cases hap:appO a1 [u] with
      | none => rw [hap] at hins;cases hins
      | some v33 =>
       rw [hap,bs] at hins
       simp only [bs]
       rw [rng_of (by omega) (by omega),bs,cs,Option.some.inj hins]
   ·rw [mkR_len] at ha
    rw [mkR_get ha]
    refine sp_trans (fun b hb => ?_) (s1 a ha)
    rw [List.length_append,List.length_singleton] at hb
    rcases Nat.lt_or_ge b out.length with g | g
    ·rw [getD_snoc g];exact hup _ (hs.1 b g)
    ·rw [show b = out.length from by omega,getD_last]
     have hwS:Sp p n (rows.take (i + 1)) (cl p n out pv (rows.getD i []) out.length):=by
      have hcS:Sp p n (rows.take (i + 1)) (mkv n fun j => S out.length fun k => cf k * ent out k j):=sp_sum (out:=out) (cf:=cf) (fun b hb => hup _ (hs.1 b hb)) fun j hj => by rw [mkv_at hj]
      refine sp_add (k:=1) hvs hcS fun j hj => ?_
      rw [hcf j hj,mkv_at hj,Int.one_mul]
     refine sp_add (k:=r) (sp_zero (u:=[]) fun j _ => by simp [at0]) hwS fun j hj => ?_
     rw [ua j hj,Int.emod_emod,show at0 ([]:List Int) j = 0 from by simp [at0],Int.zero_add,Int.mul_comm]
   ·rw [htk,List.length_append,hti,List.length_singleton] at ha
    rw [htk]
    rcases Nat.lt_or_ge a i with g | g
    ·rw [getD_snoc (by omega)]
     exact sp_trans s2 (hs.2 a (by omega))
    ·have hai:a = i:=by omega
     subst hai
     have e:(rows.take a ++ [rows.getD a []]).getD a [] = rows.getD a []:=by
      have:=getD_last (xs:=rows.take a) (v:=rows.getD a [])
      rw [hti] at this;exact this
     rw [e]
     have hwS:Sp p n (mkR (out.length + 1) (newR p n out u k q)) (cl p n out pv (rows.getD a []) out.length):=by
      refine sp_add (k:=at0 (cl p n out pv (rows.getD a []) out.length) k) (sp_zero (u:=[]) fun j _ => by simp [at0]) s3 fun j hj => ?_
      rw [ua j hj,show at0 ([]:List Int) j = 0 from by simp [at0],Int.zero_add]
      rw [Int.mul_emod,Int.emod_emod,← Int.mul_emod,← Int.mul_assoc,Int.mul_comm (at0 (cl p n out pv (rows.getD a []) out.length) k),Int.mul_assoc,Int.mul_emod,r4,Int.mul_one,Int.emod_emod]
     have hcS:Sp p n (mkR (out.length + 1) (newR p n out u k q)) (mkv n fun j => S out.length fun k => cf k * ent out k j):=sp_sum (out:=out) (cf:=cf) s2 fun j hj => by rw [mkv_at hj]
     refine sp_add (k:=-1) hwS hcS fun j hj => ?_
     rw [mkv_at hj,Int.add_emod,hcf j hj,← Int.add_emod]
     congr 1;omega
 ·obtain ⟨out,pv,rfl,h,hs,hl,_⟩:=hI
  refine ⟨out,?_,pv,⟨h,hl⟩,by rw [List.take_length] at hs;exact hs⟩
  unfold l2_spec_l02Reduce
  simp only
  rw [lt_f,cnd_f]
theorem reduce_spec:∃ R pv,f_spec_l02Reduce p rows = some R ∧ Red p n R pv ∧ SpEq p n R rows:=by
 obtain ⟨R,pv,h1,h2,h3⟩:=reduce_specL hp hn hm hr
 exact ⟨R,pv,h1,h2.1,h3⟩
theorem reduce_len {R:Mx} {pv:Nat → Nat} (h:Red p n R pv) (hs:SpEq p n R rows):R.length ≤ rows.length:=by
 have h7:=hp.pos
 obtain ⟨R',pv',_,h2,h3⟩:=reduce_specL hp hn hm hr
 rw [h.unique (by omega) h2.1 (hs.trans h3.symm)];exact h2.2
theorem reduce_both:∃ R pv,f_spec_l02Reduce p rows = some R ∧ f_impl_reduceRows p rows = some R ∧ Red p n R pv ∧ SpEq p n R rows:=by
 have h7:=hp.pos
 obtain ⟨R,pv,h1,h2,h3⟩:=reduce_spec hp hn hm hr
 obtain ⟨R',pv',g1,g2,g3⟩:=reduce_impl hp hn hm hr
 have e:=h2.unique (by omega) g2 (h3.trans g3.symm)
 exact ⟨R,pv,h1,by rw [e];exact g1,h2,h3⟩
end
end Go.Pl

namespace Go.Pl
open Go Go.Ab Go.Wk Go.Pc
theorem map_loop {β:Type} {body:List β × Int → Option ((List β × Int) ⊕ List β)} (n:Nat) (F:Nat → β) (h:∀ i acc,i < n → acc.length = i → body (acc,(i:Int)) = some (.inl (acc ++ [F i],((i + 1:Nat):Int)))) (he:∀ acc,body (acc,(n:Int)) = some (.inr acc)) :
  loopO body ([],0) = some ((List.range n).map F):=by
 have:=loopO_seq (body:=body) (r:=(List.range n).map F) (fun i => ((List.range i).map F,(i:Int))) n (fun i hi => by
  rw [h i _ hi (by simp),List.range_succ,List.map_append];rfl) (he _)
 exact this
theorem flat_spec {xs:Mx} (hx:xs.length ≤ 100000) (hf:xs.flatten.length ≤ 1000000):f_spec_l22Flat xs = some xs.flatten:=by
 unfold f_spec_l22Flat
 have:=loopO_seq (body:=l1_spec_l22Flat xs) (r:=xs.flatten) (fun i => ((xs.take i).flatten,(i:Int))) xs.length (fun i hi => by
  have h1:=flat_take hi
  have h2:=flat_le (xs:=xs) (i + 1)
  have h3:=congrArg List.length h1
  rw [List.length_append] at h3
  unfold l1_spec_l22Flat
  simp only
  rw [lt_t hi,cnd_t,ixO_d [] hi,bs,appO_of (by omega),bs,rng_of (by omega) (by omega),bs,cs,h1]) (by
  unfold l1_spec_l22Flat
  simp only
  rw [lt_f,cnd_f,List.take_length])
 rw [show ((0:Nat):Int) = 0 from rfl,List.take_zero] at this
 simp only [List.flatten_nil] at this
 rw [this,bs]
theorem row_iff {p:Int} {L:Nat} {v:List Int}:Row p L v ↔ v.length = L ∧ ∀ a ∈ v,0 ≤ a ∧ a ≤ p - 1:=by
 constructor
 ·rintro ⟨h1,h2⟩
  refine ⟨h1,fun a ha => ?_⟩
  obtain ⟨i,hi,rfl⟩:=List.mem_iff_getElem.1 ha
  have:=h2 i (by omega)
  simpa [at0,List.getD_eq_getElem?_getD,List.getElem?_eq_getElem hi] using this
 ·rintro ⟨h1,h2⟩
  refine ⟨h1,fun i hi => ?_⟩
  have:=h2 v[i] (List.getElem_mem (by omega))
  simpa [at0,List.getD_eq_getElem?_getD,List.getElem?_eq_getElem (show i < v.length by omega)] using this
theorem flat_len {D:Nat}:∀ {xs:Mx},(∀ r ∈ xs,r.length = D) → xs.flatten.length = xs.length * D
 | [],_ => by simp
 | x :: xs,h => by
  have:=flat_len (xs:=xs) fun r hr => h r (by simp [hr])
  have:=h x (by simp)
  simp only [List.flatten_cons,List.length_append,List.length_cons,Nat.add_mul];omega
theorem flat_row {p:Int} {D:Nat} {xs:Mx} (h:∀ r ∈ xs,Row p D r):Row p (xs.length * D) xs.flatten:=by
 refine row_iff.2 ⟨flat_len fun r hr => (h r hr).1,fun a ha => ?_⟩
 obtain ⟨r,hr,ha⟩:=List.mem_flatten.1 ha
 exact (row_iff.1 (h r hr)).2 a ha
def unitv (D k:Nat):List Int:=mkv D fun j => if j = k then 1 else 0
theorem unitv_row {p:Int} {D k:Nat} (hp:2 ≤ p):Row p D (unitv D k):=⟨mkv_length _ _,fun i hi => by
 rw [unitv,mkv_at hi];split <;> omega⟩
theorem unitVector_impl {D k:Nat} (hk:k < D) (hD:D ≤ 1000000):f_impl_unitVector (D:Int) (k:Int) = some (unitv D k):=by
 unfold f_impl_unitVector
 rw [lenOk_nat (by omega),bs,ixO_at (by simp;exact hk),bs,Int.toNat_natCast]
 congr 1
 rw [mkv_zero,mkv_set,unitv]
section
variable {n D:Nat} {m:SModule} (hm:MOk n m D) (hn:n ≤ 6)
 include hm hn
def inn (m:SModule) (n D:Nat) (v:List Int):Mx:=(List.range n).map fun i => addM m.Prime D (rowM m.Prime D v (m.Actions.getD i [])) (-1) v
theorem inn_len {v:List Int}:(inn m n D v).length = n:=by
 have _:=hm
 have _:=hn
 simp [inn]
theorem inn_rows {v:List Int}:∀ r ∈ inn m n D v,Row m.Prime D r:=fun r hr => by
 have _:=hn
 simp only [inn,List.mem_map] at hr
 obtain ⟨i,_,rfl⟩:=hr
 exact addM_row hm.p
theorem inner_impl {x:SPresentation} (hx:x.Orders.length = n) {v:List Int} (hv:Row m.Prime D v):f_impl_innerDerivation x m v = some (inn m n D v):=by
 have h7:=hm.p.pos
 have h3:=hm.d3
 unfold f_impl_innerDerivation
 rw [map_loop (body:=l1_impl_innerDerivation x m v) n (fun i => addM m.Prime D (rowM m.Prime D v (m.Actions.getD i [])) (-1) v) (fun i acc hi ha => by
  unfold l1_impl_innerDerivation
  simp only
  rw [hx,lt_t hi,cnd_t,actionAt_impl hm hn hi,bs,vectorTimes_impl hm.p (by omega) hv (hm.mat i hi) rfl,bs,addM_impl hm.p (rowM_row (by omega)) hv (by omega) (by omega),bs,appO_of (by simp;omega),bs,rng_of (by omega) (by omega),bs,cs]) (fun acc => by
  unfold l1_impl_innerDerivation
  simp only
  rw [hx,lt_f,cnd_f]),bs]
 rfl
theorem inner_spec {v:List Int} (hv:Row m.Prime D v):f_spec_l22Inner m v = some (inn m n D v):=by
 have h7:=hm.p.pos
 have h3:=hm.d3
 have hl:=hm.len
 unfold f_spec_l22Inner
 rw [map_loop (body:=l1_spec_l22Inner m v) n (fun i => addM m.Prime D (rowM m.Prime D v (m.Actions.getD i [])) (-1) v) (fun i acc hi ha => by
  unfold l1_spec_l22Inner
  simp only
  rw [hl,lt_t hi,cnd_t,ixO_d [] (by omega),bs,hm.d,times_spec hm.p (by omega) hv (hm.mat i hi),bs,rng_of (by omega) (by omega),bs,l02Add_spec hm.p (rowM_row (by omega)) hv (by omega) (by omega),bs,addM_minus,appO_of (by simp;omega),bs,rng_of (by omega) (by omega),bs,cs]) (fun acc => by
  unfold l1_spec_l22Inner
  simp only
  rw [hl,lt_f,cnd_f]),bs]
 rfl
def innR (m:SModule) (n D:Nat):Mx:=(List.range D).map fun k => (inn m n D (unitv D k)).flatten
theorem innR_row {i:Nat} (hi:i < (innR m n D).length):Row m.Prime (n * D) ((innR m n D).getD i []):=by
 have hl:(innR m n D).length = D:=by simp [innR]
 have:=flat_row (inn_rows hm hn (v:=unitv D i))
 rw [inn_len hm hn] at this
 rw [List.getD_eq_getElem?_getD,List.getElem?_eq_getElem hi]
 simp only [innR,List.getElem_map,List.getElem_range,Option.getD_some]
 exact this
theorem inn_flat_len {v:List Int}:(inn m n D v).flatten.length = n * D:=by
 have:=flat_row (inn_rows hm hn (v:=v))
 rw [inn_len hm hn] at this;exact this.1
theorem innerRows_impl {x:SPresentation} (hx:x.Orders.length = n):f_impl_innerRows x m = some (innR m n D):=by
 have h7:=hm.p.pos
 have h3:=hm.d3
 have hnd:n * D ≤ 6 * 3:=Nat.mul_le_mul hn h3
 unfold f_impl_innerRows
 rw [map_loop (body:=l1_impl_innerRows x m) D (fun k => (inn m n D (unitv D k)).flatten) (fun i acc hi ha => by
  unfold l1_impl_innerRows
  simp only
  rw [hm.d,lt_t hi,cnd_t,unitVector_impl hi (by omega),bs,inner_impl hm hn hx (unitv_row h7.1),bs,concat_impl (by rw [inn_len hm hn];omega) (by rw [inn_flat_len hm hn];omega),bs,appO_of (by simp;omega),bs,rng_of (by omega) (by omega),bs,cs]) (fun acc => by
  unfold l1_impl_innerRows
  simp only
  rw [hm.d,lt_f,cnd_f]),bs]
 rfl
theorem units_spec:f_spec_l22Units m = some (innR m n D):=by
 have h7:=hm.p.pos
 have h3:=hm.d3
 have hnd:n * D ≤ 6 * 3:=Nat.mul_le_mul hn h3
 unfold f_spec_l22Units
 rw [hm.d,unitM_spec hm.p (by omega),bs]
 rw [map_loop (body:=l1_spec_l22Units m (idM D)) D (fun k => (inn m n D (unitv D k)).flatten) (fun i acc hi ha => by
  unfold l1_spec_l22Units
  simp only
  rw [idM_length,lt_t hi,cnd_t,ixO_d [] (by rw [idM_length];exact hi),bs,idM_get hi]
  have e:=inner_spec hm hn (v:=unitv D i) (unitv_row h7.1)
  rw [show (mkv D fun j => if j = i then (1:Int) else 0) = unitv D i from rfl,e,bs,flat_spec (by rw [inn_len hm hn];omega) (by rw [inn_flat_len hm hn];omega),bs,appO_of (by simp;omega),bs,rng_of (by omega) (by omega),bs,cs]) (fun acc => by
  unfold l1_spec_l22Units
  simp only
  rw [idM_length,lt_f,cnd_f]),bs]
 rfl
end
end Go.Pl

namespace Go.Pl
open Go Go.Ab Go.Wk Go.Pc
abbrev gl {β:Type} (m:Nat) (F:Nat → β):List β:=(List.range m).map F
theorem gl_len {β:Type} {m:Nat} {F:Nat → β}:(gl m F).length = m:=by simp [gl]
theorem gl_ix {β:Type} {m:Nat} {F:Nat → β} {i:Nat} (h:i < m):ixO (gl m F) (i:Int) = some (F i):=by
 rw [ixO_get (by rw [gl_len];exact h)];simp [gl]
theorem gl_snoc {β:Type} {m:Nat} {F:Nat → β}:gl m F ++ [F m] = gl (m + 1) F:=by simp [gl,List.range_succ]
end Go.Pl

namespace Go.Pl
open Go Go.Ab Go.Wk Go.Pc
end Go.Pl

namespace Go.Pl
open Go Go.Ab Go.Wk Go.Pc
end Go.Pl

namespace Go.Pl
open Go Go.Ab Go.Wk Go.Pc
def totP (x:SPresentation):Nat:=c1 x.Orders + sm c1 x.Powers + sm (sm c1) x.Conjugates
def markP (x:SPresentation) (k:Int):SPresentation:=⟨m1 k x.Orders,m2 (k + c1 x.Orders) x.Powers,m3 (k + c1 x.Orders + sm c1 x.Powers) x.Conjugates⟩
theorem totP_le {x:SPresentation} (h:SPres x):totP x ≤ 3145728:=by
 obtain ⟨h1,h2,h3⟩:=h
 have g2:=sm2_le (x:=x.Powers)
 have g3:=sm3_le (x:=x.Conjugates)
 simp only [S1] at h1
 simp only [S2] at h2
 simp only [S3] at h3
 simp only [totP];omega
theorem markPresentation_eq {x:SPresentation} {k:Int} (h:SPres x) (k0:0 ≤ k) (k1:k ≤ 1000000000):f_laws_markPresentation x k = some (k + totP x,markP x k):=by
 have ht:=totP_le h
 simp only [totP] at ht
 unfold f_laws_markPresentation
 rw [markInt64S h.1 k0 (by omega),bs,markInt64SS h.2.1 (by simp only;omega) (by simp only;omega),bs,markInt64SSS h.2.2 (by simp only;omega) (by simp only;omega),bs]
 simp only [totP,markP,Int.natCast_add,Int.add_assoc]
end Go.Pl

namespace Go.Pl
open Go Go.Ab Go.Wk Go.Pc
end Go.Pl

namespace Go.Pl
open Go Go.Ab Go.Wk Go.Pc
end Go.Pl

namespace Go.Pl
open Go Go.Ab Go.Wk Go.Pc
theorem index_impl {v:List Int} {k:Nat} (hl:v.length ≤ 1000000) (hk:k < v.length) (h0:∀ j,j < k → at0 v j = 0) (h1:at0 v k ≠ 0):f_slices_IndexFunc_int64_int64 v = some (k:Int):=by
 unfold f_slices_IndexFunc_int64_int64
 have:=loopO_seq (body:=l1_slices_IndexFunc_int64_int64 v) (r:=.inr (k:Int)) (fun i => (i:Int)) k (fun i hi => by
  unfold l1_slices_IndexFunc_int64_int64 f_impl_pivots_1
  rw [lt_t (by omega),cnd_t,ixO_at (by omega),bs,bs,h0 i hi,bne_self_eq_false,cnd_f,rng_of (by omega) (by omega),bs,cs]) (by
  unfold l1_slices_IndexFunc_int64_int64 f_impl_pivots_1
  rw [lt_t hk,cnd_t,ixO_at hk,bs,bs,bne_t h1,cnd_t])
 have e:loopO (l1_slices_IndexFunc_int64_int64 v) 0 = some (.inr (k:Int)):=this
 rw [e,bs]
section
variable {p:Int} (hp:Prime p) {n:Nat} (hn:n ≤ 100000) {R:Mx} {pv:Nat → Nat} (h:Red p n R pv) {v:List Int} (hv:Row p n v)
 include hp hn h
theorem pivots_impl (hm:R.length ≤ 100000):f_impl_pivots R = some (gl R.length fun i => (pv i:Int)):=by
 have h7:=hp.pos
 unfold f_impl_pivots
 rw [map_loop (body:=l1_impl_pivots R) R.length (fun i => (pv i:Int)) (fun i acc hi ha => by
  have hr:=h.row i hi
  have h1:=h.one i hi
  unfold l1_impl_pivots
  simp only
  rw [lt_t hi,cnd_t,ixO_d [] hi,bs,index_impl (k:=pv i) (by rw [hr.1];omega) (by rw [hr.1];exact h.lt i hi) (fun j hj => h.low i hi j hj) (by simp only [ent] at h1;omega),bs,appO_of (by simp;omega),bs,rng_of (by omega) (by omega),bs,cs]) (fun acc => by
  unfold l1_impl_pivots
  simp only
  rw [lt_f,cnd_f]),bs]
 include hv
theorem cl_neg {i:Nat} (hi:i < R.length):addM p n (cl p n R pv v i) (0 - at0 (cl p n R pv v i) (pv i)) (R.getD i []) = cl p n R pv v (i + 1):=by
 have _:=hp;have _:=hn;have _:=h;have _:=hv;have _:=hi
 rw [cl]
 refine mkv_congr fun j _ => ?_
 generalize at0 (cl p n R pv v i) (pv i) = a
 generalize at0 (R.getD i []) j = b
 rw [Int.sub_mul,Int.sub_mul,Int.zero_mul]
 have e:at0 (cl p n R pv v i) j + (p * b - a * b) = at0 (cl p n R pv v i) j + (0 - a * b) + p * b:=by omega
 rw [e,Int.add_mul_emod_self_left]
theorem remainder_impl {c:Int} (hm:R.length ≤ 100000):f_impl_remainderMod (SMatrix.mk p c R) v = some (cl p n R pv v R.length):=by
 have h7:=hp.pos
 have:=loopO_seq (body:=l1_impl_remainderMod (SMatrix.mk p c R) (gl R.length fun i => (pv i:Int))) (r:=cl p n R pv v R.length) (fun i => (cl p n R pv v i,(i:Int))) R.length (fun i hi => by
  have hr:=cl_row hp hn h hv i
  have ha:=hr.2 (pv i) (h.lt i hi)
  unfold l1_impl_remainderMod
  simp only
  rw [gl_len,lt_t hi,cnd_t,gl_ix hi,bs,ixO_d [] hi,bs,ixO_at (by rw [hr.1];exact h.lt i hi),bs,rng_of (by omega) (by omega),bs,addM_impl hp hr (h.row i hi) (by omega) (by omega),bs,rng_of (by omega) (by omega),bs,cs,cl_neg hp hn h hv hi]) (by
  unfold l1_impl_remainderMod
  simp only
  rw [gl_len,lt_f,cnd_f])
 unfold f_impl_remainderMod
 rw [clone_impl (by rw [hv.1];omega),bs]
 simp only
 rw [pivots_impl hp hn h hm,bs]
 have e:loopO (l1_impl_remainderMod (SMatrix.mk p c R) (gl R.length fun i => (pv i:Int))) (v,0) = some (cl p n R pv v R.length):=this
 rw [e,bs]
end
end Go.Pl

namespace Go.Pl
open Go Go.Ab Go.Wk Go.Pc
section
variable {p:Int} (hp:1 < p) {n:Nat} {R R':Mx} {pv pv':Nat → Nat} (h:Red p n R pv) (h':Red p n R' pv') (hs:∀ i,i < R.length → Sp p n R' (R.getD i []))
 include hp h h' hs
theorem Red.lt_of {i i2 k k2:Nat} (hii:i < i2) (hi2:i2 < R.length) (hk:k < R'.length) (e:pv' k = pv i) (e2:pv' k2 = pv i2):k < k2:=by
 have _:=hp;have _:=hs
 have h1:=h.mono i i2 hii hi2
 refine Classical.byContradiction fun hn => ?_
 rcases Nat.lt_or_ge k2 k with g | g
 ·have:=h'.mono k2 k g hk;omega
 ·have:k = k2:=by omega
  subst this;omega
theorem Red.low_in:∀ i,i < R.length → ∃ k,k < R'.length ∧ pv' k = pv i ∧ i ≤ k:=by
 intro i
 induction i with
 | zero => intro hi;obtain ⟨k,hk,e⟩:=h.piv_in hp h' hs hi;exact ⟨k,hk,e,by omega⟩
 | succ i ih =>
  intro hi
  obtain ⟨k,hk,e,hik⟩:=ih (by omega)
  obtain ⟨k2,hk2,e2⟩:=h.piv_in hp h' hs hi
  have:=h.lt_of hp h' hs (show i < i + 1 by omega) hi hk e e2
  exact ⟨k2,hk2,e2,by omega⟩
theorem Red.le_of:R.length ≤ R'.length:=by
 rcases Nat.eq_zero_or_pos R.length with g | g
 ·omega
 ·obtain ⟨k,hk,_,hik⟩:=h.low_in hp h' hs (R.length - 1) (by omega)
  omega
end
end Go.Pl

namespace Go.Pl
open Go Go.Ab Go.Wk Go.Pc
end Go.Pl

namespace Go.Pl
open Go Go.Ab Go.Wk Go.Pc
theorem at0_app {u v:List Int} {j:Nat}:at0 (u ++ v) j = if j < u.length then at0 u j else at0 v (j - u.length):=by
 simp only [at0,List.getD_eq_getElem?_getD]
 split
 ·next h => rw [List.getElem?_append_left h]
 ·next h => rw [List.getElem?_append_right (by omega)]
theorem at0_drop {v:List Int} {c j:Nat}:at0 (v.drop c) j = at0 v (c + j):=by
 simp only [at0,List.getD_eq_getElem?_getD,List.getElem?_drop]
theorem at0_take {v:List Int} {c j:Nat} (h:j < c):at0 (v.take c) j = at0 v j:=by
 simp only [at0,List.getD_eq_getElem?_getD,List.getElem?_take,if_pos h]
theorem gl_getD {F:Nat → List Int} {m i:Nat} (h:i < m):(gl m F).getD i [] = F i:=by simp [gl,List.getD_eq_getElem?_getD,h]
def ur (N i:Nat):List Int:=mkv N fun j => if j = i then 1 else 0
def wd (N:Nat) (A:Mx):Mx:=gl N fun i => A.getD i [] ++ ur N i
section
variable {p:Int} (hp:1 < p) {c N:Nat} {A:Mx} (hA:∀ i,i < N → Row p c (A.getD i []))
 include hA
theorem wd_len:(wd N A).length = N:=by
 have _:=hA
 exact gl_len
theorem wd_left {i j:Nat} (hi:i < N) (hj:j < c):ent (wd N A) i j = ent A i j:=by
 rw [ent,wd,gl_getD hi,at0_app,(hA i hi).1,if_pos hj]
theorem wd_right {i l:Nat} (hi:i < N) (hl:l < N):ent (wd N A) i (c + l) = if l = i then 1 else 0:=by
 rw [ent,wd,gl_getD hi,at0_app,(hA i hi).1,if_neg (by omega),Nat.add_sub_cancel_left,ur,mkv_at hl]
 include hp
theorem wd_row {i:Nat} (hi:i < N):Row p (c + N) ((wd N A).getD i []):=by
 refine ⟨by rw [wd,gl_getD hi,List.length_append,(hA i hi).1,ur,mkv_length],fun j hj => ?_⟩
 rcases Nat.lt_or_ge j c with g | g
 ·have:=(hA i hi).2 j g
  have e:=wd_left hA hi g
  simp only [ent] at e
  rw [e];exact this
 ·have e:=wd_right hA (l:=j - c) hi (by omega)
  rw [show c + (j - c) = j from by omega] at e
  simp only [ent] at e
  rw [e]
  split <;> omega
variable {W:Mx} {pv:Nat → Nat} (hW:Red p (c + N) W pv) (hs:SpEq p (c + N) W (wd N A))
 include hW
theorem cut_at:∃ t,t ≤ W.length ∧ (∀ i,i < t → pv i < c) ∧ ∀ i,t ≤ i → i < W.length → c ≤ pv i:=by
 have _:=hA;have _:=hp
 obtain ⟨t,ht,hmin⟩:=least (p:=fun t => W.length ≤ t ∨ c ≤ pv t) ⟨W.length,.inl (Nat.le_refl _)⟩
 have hlt:∀ i,i < t → i < W.length ∧ pv i < c:=fun i hi => by
  have:=hmin i hi
  exact ⟨Nat.lt_of_not_le fun h => this (.inl h),Nat.lt_of_not_le fun h => this (.inr h)⟩
 refine ⟨t,Nat.le_of_not_lt fun h => ?_,fun i hi => (hlt i hi).2,fun i hi hi2 => ?_⟩
 ·have:=(hlt W.length h).1;omega
 ·rcases ht with h | h
  ·omega
  ·rcases Nat.lt_or_ge t i with g | g
   ·have:=hW.mono t i g hi2;omega
   ·rw [show i = t from by omega];exact h
def nul (c t:Nat) (W:Mx):Mx:=gl (W.length - t) fun i => (W.getD (t + i) []).drop c
 omit hp hA hW in
theorem nul_ent {t i j:Nat} (hi:t + i < W.length):ent (nul c t W) i j = ent W (t + i) (c + j):=by
  rw [ent,nul,gl_getD (by omega),at0_drop]
variable {t:Nat} (ht:t ≤ W.length) (h1:∀ i,i < t → pv i < c) (h2:∀ i,t ≤ i → i < W.length → c ≤ pv i)
 include ht h1 h2
theorem nul_red:Red p N (nul c t W) (fun i => pv (t + i) - c):=by
 have _:=hp;have _:=hA;have _:=h1;have _:=ht
 have hl:(nul c t W).length = W.length - t:=gl_len
 have hpc:∀ i,i < W.length - t → c ≤ pv (t + i):=fun i hi => h2 (t + i) (by omega) (by omega)
 refine ⟨fun i hi => ?_,fun i hi => ?_,fun i hi => ?_,fun i hi j hj => ?_,fun i k hi hk hne => ?_,fun i j hij hj => ?_⟩
 ·rw [hl] at hi
  have hr:=hW.row (t + i) (by omega)
  refine ⟨by rw [nul,gl_getD hi,List.length_drop,hr.1];omega,fun j hj => ?_⟩
  have:=hr.2 (c + j) (by omega)
  rw [nul,gl_getD hi,at0_drop];exact this
 ·rw [hl] at hi
  have:=hW.lt (t + i) (by omega)
  have:=hpc i hi
  omega
 ·rw [hl] at hi
  rw [nul_ent (by omega),show c + (pv (t + i) - c) = pv (t + i) from by have:=hpc i hi;omega]
  exact hW.one _ (by omega)
 ·rw [hl] at hi
  rw [nul_ent (by omega)]
  exact hW.low _ (by omega) _ (by omega)
 ·rw [hl] at hi hk
  rw [nul_ent (by omega),show c + (pv (t + i) - c) = pv (t + i) from by have:=hpc i hi;omega]
  exact hW.off _ _ (by omega) (by omega) (by omega)
 ·rw [hl] at hj
  have:=hW.mono (t + i) (t + j) (by omega) (by omega)
  have:=hpc i (by omega)
  omega
 include hs
end
end Go.Pl

namespace Go.Pl
open Go Go.Ab Go.Wk Go.Pc
theorem isZeroG_impl {v:List Int} (hl:v.length ≤ 1000000):IsB (f_impl_isZero v) (∀ i,i < v.length → at0 v i = 0):=by
 refine all_fn v.length (fun i => at0 v i = 0) rfl (fun i hi _ => ?_) ?_
 ·refine one_chk (o:=some (at0 v i == 0)) (IsB.of_bool (by simp)) (by omega) ?_
  unfold l1_impl_isZero
  rw [lt_t hi,cnd_t,ixO_at hi,bs,bs];rfl
 ·unfold l1_impl_isZero
  rw [lt_f,cnd_f]
end Go.Pl

namespace Go.Pl
open Go Go.Ab Go.Wk Go.Pc
end Go.Pl

namespace Go.Pl
open Go Go.Ab Go.Wk Go.Pc
end Go.Pl

namespace Go.Pl
open Go Go.Ab Go.Wk Go.Pc
structure Nul (p:Int) (c N:Nat) (A W:Mx) (pv:Nat → Nat) (t:Nat):Prop where
 row:∀ i,i < N → Row p c (A.getD i [])
 len:A.length = N
 red:Red p (c + N) W pv
 sp:SpEq p (c + N) W (wd N A)
 le:t ≤ W.length
 lo:∀ i,i < t → pv i < c
 hi:∀ i,t ≤ i → i < W.length → c ≤ pv i
section
variable {p:Int} (hp:Prime p) {c N:Nat} (hcN:c + N ≤ 100000) {A W:Mx} {pv:Nat → Nat} {t:Nat}
 include hp hcN
theorem Nul.get (hr:∀ i,i < N → Row p c (A.getD i [])) (hl:A.length = N):∃ W pv t,Nul p c N A W pv t ∧ f_spec_l02Reduce p (wd N A) = some W ∧ f_impl_reduceRows p (wd N A) = some W:=by
 have h7:=hp.pos
 obtain ⟨W,pv,r1,r2,r3,r4⟩:=reduce_both hp (n:=c + N) hcN (rows:=wd N A) (by rw [wd_len hr];omega) (fun i hi => wd_row (by omega) hr (by rwa [wd_len hr] at hi))
 obtain ⟨t,t1,t2,t3⟩:=cut_at (by omega) hr r3
 exact ⟨W,pv,t,⟨hr,hl,r3,r4,t1,t2,t3⟩,r1,r2⟩
variable (h:Nul p c N A W pv t)
 include h
theorem Nul.nred:Red p N (nul c t W) (fun i => pv (t + i) - c):=by
 have _:=hcN
 have h7:=hp.pos
 exact nul_red (by omega) h.row h.red h.le h.lo h.hi
theorem Nul.full:W.length = N:=by
 have h7:=hp.pos
 have g1:W.length ≤ (wd N A).length:=reduce_len hp (n:=c + N) hcN (by rw [wd_len h.row];omega) (fun i hi => wd_row (by omega) h.row (by rwa [wd_len h.row] at hi)) h.red h.sp
 rw [wd_len h.row] at g1
 have hl:(gl W.length fun i => (W.getD i []).drop c).length = W.length:=gl_len
 have hR:∀ i,i < W.length → Row p N ((gl W.length fun i => (W.getD i []).drop c).getD i []):=fun i hi => by
  have hr:=h.red.row i hi
  rw [gl_getD hi]
  refine ⟨by rw [List.length_drop,hr.1];omega,fun j hj => ?_⟩
  rw [at0_drop];exact hr.2 (c + j) (by omega)
 obtain ⟨R3,pv3,_,_,g3,g4⟩:=reduce_both hp (n:=N) (by omega) (rows:=gl W.length fun i => (W.getD i []).drop c) (by omega) (by rw [hl];exact hR)
 have g5:=reduce_len hp (n:=N) (by omega) (by omega) (by rw [hl];exact hR) g3 g4
 have hul:(gl N (ur N)).length = N:=gl_len
 have hent:∀ i j,i < N → j < N → ent (gl N (ur N)) i j = if j = i then 1 else 0:=fun i j hi hj => by rw [ent,gl_getD hi,ur,mkv_at hj]
 have hid:Red p N (gl N (ur N)) (fun i => i):=by
  refine ⟨fun i hi => ?_,fun i hi => by omega,fun i hi => ?_,fun i hi j hj => ?_,fun i k hi hk hne => ?_,fun i j hij hj => hij⟩
  ·rw [hul] at hi
   rw [gl_getD hi]
   refine ⟨mkv_length _ _,fun j hj => ?_⟩
   rw [ur,mkv_at hj]
   split <;> omega
  ·rw [hul] at hi
   rw [hent i i hi hi,if_pos rfl]
  ·rw [hul] at hi
   rw [hent i j hi (by omega),if_neg (by omega)]
  ·rw [hul] at hi hk
   rw [hent k i hk hi,if_neg (Ne.symm hne)]
 have g6:=hid.le_of (by omega) g3 (fun i hi => by
  rw [hul] at hi
  refine g4.iff.2 ?_
  obtain ⟨cf,hcf⟩:=h.sp.2 i (by rw [wd_len h.row];exact hi)
  refine ⟨cf,fun j hj => ?_⟩
  have h1:=hcf (c + j) (by omega)
  have h2:=wd_right h.row hi hj
  simp only [ent] at h2
  rw [h2] at h1
  have h3:=hent i j hi hj
  simp only [ent] at h3
  rw [h3,hl,← h1]
  exact congrArg (· % p) (S_congr fun k hk => by rw [ent,gl_getD hk,at0_drop]))
 omega
 omit h in
theorem unitG_spec {N:Nat} (hN:N ≤ 100000):f_spec_l02Unit (N:Int) = some (gl N (ur N)):=by
  have _:=hp;have _:=hcN
  unfold f_spec_l02Unit
  rw [map_loop (body:=l1_spec_l02Unit (N:Int)) N (ur N) (fun i acc hi ha => by
    unfold l1_spec_l02Unit
    simp only
    rw [lt_t hi,cnd_t,lenOk_nat (by omega),bs,ixO_nat,List.getElem?_replicate,if_pos hi,bs,Int.toNat_natCast,mkv_zero,mkv_set,appO_of (by simp;omega),bs,rng_of (by omega) (by omega),bs,cs];rfl) (fun acc => by
    unfold l1_spec_l02Unit
    simp only
    rw [lt_f,cnd_f]),bs]
 omit h in
theorem wide_spec (hr:∀ i,i < N → Row p c (A.getD i [])) (hl:A.length = N):f_spec_l02Wide p A = f_spec_l02Reduce p (wd N A):=by
  unfold f_spec_l02Wide
  rw [hl,unitG_spec hp hcN (by omega),bs,map_loop (body:=l1_spec_l02Wide A (gl N (ur N))) N (fun i => A.getD i [] ++ ur N i) (fun i acc hi ha => by
    unfold l1_spec_l02Wide
    simp only
    rw [hl,lt_t hi,cnd_t,ixO_d [] (by omega),bs,own_spec (by rw [(hr i hi).1];omega),bs,gl_ix hi,bs,appO_of (by rw [(hr i hi).1,ur,mkv_length];omega),bs,appO_of (by simp;omega),bs,rng_of (by omega) (by omega),bs,cs]) (fun acc => by
    unfold l1_spec_l02Wide
    simp only
    rw [hl,lt_f,cnd_f]),bs]
  show (f_spec_l02Reduce p (wd N A)).bind _ = _
  cases f_spec_l02Reduce p (wd N A) <;> rfl
theorem null_loop:loopO (l1_spec_l02Null (c:Int) W) ([],0) = some (nul c t W):=by
 have hf:=h.full hp hcN
 have hle:=h.le
 have:=loopO_seq (body:=l1_spec_l02Null (c:Int) W) (r:=nul c t W) (fun i => (gl (i - t) (fun k => (W.getD (t + k) []).drop c),(i:Int))) W.length (fun i hi => by
  have hr:=h.red.row i hi
  have h1:=h.red.one i hi
  have hlt:=h.red.lt i hi
  have hlead:=lead_is (n:=c + N) hr.1 (by omega) hlt (h.red.low i hi) (by simp only [ent] at h1;omega)
  unfold l1_spec_l02Null
  simp only
  rw [lt_t hi,cnd_t,ixO_d [] hi,bs,hlead,bs]
  rcases Nat.lt_or_ge i t with g | g
  ·have:=h.lo i g
   rw [decide_eq_false (by omega),cnd_f,rng_of (by omega) (by omega),bs,cs,show i - t = 0 from by omega,show i + 1 - t = 0 from by omega]
  ·have:=h.hi i g hi
   have e:sliceO (W.getD i []) (c:Int) ((W.getD i []).length:Int) = some ((W.getD i []).drop c):=by
    unfold sliceO
    rw [if_pos ⟨by omega,by rw [hr.1];omega,by omega⟩,Int.toNat_natCast,Int.toNat_natCast,List.take_of_length_le (by rw [List.length_drop];omega)]
   rw [decide_eq_true (by omega),cnd_t,bs,e,bs,own_spec (by rw [List.length_drop,hr.1];omega),bs,appO_of (by rw [gl_len];simp;omega),bs,rng_of (by omega) (by omega),bs,cs,show i + 1 - t = (i - t) + 1 from by omega,← gl_snoc,show t + (i - t) = i from by omega]) (by
  unfold l1_spec_l02Null
  simp only
  rw [lt_f,cnd_f];rfl)
 rw [show 0 - t = 0 from by omega] at this
 exact this
end
end Go.Pl

namespace Go.Pl
open Go Go.Ab Go.Wk Go.Pc
end Go.Pl

namespace Go.Pl
open Go Go.Ab Go.Wk Go.Pc
end Go.Pl

namespace Go.Pl
open Go Go.Ab Go.Wk Go.Pc
end Go.Pl

namespace Go.Pl
open Go Go.Ab Go.Wk Go.Pc
theorem withIdentity_impl {p:Int} {c N:Nat} (hcN:c + N ≤ 100000) {A:Mx} (hr:∀ i,i < N → Row p c (A.getD i [])) (hl:A.length = N):f_impl_withIdentity A = some (wd N A):=by
 unfold f_impl_withIdentity
 rw [map_loop (body:=l1_impl_withIdentity A) N (fun i => A.getD i [] ++ ur N i) (fun i acc hi ha => by
  have h1:=(hr i hi).1
  have e:splice (List.replicate (c + N) (0:Int)) 0 ((A.getD i []).take (((List.replicate (c + N) (0:Int)).length) - 0)) = A.getD i [] ++ List.replicate N 0:=by
   unfold splice
   rw [List.length_replicate,List.take_of_length_le (l:=A.getD i []) (by omega),List.take_zero,List.nil_append,h1,List.drop_replicate]
   congr 2;omega
  have e2:ixO (A.getD i [] ++ List.replicate N (0:Int)) ((c + i:Nat):Int) = some 0:=by
   rw [ixO_nat,List.getElem?_append_right (by omega),h1,List.getElem?_replicate,if_pos (by omega)]
  unfold l1_impl_withIdentity
  simp only
  rw [hl,lt_t hi,cnd_t,ixO_d [] (by omega),bs,h1,← Int.natCast_add,rng_of (by omega) (by omega),bs,lenOk_nat (by omega),bs,← Int.natCast_add,rng_of (by omega) (by omega),bs,e,e2,bs,Int.toNat_natCast,List.set_append_right _ _ (by omega),h1,Nat.add_sub_cancel_left,mkv_zero,mkv_set,appO_of (by simp;omega),bs,rng_of (by omega) (by omega),bs,cs]
  rfl) (fun acc => by
  unfold l1_impl_withIdentity
  simp only
  rw [hl,lt_f,cnd_f]),bs]
 rfl
end Go.Pl

namespace Go.Pl
open Go Go.Ab Go.Wk Go.Pc
theorem reduce_same {p:Int} (hp:Prime p) {n:Nat} (hn:n ≤ 100000) {R:Mx} {pv:Nat → Nat} (h:Red p n R pv):f_spec_l02Reduce p R = some R ∧ f_impl_reduceRows p R = some R:=by
 have h7:=hp.pos
 have hl:R.length ≤ n:=h.len_le
 obtain ⟨R2,pv2,r1,r2,r3,r4⟩:=reduce_both hp hn (rows:=R) (by omega) h.row
 have e:=r3.unique (by omega) h r4
 rw [e] at r1 r2
 exact ⟨r1,r2⟩
section
variable {p:Int} (hp:Prime p) {c N:Nat} (hcN:c + N ≤ 100000) {A W:Mx} {pv:Nat → Nat} {t:Nat}
 include hp hcN
theorem kernel_loop (h:Nul p c N A W pv t):loopO (l1_impl_leftKernelRows (c:Int) W) ([],0) = some (nul c t W):=by
 have h7:=hp.pos
 have hf:=h.full hp hcN
 have hle:=h.le
 have:=loopO_seq (body:=l1_impl_leftKernelRows (c:Int) W) (r:=nul c t W) (fun i => (gl (i - t) (fun k => (W.getD (t + k) []).drop c),(i:Int))) W.length (fun i hi => by
  have hr:=h.red.row i hi
  have h1:=h.red.one i hi
  have e0:sliceO (W.getD i []) 0 (c:Int) = some ((W.getD i []).take c):=by
   unfold sliceO
   rw [if_pos ⟨by omega,by omega,by rw [hr.1];omega⟩,Int.toNat_natCast,show (0:Int).toNat = 0 from rfl,List.drop_zero,Nat.sub_zero]
  have htl:((W.getD i []).take c).length = c:=by rw [List.length_take,hr.1];omega
  have hz:=isZeroG_impl (v:=(W.getD i []).take c) (by omega)
  unfold l1_impl_leftKernelRows
  simp only
  rw [lt_t hi,cnd_t,ixO_d [] hi,bs,e0,bs]
  rcases Nat.lt_or_ge i t with g | g
  ·have hlo:=h.lo i g
   rcases hz with ⟨_,z⟩ | ⟨z,_⟩
   ·have:=z (pv i) (by omega)
    rw [at0_take hlo] at this
    simp only [ent] at h1
    omega
   ·rw [z,bs,cnd_f,rng_of (by omega) (by omega),bs,cs,show i - t = 0 from by omega,show i + 1 - t = 0 from by omega]
  ·have hhi:=h.hi i g hi
   have e:sliceO (W.getD i []) (c:Int) ((W.getD i []).length:Int) = some ((W.getD i []).drop c):=by
    unfold sliceO
    rw [if_pos ⟨by omega,by rw [hr.1];omega,by omega⟩,Int.toNat_natCast,Int.toNat_natCast,List.take_of_length_le (by rw [List.length_drop];omega)]
   rcases hz with ⟨z,_⟩ | ⟨_,z⟩
   ·rw [z,bs,cnd_t,e,bs,appO_of (by rw [gl_len];simp;omega),bs,rng_of (by omega) (by omega),bs,cs,show i + 1 - t = (i - t) + 1 from by omega,← gl_snoc,show t + (i - t) = i from by omega]
   ·refine absurd (fun j hj => ?_) z
    rw [htl] at hj
    rw [at0_take hj]
    have:=h.red.low i hi j (by omega)
    simpa only [ent] using this) (by
  unfold l1_impl_leftKernelRows
  simp only
  rw [lt_f,cnd_f];rfl)
 rw [show 0 - t = 0 from by omega] at this
 exact this
end
end Go.Pl

namespace Go.Pl
open Go Go.Ab Go.Wk Go.Pc
end Go.Pl

namespace Go.Pl
open Go Go.Ab Go.Wk Go.Pc
theorem cl_same {p:Int} {n:Nat} {R R':Mx} {pv:Nat → Nat} {v:List Int}:∀ i,(∀ k,k < i → R.getD k [] = R'.getD k []) → cl p n R pv v i = cl p n R' pv v i
 | 0,_ => rfl
 | i + 1,h => by
  rw [cl,cl,cl_same i fun k hk => h k (by omega),h i (by omega)]
theorem Red.sub {p:Int} {n:Nat} {R:Mx} {pv:Nat → Nat} (h:Red p n R pv) {t:Nat} (ht:t ≤ R.length):Red p n (gl t fun i => R.getD i []) pv:=by
 have hl:(gl t fun i => R.getD i []).length = t:=gl_len
 have he:∀ i j,i < t → ent (gl t fun i => R.getD i []) i j = ent R i j:=fun i j hi => by rw [ent,gl_getD hi]
 refine ⟨fun i hi => ?_,fun i hi => h.lt i (by omega),fun i hi => ?_,fun i hi j hj => ?_,fun i k hi hk hne => ?_,fun i j hij hj => h.mono i j hij (by omega)⟩
 ·rw [hl] at hi
  rw [gl_getD hi];exact h.row i (by omega)
 ·rw [hl] at hi
  rw [he _ _ hi];exact h.one i (by omega)
 ·rw [hl] at hi
  rw [he _ _ hi];exact h.low i (by omega) j hj
 ·rw [hl] at hi hk
  rw [he _ _ hk];exact h.off i k (by omega) (by omega) hne
end Go.Pl

namespace Go.Pl
open Go Go.Ab Go.Wk Go.Pc
end Go.Pl

namespace Go.Pl
open Go Go.Ab Go.Wk Go.Pc
theorem dercode_both {x:SPresentation} {m:SModule} {vals:Mx} (hx:SPres x) (hm:SMod m) (hvs:S2 vals) :
  (f_spec_l22Code x m vals = some 0 ∧ f_impl_derivationCode x m vals = some 0 ∧ ∃ D,Consistent x ∧ MOk x.Orders.length m D ∧ RelM x m D ∧ VOk x.Orders.length m.Prime D vals ∧ RelD x m D vals) ∨
  ∃ k,k ≠ 0 ∧ f_spec_l22Code x m vals = some k ∧ f_impl_derivationCode x m vals = some k:=by
 have hl:x.Orders.length ≤ 1048576:=hx.1
 have hml:=S3.len hm
 have hvl:=S2.len hvs
 unfold f_spec_l22Code f_impl_derivationCode
 rcases (IsModule_spec (m:=m) hl).both (isModule_impl (m:=m) hl hml) with ⟨s1,i1,hM⟩ | ⟨s1,i1,hM⟩
 ·obtain ⟨hc,D,hD,hR⟩:=hM
  have d3:=hD.d3
  simp only [s1,i1,bs,Bool.not_true,cnd_f]
  rcases (values_spec (x:=x) hD.p hD.d (by omega) hvl).both (values_impl (x:=x) hD.p hD.d (by omega) hvl) with ⟨v1,w1,hV⟩ | ⟨v1,w1,hV⟩
  ·simp only [v1,w1,bs,Bool.not_true,cnd_f]
   rcases (dis_spec hc.1 hD hV).both (dcode_impl hc.1 hD hV) with ⟨t1,u1,hRD⟩ | ⟨t1,u1,hRD⟩
   all_goals
    rw [defects_impl hc.1 hD hV,bs] at u1
    cases hcc:f_slices_Concat_int64_int64 ((relsN x).map (dfc m D vals)) with
    | none => rw [hcc] at u1;cases u1
    | some fl => ?_
    rw [hcc,bs] at u1
   ·simp only [t1,defects_impl hc.1 hD hV,hcc,bs,u1,Bool.not_true,cnd_f]
    exact .inl ⟨trivial,trivial,D,hc,hD,hR,hV,hRD⟩
   ·simp only [t1,defects_impl hc.1 hD hV,hcc,bs,u1,Bool.not_false,cnd_t]
    exact .inr ⟨5,by decide,rfl,rfl⟩
  ·simp only [v1,w1,bs,Bool.not_false,cnd_t]
   exact .inr ⟨1,by decide,rfl,rfl⟩
 ·simp only [s1,i1,bs,Bool.not_false,cnd_t]
  exact .inr ⟨1,by decide,rfl,rfl⟩
theorem vals_flat {n D:Nat} {p:Int} {vals:Mx} (hV:VOk n p D vals):Row p (n * D) vals.flatten:=by
 have h:=flat_row (p:=p) (D:=D) (xs:=vals) fun r hr => by
  obtain ⟨i,hi,rfl⟩:=List.mem_iff_getElem.1 hr
  have:=hV.2 i (by rw [← hV.1];exact hi)
  rwa [List.getD_eq_getElem?_getD,List.getElem?_eq_getElem hi] at this
 rw [hV.1] at h;exact h
theorem index_v1 {v:List Int} {k:Nat} (hl:v.length ≤ 1000000) (hk:k < v.length) (h0:∀ j,j < k → at0 v j = 0) (h1:at0 v k ≠ 0):f_slices_IndexFunc_int64_int64_v1 v = some (k:Int):=by
 unfold f_slices_IndexFunc_int64_int64_v1
 have:=loopO_seq (body:=l1_slices_IndexFunc_int64_int64_v1 v) (r:=.inr (k:Int)) (fun i => (i:Int)) k (fun i hi => by
  unfold l1_slices_IndexFunc_int64_int64_v1 f_impl_solveRows_1
  rw [lt_t (by omega),cnd_t,ixO_at (by omega),bs,bs,h0 i hi,bne_self_eq_false,cnd_f,rng_of (by omega) (by omega),bs,cs]) (by
  unfold l1_slices_IndexFunc_int64_int64_v1 f_impl_solveRows_1
  rw [lt_t hk,cnd_t,ixO_at hk,bs,bs,bne_t h1,cnd_t])
 have e:loopO (l1_slices_IndexFunc_int64_int64_v1 v) 0 = some (.inr (k:Int)):=this
 rw [e,bs]
theorem zeros_app {b:List Int} {N:Nat} (h:b.length + N ≤ 1000000):appzO b (N:Int) (0:Int) = some (b ++ List.replicate N 0):=by
 unfold appzO
 rw [if_pos ⟨by omega,by rw [Int.toNat_natCast];omega⟩,Int.toNat_natCast]
section
variable {p:Int} (hp:Prime p) {c N:Nat} (hcN:c + N ≤ 100000) {A W:Mx} {pv:Nat → Nat} {t:Nat} (h:Nul p c N A W pv t)
 include hp hcN h
def sy (p:Int) (c N:Nat) (W:Mx) (pv:Nat → Nat) (b:List Int) (t:Nat):List Int:=cl p (c + N) W pv (b ++ List.replicate N 0) t
def sx (p:Int) (c N:Nat) (W:Mx) (pv:Nat → Nat) (b:List Int) (t:Nat):List Int:=mkv N fun j => (0 - at0 (sy p c N W pv b t) (c + j)) % p
theorem rhs_row {b:List Int} (hb:Row p c b):Row p (c + N) (b ++ List.replicate N 0):=by
 have _:=hcN;have _:=h
 have h7:=hp.pos
 refine ⟨by rw [List.length_append,hb.1,List.length_replicate],fun j hj => ?_⟩
 rw [at0_app,hb.1]
 split
 ·next g => exact hb.2 j g
 ·next g =>
  have:at0 (List.replicate N (0:Int)) (j - c) = 0:=by simp [at0,List.getD_eq_getElem?_getD,show j - c < N by omega]
  rw [this];omega
theorem sy_row {b:List Int} (hb:Row p c b) (t:Nat):Row p (c + N) (sy p c N W pv b t):=cl_row hp hcN h.red (rhs_row hp hcN h hb) t
theorem sx_row {b:List Int}:Row p N (sx p c N W pv b t):=by
 have _:=hcN;have _:=h
 have h7:=hp.pos
 refine ⟨mkv_length _ _,fun j hj => ?_⟩
 rw [sx,mkv_at hj]
 have e1:=Int.emod_nonneg (0 - at0 (sy p c N W pv b t) (c + j)) (show p ≠ 0 by omega)
 have e2:=Int.emod_lt_of_pos (0 - at0 (sy p c N W pv b t) (c + j)) (show 0 < p by omega)
 omega
theorem take_slice {y:List Int} (hy:y.length = c + N):sliceO y 0 (c:Int) = some (y.take c):=by
 have _:=hp;have _:=hcN;have _:=h
 unfold sliceO
 rw [if_pos ⟨by omega,by omega,by omega⟩,Int.toNat_natCast,show (0:Int).toNat = 0 from rfl,List.drop_zero,Nat.sub_zero]
theorem drop_slice {y:List Int} (hy:y.length = c + N):sliceO y (c:Int) ((c + N:Nat):Int) = some (y.drop c):=by
 have _:=hp;have _:=hcN;have _:=h
 unfold sliceO
 rw [if_pos ⟨by omega,by omega,by omega⟩,Int.toNat_natCast,Int.toNat_natCast,List.take_of_length_le (by rw [List.length_drop];omega)]
theorem left_loop:loopO (l1_spec_l02Solve (c:Int) W) ([],0) = some (gl t fun i => W.getD i []):=by
 have hf:=h.full hp hcN
 have hle:=h.le
 have:=loopO_seq (body:=l1_spec_l02Solve (c:Int) W) (r:=gl t fun i => W.getD i []) (fun i => (gl (min i t) (fun i => W.getD i []),(i:Int))) W.length (fun i hi => by
  have hr:=h.red.row i hi
  have h1:=h.red.one i hi
  have hlt:=h.red.lt i hi
  have hlead:=lead_is (n:=c + N) hr.1 (by omega) hlt (h.red.low i hi) (by simp only [ent] at h1;omega)
  unfold l1_spec_l02Solve
  simp only
  rw [lt_t hi,cnd_t,ixO_d [] hi,bs,hlead,bs]
  rcases Nat.lt_or_ge i t with g | g
  ·have:=h.lo i g
   rw [decide_eq_true (by omega),cnd_t,bs,appO_of (by rw [gl_len];simp;omega),bs,rng_of (by omega) (by omega),bs,cs,Nat.min_eq_left (by omega),Nat.min_eq_left (by omega:i + 1 ≤ t),gl_snoc]
  ·have:=h.hi i g hi
   rw [decide_eq_false (by omega),cnd_f,rng_of (by omega) (by omega),bs,cs,Nat.min_eq_right g,Nat.min_eq_right (by omega:t ≤ i + 1)]) (by
  unfold l1_spec_l02Solve
  simp only
  rw [lt_f,cnd_f,Nat.min_eq_right hle])
 rw [Nat.zero_min] at this
 exact this
theorem sclear_loop {b:List Int} (hb:Row p c b):loopO (l1_impl_solveRows (SMatrix.mk p (c:Int) A) W) (b ++ List.replicate N 0,0) = some (sy p c N W pv b t):=by
 have h7:=hp.pos
 have hf:=h.full hp hcN
 have hle:=h.le
 have hv:=rhs_row hp hcN h hb
 have:=loopO_seq (body:=l1_impl_solveRows (SMatrix.mk p (c:Int) A) W) (r:=sy p c N W pv b t) (fun i => (sy p c N W pv b (min i t),(i:Int))) W.length (fun i hi => by
  have hr:=h.red.row i hi
  have h1:=h.red.one i hi
  have hlt:=h.red.lt i hi
  have hix:=index_v1 (v:=W.getD i []) (k:=pv i) (by rw [hr.1];omega) (by rw [hr.1];exact hlt) (h.red.low i hi) (by simp only [ent] at h1;omega)
  unfold l1_impl_solveRows
  simp only
  rw [lt_t hi,cnd_t,ixO_d [] hi,bs,hix,bs]
  rcases Nat.lt_or_ge i t with g | g
  ·have:=h.lo i g
   have hy:=sy_row hp hcN h hb i
   have ha:=hy.2 (pv i) hlt
   rw [decide_eq_true (by omega),cnd_t,Nat.min_eq_left (by omega),ixO_at (by rw [hy.1];exact hlt),bs,rng_of (by omega) (by omega),bs,addM_impl hp hy hr (by omega) (by omega),bs,rng_of (by omega) (by omega),bs,cs,Nat.min_eq_left (by omega:i + 1 ≤ t)]
   rw [sy,cl_neg hp hcN h.red hv hi]
   rfl
  ·have:=h.hi i g hi
   rw [decide_eq_false (by omega),cnd_f,rng_of (by omega) (by omega),bs,cs,Nat.min_eq_right g,Nat.min_eq_right (by omega:t ≤ i + 1)]) (by
  unfold l1_impl_solveRows
  simp only
  rw [lt_f,cnd_f,Nat.min_eq_right hle])
 rw [Nat.zero_min] at this
 exact this
def ng (p:Int) (c N:Nat) (y:List Int) (i:Nat):List Int:=mkv (c + N) fun j => if c ≤ j ∧ j < c + i then (0 - at0 y j) % p else at0 y j
theorem neg_loop {y:List Int} (hy:Row p (c + N) y):loopO (l2_impl_solveRows (SMatrix.mk p (c:Int) A) y) (y,0) = some (ng p c N y N):=by
 have h7:=hp.pos
 have hyl:=hy.1
 have:=loopO_seq (body:=l2_impl_solveRows (SMatrix.mk p (c:Int) A) y) (r:=ng p c N y N) (fun i => (ng p c N y i,(i:Int))) N (fun i hi => by
  have hl:(ng p c N y i).length = c + N:=mkv_length _ _
  have hdl:((ng p c N y i).drop c).length = N:=by rw [List.length_drop,hl];omega
  have he:at0 ((ng p c N y i).drop c) i = at0 y (c + i):=by rw [at0_drop,ng,mkv_at (by omega),if_neg (by omega)]
  have hb:=hy.2 (c + i) (by omega)
  unfold l2_impl_solveRows
  simp only
  rw [Int.toNat_natCast,Int.toNat_natCast,hyl,Nat.add_sub_cancel_left,lt_t hi,cnd_t,drop_slice hp hcN h hl,bs,ixO_at (by omega),bs,he,rng_of (by omega) (by omega),bs,residue_gen hp (by omega) (by omega),bs,bs,ixO_at (by omega),bs,rng_of (by omega) (by omega),bs,cs,← Int.natCast_add,Int.toNat_natCast]
  congr 3
  rw [ng,mkv_set]
  refine mkv_congr fun j hj => ?_
  by_cases e:j = c + i
  ·subst e;rw [if_pos rfl,if_pos ⟨by omega,by omega⟩]
  ·rw [if_neg e]
   by_cases e2:c ≤ j ∧ j < c + i
   ·rw [if_pos e2,if_pos ⟨e2.1,by omega⟩]
   ·rw [if_neg e2,if_neg (by omega)]) (by
  unfold l2_impl_solveRows
  simp only
  rw [Int.toNat_natCast,Int.toNat_natCast,hyl,Nat.add_sub_cancel_left,lt_f,cnd_f])
 have e:ng p c N y 0 = y:=by
  conv => rhs;rw [mkv_eq hyl]
  exact mkv_congr fun j _ => if_neg (by omega)
 rw [e] at this
 exact this
theorem neg_drop {b:List Int}:(ng p c N (sy p c N W pv b t) N).drop c = sx p c N W pv b t:=by
 have _:=hp;have _:=hcN;have _:=h
 have hl:((ng p c N (sy p c N W pv b t) N).drop c).length = N:=by rw [List.length_drop,ng,mkv_length];omega
 rw [mkv_eq hl]
 refine mkv_congr fun j hj => ?_
 rw [at0_drop,ng,mkv_at (by omega),if_pos ⟨by omega,by omega⟩]
theorem scale_same {b:List Int}:(mkv N fun j => (at0 ((sy p c N W pv b t).drop c) j * (p - 1)) % p) = sx p c N W pv b t:=by
 have _:=hp;have _:=hcN;have _:=h
 refine mkv_congr fun j hj => ?_
 rw [at0_drop]
 generalize at0 (sy p c N W pv b t) (c + j) = a
 have e:a * (p - 1) = (0 - a) + p * a:=by rw [Int.mul_sub,Int.mul_comm a p];omega
 rw [e,Int.add_mul_emod_self_left]
theorem solve_spec (h2:f_spec_l02Reduce p (wd N A) = some W) {b:List Int} (hb:Row p c b):f_spec_l02Solve p A (c:Int) b = (f_spec_l01Zero ((sy p c N W pv b t).take c)).bind fun r13 => cond (!r13) (some ([],false)) (some (cl p N (nul c t W) (fun i => pv (t + i) - c) (sx p c N W pv b t) (nul c t W).length,true)):=by
 have h7:=hp.pos
 have hr:=h.row
 have hl:=h.len
 have hf:=h.full hp hcN
 have hle:=h.le
 have hy:=sy_row hp hcN h hb t
 have hK:=h.nred hp hcN
 have hKl:(nul c t W).length ≤ N:=hK.len_le
 have hx:=sx_row hp hcN h (b:=b)
 have hleft:cl p (c + N) (gl t fun i => W.getD i []) pv (b ++ List.replicate N 0) (gl t fun i => W.getD i []).length = sy p c N W pv b t:=by
  rw [gl_len,sy]
  exact cl_same t fun k hk => gl_getD hk
 have hnull:f_spec_l02Null p A (c:Int) = some (nul c t W):=by
  unfold f_spec_l02Null
  rw [wide_spec hp hcN hr hl,h2,bs,null_loop hp hcN h,bs]
 have hdl:Row p N ((sy p c N W pv b t).drop c):=by
  refine ⟨by rw [List.length_drop,hy.1];omega,fun j hj => ?_⟩
  rw [at0_drop];exact hy.2 _ (by omega)
 have hgl:(gl t fun i => W.getD i []).length = t:=gl_len
 unfold f_spec_l02Solve
 rw [wide_spec hp hcN hr hl,h2,bs,own_spec (by rw [hb.1];omega),bs,hl,zeros_app (by rw [hb.1];omega),bs,left_loop hp hcN h,bs,clear_spec hp hcN (h.red.sub hle) (rhs_row hp hcN h hb) (by omega),bs,hleft,take_slice hp hcN h hy.1,bs,rng_of (by omega) (by omega),bs,hy.1,drop_slice hp hcN h hy.1,bs,scale_spec hp (by omega) hdl (by omega) (by omega),bs,hnull,bs,scale_same hp hcN h,clear_spec hp (by omega) hK hx (by omega),bs]
 omit h in
theorem solve_both (hr:∀ i,i < N → Row p c (A.getD i [])) (hl:A.length = N) {b:List Int} (hb:Row p c b):∃ r ok,f_spec_l02Solve p A (c:Int) b = some (r,ok) ∧ f_impl_solveRows (SMatrix.mk p (c:Int) A) b = some (r,ok) ∧ r.length ≤ N:=by
  have h7:=hp.pos
  obtain ⟨W,pv,t,h,h2,h3⟩:=Nul.get hp hcN hr hl
  have hf:=h.full hp hcN
  have hle:=h.le
  have hy:=sy_row hp hcN h hb t
  have hK:=h.nred hp hcN
  have hKl:(nul c t W).length ≤ N:=hK.len_le
  have hx:=sx_row hp hcN h (b:=b)
  have hcl:=cl_row hp (by omega) hK hx (nul c t W).length
  have hker:f_impl_leftKernelRows p A (c:Int) = some (nul c t W):=by
    unfold f_impl_leftKernelRows
    rw [withIdentity_impl hcN hr hl,bs,h3,bs,kernel_loop hp hcN h,bs,(reduce_same hp (by omega) hK).2,bs]
  have htl:((sy p c N W pv b t).take c).length = c:=by rw [List.length_take,hy.1];omega
  have es:=solve_spec hp hcN h h2 hb
  have ei:f_impl_solveRows (SMatrix.mk p (c:Int) A) b = (f_impl_isZero ((sy p c N W pv b t).take c)).bind fun r13 => cond (!r13) (some ([],false)) (some (cl p N (nul c t W) (fun i => pv (t + i) - c) (sx p c N W pv b t) (nul c t W).length,true)):=by
    unfold f_impl_solveRows f_impl_leftKernel
    simp only
    rw [clone_impl (by rw [hb.1];omega),bs,hl,zeros_app (by rw [hb.1];omega),bs,withIdentity_impl hcN hr hl,bs,h3,bs,sclear_loop hp hcN h hb,bs,take_slice hp hcN h hy.1,bs,hy.1,drop_slice hp hcN h hy.1,bs,neg_loop hp hcN h hy,bs,hker,bs,bs,drop_slice hp hcN h (y:=ng p c N (sy p c N W pv b t) N) (mkv_length _ _),bs,neg_drop hp hcN h,remainder_impl hp (by omega) hK hx (by omega),bs]
  rw [es,ei]
  rcases (zero_spec (v:=(sy p c N W pv b t).take c) (by omega)).both (isZeroG_impl (by omega)) with ⟨z1,z2,_⟩ | ⟨z1,z2,_⟩
  · rw [z1,z2,bs,Bool.not_true,cnd_f]
    exact ⟨_,_,rfl,rfl,by rw [hcl.1];omega⟩
  · rw [z1,z2,bs,Bool.not_false,cnd_t]
    exact ⟨_,_,rfl,rfl,by simp⟩
end
theorem InnerVector_agree {x:SPresentation} {m:SModule} {vals:Mx} (hx:SPres x) (hm:SMod m) (hvs:S2 vals):∃ g k,f_spec_InnerVector x m vals = some (g,k) ∧ f_impl_InnerVector x m vals = some (g,k) ∧ S1 g:=by
 have hnil:S1 ([]:List Int):=by simp [S1,c1]
 have e0:((0:Int) != 0) = false:=rfl
 unfold f_spec_InnerVector f_impl_InnerVector
 rcases dercode_both hx hm hvs with ⟨k1,k2,D,hc,hD,_,hV,_⟩ | ⟨k,k0,k1,k2⟩
 ·have h6:=hc.1.os.1
  have h3:=hD.d3
  have h1:=hD.d1
  have hnd:x.Orders.length * D ≤ 6 * 3:=Nat.mul_le_mul h6 h3
  have hv:=vals_flat hV
  have hil:(innR m x.Orders.length D).length = D:=by simp [innR]
  obtain ⟨r,ok,q1,q2,q3⟩:=solve_both hD.p (c:=x.Orders.length * D) (N:=D) (by omega) (A:=innR m x.Orders.length D) (fun i hi => innR_row hD h6 (by omega)) hil hv
  have h0:=innR_row hD h6 (i:=0) (by omega)
  simp only [k1,k2,bs,e0,cnd_f,units_spec hD h6,innerRows_impl hD h6 rfl]
  unfold f_impl_wide
  rw [hD.d,← Int.natCast_mul,rng_of (by omega) (by omega),bs,flat_spec (by rw [hV.1];omega) (by rw [hv.1];omega),bs,q1,bs,show ixO (innR m x.Orders.length D) 0 = some ((innR m x.Orders.length D).getD 0 []) from ixO_d (i:=0) [] (by omega),bs,bs,concat_impl (by rw [hV.1];omega) (by rw [hv.1];omega),bs,h0.1,q2,bs]
  cases ok
  ·simp only [Bool.not_false,cnd_t]
   exact ⟨_,_,rfl,rfl,hnil⟩
  ·simp only [Bool.not_true,cnd_f]
   exact ⟨_,_,rfl,rfl,by simp only [S1,c1];omega⟩
 ·have ek:(k != 0) = true:=by simpa using k0
  simp only [k1,k2,bs,ek,cnd_t]
  exact ⟨_,_,rfl,rfl,hnil⟩
theorem law_InnerVector (x0:SPresentation) (x1:SModule) (x2:Mx) (v0:VPres x0) (v1:VMod x1) (v2:VL (VL VI) x2)
  (h:SPres x0 → SMod x1 → S2 x2 → ∃ g k,f_spec_InnerVector x0 x1 x2 = some (g,k) ∧ f_impl_InnerVector x0 x1 x2 = some (g,k) ∧ S1 g):f_laws_FnExactInnerVector x0 x1 x2 = some true:=by
 unfold f_laws_FnExactInnerVector
 rw [szPresentation v0 (by decide) (by decide),bs]
 rcases sz_case (c:=cPres x0) (b:=1048576) (by decide) (by decide) with e | ⟨e,a0,b0,w0⟩ <;> rw [e]
 ·rfl
 rw [cnd_f,szModule v1 a0 b0,bs]
 rcases sz_case (c:=cMod x1) a0 b0 with e | ⟨e,a1,b1,w1⟩ <;> rw [e]
 ·rfl
 rw [cnd_f,szInt64SS v2 a1 b1,bs]
 rcases sz_case (c:=c2 x2) a1 b1 with e | ⟨e,a2,b2,w2⟩ <;> rw [e]
 ·rfl
 have s0:SPres x0:=SPres.of w0
 have s1:SMod x1:=SMod.of w1
 have s2:S2 x2:=w2
 obtain ⟨g,k,hs,hi,sg⟩:=h s0 s1 s2
 have t0:=totP_le s0
 have q1:=sm3_le (x:=x1.Actions)
 have w1':=w1
 simp only [cMod] at w1'
 have q2:=sm2_le (x:=x2)
 have sg':=sg
 simp only [S1] at sg'
 rw [cnd_f,toPresentation s0,bs,toModule s1,bs,toInt64SS s2,bs]
 simp only [bs]
 rw [hs,bs,hi,bs]
 simp only
 rw [eqInt64S sg,bs]
 simp only [beq_self_eq_true,Bool.not_true,cnd_f,bne_self_eq_false]
 rw [eqPresentation s0,bs,Bool.not_true,cnd_f,eqModule s1,bs,Bool.not_true,cnd_f,eqInt64SS s2,bs,beq_self_eq_true,Bool.not_true,cnd_f,markPresentation_eq s0 (by decide) (by decide),bs]
 simp only
 rw [markModule s1 (by omega) (by omega),bs]
 simp only
 rw [markInt64SS s2 (by omega) (by omega),bs]
 simp only
 rw [decide_eq_false (by omega),cnd_f,bs,Bool.not_true,cnd_f]
 rw [markInt64S sg (by decide) (by omega),bs]
 simp only
 rw [heldInt64S sg (by decide) (by omega),bs,decide_eq_false (by omega),cnd_f,bne_self_eq_false,cnd_f,bs]
 simp only
 rw [eqInt64S sg,bs,beq_self_eq_true,Bool.not_true,cnd_f,bne_self_eq_false,cnd_f,bs,decide_eq_false (by omega),cnd_f,bne_self_eq_false,cnd_f]
theorem InnerVector_plain (x0:SPresentation) (x1:SModule) (x2:Mx) (v0:VPres x0) (v1:VMod x1) (v2:VL (VL VI) x2):f_laws_FnExactInnerVector x0 x1 x2 = some true :=
 law_InnerVector x0 x1 x2 v0 v1 v2 InnerVector_agree
end Go.Pl
