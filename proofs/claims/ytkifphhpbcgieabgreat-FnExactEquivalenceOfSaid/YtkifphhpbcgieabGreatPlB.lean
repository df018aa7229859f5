/- The program and the reference return the same equivalences of extensions, for all arguments (FnExactEquivalenceOf). This file is a part of the proof. -/
import Derived.Test.YtkifphhpbcgieabGreatPlA
namespace Go.Pl
open Go Go.Ab Go.Wk Go.Pc
theorem Red.empty {p:Int} {n:Nat}:Red p n [] (fun _ => 0):=⟨fun _ h => by simp at h,fun _ h => by simp at h,fun _ h => by simp at h,fun _ h => by simp at h,fun _ _ h => by simp at h,fun _ _ _ h => by simp at h⟩
theorem zNT.take {p:Int} {n m:Nat} {rows:Mx} {c:Nat} {M:Mx} {d:Nat} {pv:Nat → Nat} (h:zNT p n m rows c M d pv) (hcn:c ≤ n) (hz:∀ k,d ≤ k → k < m → ∀ j,j < n → ent M k j = 0):Red p n (M.take d) pv ∧ sK p n (M.take d) rows:=by
 have hl:(M.take d).length = d:=by rw [List.length_take,h.len];exact Nat.min_eq_left h.dm
 have hg:∀ i,i < d → (M.take d).getD i [] = M.getD i []:=fun i hi => by simp only [List.getD_eq_getElem?_getD,List.getElem?_take,if_pos hi]
 have dm:=h.dm
 refine ⟨⟨fun i hi => ?_,fun i hi => ?_,fun i hi => ?_,fun i hi j hj => ?_,fun i k hi hk hne => ?_,fun i j hij hj => ?_⟩,sK.trans ⟨fun i hi => ?_,fun i hi => ?_⟩ h.sp⟩
 ·rw [hl] at hi;rw [hg i hi];exact h.row i (by omega)
 ·rw [hl] at hi;have:=h.lt i hi;omega
 ·rw [hl] at hi;simp only [ent,hg i hi];exact h.one i hi
 ·rw [hl] at hi;simp only [ent,hg i hi];exact h.low i hi j hj
 ·rw [hl] at hi hk;simp only [ent,hg k hk];exact h.off i k hi (by omega) hne
 ·rw [hl] at hj;exact h.mono i j hij hj
 ·rw [hl] at hi;rw [hg i hi];exact sT (by rw [h.len];omega)
 ·rw [h.len] at hi
  rcases Nat.lt_or_ge i d with g | g
  ·have:=sT (p:=p) (n:=n) (R:=M.take d) (i:=i) (by rw [hl];exact g)
   rw [hg i g] at this;exact this
  ·exact zAg fun j hj => by
    have:=hz i g hi j hj
    simp only [ent] at this
    rw [this];rfl
section
variable {p:Int} (hp:Prime p) {n:Nat} {rows:Mx} (hn:n ≤ 100000) (hm:rows.length ≤ 600000) (hr:∀ i,i < rows.length → Row p n (rows.getD i []))
 include hp hn hm hr
theorem zJW:∃ R pv,f_g p rows = some R ∧ Red p n R pv ∧ sK p n R rows:=by
 have h7:=hp.pos
 unfold f_g
 rw [zGX (by omega) (fun i hi => by have:=(hr i hi).1;omega),bs]
 have main:=vQ (body:=zLW p) (s:=(rows,0,0)) (Q:=fun r => ∃ (M:Mx) (d:Nat) (pv:Nat → Nat),r = (M,(d:Int)) ∧ d ≤ M.length ∧ Red p n (M.take d) pv ∧ sK p n (M.take d) rows)
  (fun i s => ∃ (M:Mx) (d:Nat) (pv:Nat → Nat),s = (M,(d:Int),(i:Int)) ∧ zNT p n rows.length rows i M d pv ∧ i ≤ n) n (fun c s hc hI => ?_) (fun s hI => ?_) ⟨rows,0,fun _ => 0,rfl,⟨rfl,hr,Nat.zero_le _,fun _ h => by omega,fun _ h => by omega,fun _ h => by omega,fun _ _ h => by omega,fun _ _ _ h => by omega,fun _ _ _ _ h => by omega,sK.refl⟩,Nat.zero_le _⟩
 ·obtain ⟨r,h1,M,d,pv,rfl,hd,hR,hS⟩:=main
  rw [h1,bs]
  simp only
  have e:zX M 0 (d:Int) = some (M.take d):=by
   unfold zX
   rw [if_pos ⟨by omega,by omega,by omega⟩];simp
  rw [e,bs]
  exact ⟨_,_,rfl,hR,hS⟩
 ·
  obtain ⟨M,d,pv,rfl,h,hcn⟩:=hI
  have hl:=h.len
  have hdm:=h.dm
  by_cases h0:rows.length = 0
  ·refine .inr ⟨(M,(d:Int)),?_,M,d,pv,rfl,by omega,h.take hcn fun k hk hk2 => by omega⟩
   unfold zLW
   simp only
   rw [decide_eq_false (by omega),zF]
  have e0:zLW p (M,(d:Int),(c:Int)) = cond (decide ((d:Int) < (M.length:Int))) ((zH (zGZ (M,(d:Int),(c:Int))) (d:Int)).bind fun r6 =>
    cond (r6 == (M.length:Int)) ((rng ((c:Int) + 1)).bind fun v7 => some (.inl (M,(d:Int),v7))) (
     (ixO M r6).bind fun v8 => (ixO M (d:Int)).bind fun v9 => (ixO (sZ M (d:Int) r6 v8 v9) (d:Int)).bind fun v10 => (ixO v10 (c:Int)).bind fun v11 => (f_O v11 p).bind fun r12 =>
     (ixO (sZ M (d:Int) r6 v8 v9) (d:Int)).bind fun v13 => (zH (zK2 p (M,(d:Int),(c:Int)) r12 v13) (sZ M (d:Int) r6 v8 v9,0)).bind fun r21 =>
     (zH (zLV p (M,(d:Int),(c:Int)) r21) (r21,0)).bind fun r30 => (rng ((d:Int) + 1)).bind fun v31 => (rng ((c:Int) + 1)).bind fun v32 => some (.inl (r30,v31,v32)))) (some (.inr (M,(d:Int)))):=by
   unfold zLW
   simp only
   have hx:ixO M (0:Int) = some (M.getD 0 []):=by
    have:=yD (v:=M) (i:=0) [] (by omega)
    exact this
   rw [decide_eq_true (by omega),zJ,hx]
   simp only [bs]
   rw [(h.row 0 (by omega)).1,yQ hc,zJ]
  rcases Nat.lt_or_ge d rows.length with hd | hd
  ·obtain ⟨t,t1,t2,t3,t4,t5⟩:=zNU (M:=M) (d:=d) (c:=c) (m:=rows.length) (n:=n) hl hdm (by omega) (fun i hi => (h.row i hi).1) hc
   rw [e0,hl,yQ hd,zJ,t3]
   simp only [bs]
   by_cases htm:t = rows.length
   ·
    left
    refine ⟨(M,(d:Int),((c + 1:Nat):Int)),?_,M,d,pv,rfl,⟨hl,h.row,hdm,fun i hi => by have:=h.lt i hi;omega,h.one,h.low,h.off,h.mono,fun k k1 k2 j hj => ?_,h.sp⟩,by omega⟩
    ·rw [zJU (by omega),zJ,zD (by omega) (by omega),bs,cs]
    ·rcases Nat.lt_or_ge j c with g | g
     ·exact h.zero k k1 k2 j g
     ·rw [show j = c from by omega];exact t4 k k1 (by omega)
   ·have htl:t < rows.length:=by omega
    have hne:=t5 htl
    have hrt:=h.row t htl
    have hrc:=hrt.2 c hc
    obtain ⟨q,q1,q2,q3,q4⟩:=zDB (p:=p) (x:=ent M t c) hp (by simp only [ent] at hne ⊢;omega) (by simp only [ent];omega)
    left
    have hM:M = mkR rows.length (fun i => M.getD i []):=zUW hl
    obtain ⟨F,hF⟩:∃ F:Nat → List Int,∀ i,F i = if i = t then M.getD d [] else if i = d then M.getD t [] else M.getD i []:=⟨_,fun _ => rfl⟩
    have hsw:sZ M (d:Int) (t:Int) (M.getD t []) (M.getD d []) = mkR rows.length F:=by
     unfold sZ
     rw [Int.toNat_natCast,Int.toNat_natCast]
     conv => lhs;rw [hM]
     rw [zFd,zFd]
     exact tP fun i hi => by rw [hF,qQ hd,qQ htl]
    have hrow2:∀ i,i < rows.length → Row p n (F i):=fun i hi => by
     rw [hF]
     split
     ·exact h.row d hd
     ·split
      ·exact hrt
      ·exact h.row i hi
    have hFd:F d = M.getD t []:=by
     rw [hF]
     by_cases e:d = t
     ·rw [if_pos e,e]
     ·rw [if_neg e,if_pos rfl]
    obtain ⟨G,hG⟩:∃ G:Nat → List Int,∀ i,G i = if i = d then mkv n fun j => (at0 (F d) j * q) % p else F i:=⟨_,fun _ => rfl⟩
    have hGd:G d = mkv n fun j => (ent M t j * q) % p:=by rw [hG,if_pos rfl,hFd]
    have hGo:∀ i,i ≠ d → G i = if i = t then M.getD d [] else M.getD i []:=fun i hid => by rw [hG,if_neg hid,hF];simp only [hid,if_false]
    have hsc:zH (zK2 p (M,(d:Int),(c:Int)) (q,true) (M.getD t [])) (mkR rows.length F,0) = some (mkR rows.length G):=by
     rw [zLv hp (F:=F) hd (hrow2 d hd) (by omega) ⟨q2,q3⟩ hrt.1 rfl]
     congr 1
     exact tP fun i _ => (hG i).symm
    have hF3:∀ i,i < rows.length → Row p n (G i):=fun i hi => by
     rw [hG]
     split
     ·refine ⟨zZ _ _,fun j hj => ?_⟩
      have e1:=Int.emod_nonneg (at0 (F d) j * q) (show p ≠ 0 by omega)
      have e2:=Int.emod_lt_of_pos (at0 (F d) j * q) (show 0 < p by omega)
      rw [yE hj];omega
     ·exact hrow2 i hi
    have hcl:=zLw hp (c:=c) (F:=G) hd hc hF3 (by omega) (by omega) (r21:=mkR rows.length G) tE (s:=(M,(d:Int),(c:Int))) rfl rfl
    rw [zJV (by omega),zF,yD [] (by omega),yD [] (by omega)]
    simp only [bs]
    rw [hsw,zI4 hd,hFd]
    simp only [bs]
    rw [yF (by rw [hrt.1];exact hc)]
    simp only [bs]
    rw [show at0 (M.getD t []) c = ent M t c from rfl,q1]
    simp only [bs]
    rw [hsc]
    simp only [bs]
    rw [hcl]
    simp only [bs]
    rw [zD (by omega) (by omega),zD (by omega) (by omega)]
    simp only [bs,cs]
    have hfin:=h.pivot hp hc hd t1 htl hne q4
    refine ⟨_,rfl,_,d + 1,fun i => if i = d then c else pv i,rfl,?_,by omega⟩
    have e3:(mkR rows.length fun i => if i = d then G d else wY p n (G i) (0 - at0 (G i) c) (G d)) = (mkR rows.length fun i => if i = d then mkv n fun j => (ent M t j * q) % p else wY p n (if i = t then M.getD d [] else M.getD i []) (0 - at0 (if i = t then M.getD d [] else M.getD i []) c) (mkv n fun j => (ent M t j * q) % p)):=by
     refine tP fun i hi => ?_
     rw [hGd]
     by_cases hid:i = d
     ·rw [if_pos hid,if_pos hid]
     ·rw [if_neg hid,if_neg hid,hGo i hid]
    rw [e3];exact hfin
  ·
   refine .inr ⟨(M,(d:Int)),?_,M,d,pv,rfl,by omega,h.take hcn fun k hk hk2 => by omega⟩
   rw [e0,decide_eq_false (by omega),zF]
 ·
  obtain ⟨M,d,pv,rfl,h,hcn⟩:=hI
  have hl:=h.len
  have hdm:=h.dm
  refine ⟨(M,(d:Int)),?_,M,d,pv,rfl,by omega,h.take hcn fun k hk hk2 j hj => h.zero k hk hk2 j hj⟩
  unfold zLW
  simp only
  by_cases h0:rows.length = 0
  ·rw [decide_eq_false (by omega),zF]
  ·have hx:ixO M (0:Int) = some (M.getD 0 []):=by
    have:=yD (v:=M) (i:=0) [] (by omega)
    exact this
   rw [decide_eq_true (by omega),zJ,hx]
   simp only [bs]
   rw [(h.row 0 (by omega)).1,xD,zF]
end
end Go.Pl

namespace Go.Pl
open Go Go.Ab Go.Wk Go.Pc
theorem zHF {v:List Int} {n:Nat} (hl:v.length = n) (hn:n ≤ 1000000):∃ k:Nat,k ≤ n ∧ f_A v = some (k:Int) ∧ (∀ j,j < k → at0 v j = 0) ∧ (k < n → at0 v k ≠ 0):=by
 unfold f_A
 rcases chk (body:=zHa v) n 0 (Nat.zero_le _) (fun i => at0 v i = 0) (fun i => (i:Int)) (fun i _ hi _ => by
   unfold zHa
   rw [hl,yQ hi,zJ,yF (by omega),bs]
   by_cases h:at0 v i = 0
   ·rw [jP h,zF,zD (by omega) (by omega),bs,cs];exact .inl ⟨rfl,h⟩
   ·rw [qA h,zJ];exact .inr ⟨rfl,h⟩) (by
   unfold zHa
   rw [hl,xD,zF]) with ⟨h1,h2⟩ | ⟨i,_,hi,h1,h2⟩
 ·rw [show ((0:Nat):Int) = 0 from rfl] at h1
  rw [h1,bs]
  exact ⟨n,Nat.le_refl _,by simp only [hl],fun j hj => h2 j (Nat.zero_le _) hj,fun h => by omega⟩
 ·rw [show ((0:Nat):Int) = 0 from rfl] at h1
  rw [h1,bs]
  obtain ⟨k,⟨hk1,hk2⟩,hmin⟩:=zA1 (p:=fun k => k < n ∧ at0 v k ≠ 0) ⟨i,hi,h2⟩
  have hz:∀ j,j < k → at0 v j = 0:=fun j hj => Classical.byContradiction fun h => hmin j hj ⟨by omega,h⟩
  have hki:k = i:=by
   have hloop:∀ q,q ≤ k → zH (zHa v) ((k - q:Nat):Int) = some (.inr (k:Int)):=by
    intro q
    induction q with
    | zero =>
     intro _
     rw [xG]
     have e:zHa v ((k - 0:Nat):Int) = some (.inr (.inr (k:Int))):=by
      unfold zHa
      rw [show k - 0 = k from rfl,hl,yQ hk1,zJ,yF (by omega),bs,qA hk2,zJ]
     rw [e]
    | succ q ih =>
     intro hq
     rw [xG]
     have e:zHa v ((k - (q + 1):Nat):Int) = some (.inl ((k - q:Nat):Int)):=by
      unfold zHa
      rw [hl,yQ (by omega),zJ,yF (by omega),bs,jP (hz _ (by omega)),zF,zD (by omega) (by omega),bs,cs,show k - (q + 1) + 1 = k - q from by omega]
     rw [e];exact ih (by omega)
   have:=hloop k (Nat.le_refl _)
   rw [Nat.sub_self,show ((0:Nat):Int) = 0 from rfl,h1] at this
   have:=Sum.inr.inj (Option.some.inj this)
   omega
  exact ⟨i,by omega,rfl,by rw [← hki];exact hz,fun _ => h2⟩
theorem zFe {v:List Int} {n k:Nat} (hl:v.length = n) (hn:n ≤ 1000000) (hk:k < n) (h0:∀ j,j < k → at0 v j = 0) (h1:at0 v k ≠ 0):f_A v = some (k:Int):=by
 obtain ⟨q,q1,q2,q3,q4⟩:=zHF hl hn
 have:q = k:=by
  rcases Nat.lt_trichotomy q k with g | g | g
  ·exact absurd (h0 q g) (q4 (by omega))
  ·exact g
  ·exact absurd (q3 k g) h1
 rw [q2,this]
theorem zQd {p x:Int} (hp:Prime p) (h0:1 ≤ x) (h1:x ≤ p - 1):∃ r,zTk x p = some r ∧ 0 ≤ r ∧ r ≤ p - 1 ∧ (x * r) % p = 1:=by
 have h7:=hp.pos
 have hx:∃ k:Nat,1 ≤ k ∧ (k:Int) < p ∧ (x * (k:Int)) % p = 1:=by
  obtain ⟨r,_,r1,r2,r3⟩:=zDB hp h0 h1
  refine ⟨r.toNat,?_,by omega,by rw [Int.toNat_of_nonneg r1];exact r3⟩
  rcases Int.lt_or_eq_of_le r1 with g | g
  ·omega
  ·rw [← g] at r3;simp at r3
 obtain ⟨k,⟨k1,k2,k3⟩,hmin⟩:=zA1 hx
 have body:∀ i:Nat,1 ≤ i → (i:Int) < p → zK3 x p (i:Int) = cond ((x * (i:Int)) % p == 1) (some (.inr (.inr (i:Int)))) (some (.inl ((i + 1:Nat):Int))):=fun i hi hip => by
  have a3:=Int.mul_nonneg (show 0 ≤ x by omega) (show 0 ≤ (i:Int) by omega)
  have a4:=zBb hp (k:=(i:Int)) ⟨by omega,by omega⟩ (b:=x) ⟨by omega,h1⟩
  rw [Int.mul_comm] at a4
  unfold zK3
  rw [decide_eq_true hip,zJ,zJT hp (by omega) (by omega),bs,Int.emod_eq_of_lt (by omega) (by omega),zD (by omega) (by omega),bs]
  unfold uQ
  rw [if_neg (by omega),bs,Int.tmod_eq_emod_of_nonneg a3]
  by_cases hh:(x * (i:Int)) % p = 1
  ·rw [zJU hh,zJ,zJ]
  ·rw [zJV hh,zF,zF,zD (by omega) (by omega),bs,cs]
 have hloop:∀ q,q + 1 ≤ k → zH (zK3 x p) ((k - q:Nat):Int) = some (.inr (k:Int)):=by
  intro q
  induction q with
  | zero =>
   intro _
   rw [xG,show k - 0 = k from rfl,body k k1 k2,zJU k3,zJ]
  | succ q ih =>
   intro hq
   have hne:(x * ((k - (q + 1):Nat):Int)) % p ≠ 1:=fun h => hmin (k - (q + 1)) (by omega) ⟨by omega,by omega,h⟩
   rw [xG,body _ (by omega) (by omega),zJV hne,zF,show k - (q + 1) + 1 = k - q from by omega]
   exact ih (by omega)
 have:=hloop (k - 1) (by omega)
 rw [show k - (k - 1) = 1 from by omega,show ((1:Nat):Int) = 1 from rfl] at this
 refine ⟨(k:Int),?_,by omega,by omega,k3⟩
 unfold zTk
 rw [this,bs]
section
variable {p:Int} (hp:Prime p) {n:Nat} (hn:n ≤ 100000)
 include hp hn
theorem zUX {r s:List Int} (hr:Row p n r):wY p n r p s = r:=by
 have _:=hp
 have _:=hn
 conv => rhs;rw [vJ hr.1]
 refine zY fun j hj => ?_
 have:=hr.2 j hj
 rw [Int.add_mul_emod_self_left];exact Int.emod_eq_of_lt this.1 (by omega)
def cl (p:Int) (n:Nat) (out:Mx) (pv:Nat → Nat) (v:List Int):Nat → List Int
 | 0 => v
 | i + 1 => wY p n (cl p n out pv v i) (p - at0 (cl p n out pv v i) (pv i)) (out.getD i [])
variable {out:Mx} {pv:Nat → Nat} (h:Red p n out pv) {v:List Int} (hv:Row p n v)
 include h hv
theorem zBR:∀ i,Row p n (cl p n out pv v i):=by
 have _:=hn
 have _:=h
 intro i
 cases i with
 | zero => exact hv
 | succ i => exact jD hp
theorem zQe:∀ i,i ≤ out.length → ∀ k,k < i → at0 (cl p n out pv v i) (pv k) = 0:=by
 have _:=hn;have _:=hv
 have h7:=hp.pos
 intro i
 induction i with
 | zero => intro _ k hk;omega
 | succ i ih =>
  intro hi k hk
  have hlt:=h.lt k (by omega)
  rw [cl,wY,yE hlt]
  rcases Nat.lt_or_ge k i with g | g
  ·have h1:=ih (by omega) k g
   have h2:=h.off k i (by omega) (by omega) (by omega)
   simp only [ent] at h2
   rw [h1,h2];simp
  ·have hki:k = i:=by omega
   subst hki
   have h2:=h.one k (by omega)
   simp only [ent] at h2
   rw [h2,Int.mul_one,show at0 (cl p n out pv v k) (pv k) + (p - at0 (cl p n out pv v k) (pv k)) = p from by omega,Int.emod_self]
theorem zNe:∀ i,i ≤ out.length → ∃ cf:Nat → Int,∀ j,j < n → at0 (cl p n out pv v i) j % p = (at0 v j + S out.length fun k => cf k * ent out k j) % p:=by
 have _:=hp;have _:=h;have _:=hv
 have _:=hn
 intro i
 induction i with
 | zero => intro _;exact ⟨fun _ => 0,fun j _ => by rw [wU (g:=fun _ => 0) (fun i _ => by simp),jM,Int.add_zero];rfl⟩
 | succ i ih =>
  intro hi
  obtain ⟨cf,hcf⟩:=ih (by omega)
  refine ⟨fun k => cf k + (if k = i then p - at0 (cl p n out pv v i) (pv i) else 0),fun j hj => ?_⟩
  have e1:(S out.length fun k => (cf k + (if k = i then p - at0 (cl p n out pv v i) (pv i) else 0)) * ent out k j) = (S out.length fun k => cf k * ent out k j) + (p - at0 (cl p n out pv v i) (pv i)) * ent out i j:=by
   rw [wU (g:=fun k => cf k * ent out k j + (if k = i then p - at0 (cl p n out pv v i) (pv i) else 0) * ent out k j) (fun k _ => by rw [Int.add_mul]),zJI,zAF (f:=fun k => (if k = i then p - at0 (cl p n out pv v i) (pv i) else 0) * ent out k j) (k:=i) (by omega) (fun k _ hk => by simp [hk])]
   simp
  rw [e1,cl,wY,yE hj,Int.emod_emod,← Int.add_assoc,Int.add_emod,hcf j hj,← Int.add_emod]
theorem zDb (hm:out.length ≤ 100000):f_Z p out v = some (cl p n out pv v out.length):=by
 have h7:=hp.pos
 unfold f_Z
 rw [tK (by rw [hv.1];omega),bs]
 have:=zO (body:=zRE p out) (r:=cl p n out pv v out.length) (fun i => (cl p n out pv v i,(i:Int))) out.length (fun i hi => by
  have hr:=zBR hp hn h hv i
  have ho:=h.row i hi
  have hlt:=h.lt i hi
  have hone:=h.one i hi
  have hlow:=h.low i hi
  simp only [ent] at hone hlow
  have he:=hr.2 (pv i) hlt
  unfold zRE
  simp only
  rw [yQ hi,zJ,yD [] hi,bs,zFe ho.1 (by omega) hlt hlow (by rw [hone];decide),bs,hr.1,yQ hlt,zJ,yF (by rw [hr.1];exact hlt),bs]
  by_cases hz:at0 (cl p n out pv v i) (pv i) = 0
  ·rw [jP hz,zF,zD (by omega) (by omega),bs,cs,cl,hz,Int.sub_zero,zUX hp hn hr]
  ·rw [qA hz,zJ,bs,zD (by omega) (by omega),bs,bs,vT hp hr ho ⟨by omega,by omega⟩ (by omega),bs,zD (by omega) (by omega),bs,cs]
   rfl) (by
  unfold zRE
  simp only
  rw [xD,zF])
 rw [show ((0:Nat):Int) = 0 from rfl] at this
 simp only [cl] at this
 rw [this,bs]
end
end Go.Pl

namespace Go.Pl
open Go Go.Ab Go.Wk Go.Pc
section
variable {p:Int} (hp:Prime p) {n:Nat} {out:Mx} {pv:Nat → Nat} (h:Red p n out pv) {u:List Int} {k q:Nat} (hu:Row p n u) (hk:k < n) (u1:at0 u k = 1) (ul:∀ j,j < k → at0 u j = 0) (up:∀ i,i < out.length → at0 u (pv i) = 0) (hq:q ≤ out.length) (q1:∀ i,i < q → pv i < k) (q2:∀ i,q ≤ i → i < out.length → k < pv i)
def oth (p:Int) (n:Nat) (out:Mx) (u:List Int) (k i:Nat):List Int:=wY p n (out.getD i []) (p - at0 (out.getD i []) k) u
def tF (p:Int) (n:Nat) (out:Mx) (u:List Int) (k q i:Nat):List Int:=if i < q then oth p n out u k i else if i = q then u else oth p n out u k (i - 1)
def zS5 (pv:Nat → Nat) (k q i:Nat):Nat:=if i < q then pv i else if i = q then k else pv (i - 1)
 include hp h hu hk u1 ul up hq q1 q2
theorem zLx {i j:Nat} (hj:j < n):at0 (oth p n out u k i) j = (at0 (out.getD i []) j - at0 (out.getD i []) k * at0 u j) % p:=by
 have _:=hp;have _:=h;have _:=hu;have _:=hk;have _:=u1;have _:=ul;have _:=up;have _:=hq;have _:=q1;have _:=q2
 rw [oth,wY,yE hj,show at0 (out.getD i []) j + (p - at0 (out.getD i []) k) * at0 u j = at0 (out.getD i []) j - at0 (out.getD i []) k * at0 u j + p * at0 u j from by rw [Int.sub_mul];omega,Int.add_mul_emod_self_left]
theorem zDC {i j:Nat} (hi:i < out.length) (hj:j < n) (hz:at0 (out.getD i []) k = 0 ∨ at0 u j = 0):at0 (oth p n out u k i) j = ent out i j:=by
 rw [zLx hp h hu hk u1 ul up hq q1 q2 hj]
 have:=(h.row i hi).2 j hj
 have e:at0 (out.getD i []) k * at0 u j = 0:=by rcases hz with g | g <;> rw [g] <;> simp
 rw [e,Int.sub_zero];exact Int.emod_eq_of_lt this.1 (by omega)
theorem zWU {i:Nat}:at0 (oth p n out u k i) k = 0:=by
 rw [zLx hp h hu hk u1 ul up hq q1 q2 hk,u1,Int.mul_one,Int.sub_self];rfl
theorem zS6 {i j:Nat} (hi:i < out.length) (hj:j < pv i) (hne:pv i ≠ k):at0 (oth p n out u k i) j = 0:=by
 have hlt:=h.lt i hi
 rcases Nat.lt_or_ge (pv i) k with g | g
 ·rw [zDC hp h hu hk u1 ul up hq q1 q2 hi (by omega) (.inr (ul j (by omega)))];exact h.low i hi j hj
 ·have:=h.low i hi k (by omega)
  rw [zDC hp h hu hk u1 ul up hq q1 q2 hi (by omega) (.inl this)];exact h.low i hi j hj
theorem zWV {i:Nat} (hi:i < out.length):pv i ≠ k:=by
 have _:=h;have _:=q1;have _:=q2
 have _:=hp;have _:=hu;have _:=hk;have _:=ul;have _:=hq
 intro e
 have:=up i hi
 rw [e,u1] at this;cases this
theorem zHG {i:Nat} (hi:i < out.length + 1):(i = q ∧ tF p n out u k q i = u ∧ zS5 pv k q i = k) ∨ ∃ a,a < out.length ∧ (i < q ∧ a = i ∨ q < i ∧ i = a + 1) ∧ tF p n out u k q i = oth p n out u k a ∧ zS5 pv k q i = pv a:=by
 have _:=hp;have _:=h;have _:=hu;have _:=hk;have _:=u1;have _:=ul;have _:=up;have _:=q1;have _:=q2
 unfold tF zS5
 rcases Nat.lt_trichotomy i q with g | g | g
 ·exact .inr ⟨i,by omega,.inl ⟨g,rfl⟩,by rw [if_pos g],by rw [if_pos g]⟩
 ·exact .inl ⟨g,by rw [if_neg (by omega),if_pos g],by rw [if_neg (by omega),if_pos g]⟩
 ·exact .inr ⟨i - 1,by omega,.inr ⟨g,by omega⟩,by rw [if_neg (by omega),if_neg (by omega)],by rw [if_neg (by omega),if_neg (by omega)]⟩
theorem zLy:Red p n (mkR (out.length + 1) (tF p n out u k q)) (zS5 pv k q):=by
 have nc:=fun i hi => zHG hp h hu hk u1 ul up hq q1 q2 (i:=i) hi
 have pn:=fun i hi => zWV hp h hu hk u1 ul up hq q1 q2 (i:=i) hi
 refine ⟨fun i hi => ?_,fun i hi => ?_,fun i hi => ?_,fun i hi j hj => ?_,fun i j hi hj hne => ?_,fun i j hij hj => ?_⟩ <;> rw [tE] at *
 ·rw [qQ hi]
  rcases nc i hi with ⟨_,e,_⟩ | ⟨a,_,_,e,_⟩ <;> rw [e]
  ·exact hu
  ·exact jD hp
 ·rcases nc i hi with ⟨_,_,e⟩ | ⟨a,ha,_,_,e⟩ <;> rw [e]
  ·exact hk
  ·exact h.lt a ha
 ·rw [zDA hi]
  rcases nc i hi with ⟨_,e1,e2⟩ | ⟨a,ha,_,e1,e2⟩ <;> rw [e1,e2]
  ·exact u1
  ·rw [zDC hp h hu hk u1 ul up hq q1 q2 ha (h.lt a ha) (.inr (up a ha))];exact h.one a ha
 ·rw [zDA hi]
  rcases nc i hi with ⟨_,e1,e2⟩ | ⟨a,ha,_,e1,e2⟩ <;> rw [e2] at hj <;> rw [e1]
  ·exact ul j hj
  ·exact zS6 hp h hu hk u1 ul up hq q1 q2 ha hj (pn a ha)
 ·rw [zDA hj]
  rcases nc i hi with ⟨g1,_,e2⟩ | ⟨a,ha,ga,_,e2⟩ <;> rw [e2] <;> rcases nc j hj with ⟨g3,e3,_⟩ | ⟨b,hb,gb,e3,_⟩ <;> rw [e3]
  ·omega
  ·exact zWU hp h hu hk u1 ul up hq q1 q2
  ·exact up a ha
  ·rw [zDC hp h hu hk u1 ul up hq q1 q2 hb (h.lt a ha) (.inr (up a ha))]
   exact h.off a b ha hb (by omega)
 ·rcases nc i (by omega) with ⟨g1,_,e2⟩ | ⟨a,ha,ga,_,e2⟩ <;> rw [e2] <;> rcases nc j hj with ⟨g3,_,e4⟩ | ⟨b,hb,gb,_,e4⟩ <;> rw [e4]
  ·omega
  ·exact q2 b (by omega) hb
  ·exact q1 a (by omega)
  ·exact h.mono a b (by omega) hb
theorem zNV:(∀ i,i < out.length + 1 → Sp p n (out ++ [u]) (tF p n out u k q i)) ∧ (∀ i,i < out.length → Sp p n (mkR (out.length + 1) (tF p n out u k q)) (out.getD i [])) ∧ Sp p n (mkR (out.length + 1) (tF p n out u k q)) u:=by
 have hul:Sp p n (out ++ [u]) u:=by
  have:=sT (p:=p) (n:=n) (R:=out ++ [u]) (i:=out.length) (by simp)
  simpa [List.getD_eq_getElem?_getD] using this
 have hol:∀ i,i < out.length → Sp p n (out ++ [u]) (out.getD i []):=fun i hi => by
  have:=sT (p:=p) (n:=n) (R:=out ++ [u]) (i:=i) (by simp;omega)
  simpa [List.getD_eq_getElem?_getD,List.getElem?_append_left hi] using this
 have hoth:∀ i,i < out.length → Sp p n (out ++ [u]) (oth p n out u k i):=fun i hi =>
  sU (k:=p - at0 (out.getD i []) k) (hol i hi) hul fun j hj => by rw [oth,wY,yE hj,Int.emod_emod]
 have hsu:Sp p n (mkR (out.length + 1) (tF p n out u k q)) u:=by
  have:=zBe (p:=p) (n:=n) (m:=out.length + 1) (F:=tF p n out u k q) (i:=q) (by omega)
  rw [show tF p n out u k q q = u from by unfold tF;rw [if_neg (by omega),if_pos rfl]] at this
  exact this
 refine ⟨fun i hi => ?_,fun i hi => ?_,hsu⟩
 ·rcases zHG hp h hu hk u1 ul up hq q1 q2 hi with ⟨_,e,_⟩ | ⟨a,ha,_,e,_⟩ <;> rw [e]
  ·exact hul
  ·exact hoth a ha
 ·have hi2:∃ b,b < out.length + 1 ∧ tF p n out u k q b = oth p n out u k i:=by
   rcases Nat.lt_or_ge i q with g | g
   ·exact ⟨i,by omega,by unfold tF;rw [if_pos g]⟩
   ·exact ⟨i + 1,by omega,by unfold tF;rw [if_neg (by omega),if_neg (by omega)];rfl⟩
  obtain ⟨b,hb,e⟩:=hi2
  have h1:=zBe (p:=p) (n:=n) (m:=out.length + 1) (F:=tF p n out u k q) hb
  rw [e] at h1
  refine sU (k:=at0 (out.getD i []) k) h1 hsu fun j hj => ?_
  rw [zLx hp h hu hk u1 ul up hq q1 q2 hj,Int.add_emod,Int.emod_emod,← Int.add_emod,show at0 (out.getD i []) j - at0 (out.getD i []) k * at0 u j + at0 (out.getD i []) k * at0 u j = at0 (out.getD i []) j from by omega]
theorem zJX (hn:n ≤ 100000) (hm:out.length ≤ 100000) {x:Int} :
  ((zH (zHb p (out,x) (k:Int) u) ([],false,0)).bind fun r32 => cond (!r32.2) ((xQ r32.1 [u]).bind fun v33 => some v33) (some r32.1)) = some (mkR (out.length + 1) (tF p n out u k q)):=by
 have _:=u1;have _:=ul;have _:=up
 have h7:=hp.pos
 have ho:∀ i,i < out.length → f_s p (out.getD i []) (p - at0 (out.getD i []) k) u = some (oth p n out u k i) ∧ ixO (out.getD i []) (k:Int) = some (at0 (out.getD i []) k) ∧ 0 ≤ at0 (out.getD i []) k ∧ at0 (out.getD i []) k ≤ p - 1 ∧ f_A (out.getD i []) = some (pv i:Int):=fun i hi => by
  have hr:=h.row i hi
  have hk2:=hr.2 k hk
  have hone:=h.one i hi
  have hlow:=h.low i hi
  simp only [ent] at hone hlow
  exact ⟨by rw [vT hp hr hu ⟨by omega,by omega⟩ (by omega)];rfl,yF (by rw [hr.1];exact hk),hk2.1,hk2.2,zFe hr.1 (by omega) (h.lt i hi) hlow (by rw [hone];decide)⟩
 have hsn:∀ {m:Nat} {F:Nat → List Int},mkR m F ++ [F m] = mkR (m + 1) F:=fun {m F} => by simp [mkR,List.range_succ]
 have:=zO (body:=zHb p (out,x) (k:Int) u) (r:=(if out.length ≤ q then (mkR out.length (tF p n out u k q),false) else (mkR (out.length + 1) (tF p n out u k q),true)))
  (fun j => if j ≤ q then (mkR j (tF p n out u k q),false,(j:Int)) else (mkR (j + 1) (tF p n out u k q),true,(j:Int))) out.length (fun j hj => by
   obtain ⟨a1,a2,a3,a4,a5⟩:=ho j hj
   have hrg:rng (p - at0 (out.getD j []) k) = some (p - at0 (out.getD j []) k):=zD (by omega) (by omega)
   rcases Nat.lt_trichotomy j q with g | g | g
   ·have hpj:=q1 j g
    rw [if_pos (by omega),if_pos (by omega)]
    unfold zHb
    simp only
    rw [yQ hj,zJ,Bool.not_false,zJ,yD [] hj]
    simp only [bs,a5]
    rw [decide_eq_false (by omega),zF,a2]
    simp only [bs,hrg,a1]
    rw [yM (by rw [tE];simp;omega),bs,zD (by omega) (by omega),bs,cs]
    have:tF p n out u k q j = oth p n out u k j:=by unfold tF;rw [if_pos g]
    rw [← this,hsn]
   ·subst g
    have hpj:=q2 j (Nat.le_refl _) hj
    rw [if_pos (by omega),if_neg (by omega)]
    unfold zHb
    simp only
    rw [yQ hj,zJ,Bool.not_false,zJ,yD [] hj]
    simp only [bs,a5]
    rw [decide_eq_true (by omega),zJ,yM (by rw [tE];simp;omega),a2]
    simp only [bs,hrg,a1]
    have e1:tF p n out u k j j = u:=by unfold tF;rw [if_neg (by omega),if_pos rfl]
    have e2:tF p n out u k j (j + 1) = oth p n out u k j:=by unfold tF;rw [if_neg (by omega),if_neg (by omega)];rfl
    have e3:mkR j (tF p n out u k j) ++ [u] = mkR (j + 1) (tF p n out u k j):=by rw [← hsn,e1]
    rw [e3,yM (by rw [tE];simp;omega),bs,zD (by omega) (by omega),bs,cs,← e2,hsn]
   ·rw [if_neg (by omega),if_neg (by omega)]
    unfold zHb
    simp only
    rw [yQ hj,zJ,Bool.not_true,zF,yD [] hj]
    simp only [bs,a2,hrg,a1]
    have e2:tF p n out u k q (j + 1) = oth p n out u k j:=by unfold tF;rw [if_neg (by omega),if_neg (by omega)];rfl
    rw [yM (by rw [tE];simp;omega),bs,zD (by omega) (by omega),bs,cs,← e2,hsn]) (by
   by_cases g:out.length ≤ q
   ·rw [if_pos g,if_pos g]
    unfold zHb
    simp only
    rw [xD,zF]
   ·rw [if_neg g,if_neg g]
    unfold zHb
    simp only
    rw [xD,zF])
 rw [if_pos (Nat.zero_le _),show ((0:Nat):Int) = 0 from rfl,show mkR 0 (tF p n out u k q) = [] from rfl] at this
 rw [this,bs]
 by_cases g:out.length ≤ q
 ·have e1:tF p n out u k q out.length = u:=by unfold tF;rw [if_neg (by omega),if_pos (by omega)]
  rw [if_pos g]
  simp only
  rw [Bool.not_false,zJ,yM (by rw [tE];simp;omega),bs]
  congr 1
  rw [← hsn,e1]
 ·rw [if_neg g]
  simp only
  rw [Bool.not_true,zF]
end
end Go.Pl

namespace Go.Pl
open Go Go.Ab Go.Wk Go.Pc
theorem zLz {p:Int} {n:Nat} {R out:Mx} {cf:Nat → Int} (ho:∀ i,i < out.length → Sp p n R (out.getD i [])) {u:List Int} (hu:∀ j,j < n → at0 u j % p = (S out.length fun k => cf k * ent out k j) % p):Sp p n R u :=
 jF ho ⟨cf,fun j hj => (hu j hj).symm⟩
theorem Red.len_le {p:Int} {n:Nat} {R:Mx} {pv:Nat → Nat} (h:Red p n R pv):R.length ≤ n:=by
 have key:∀ i,i < R.length → i ≤ pv i:=by
  intro i
  induction i with
  | zero => intro _;omega
  | succ i ih =>
   intro hi
   have h1:=ih (by omega)
   have h2:=h.mono i (i + 1) (by omega) hi
   omega
 rcases Nat.eq_zero_or_pos R.length with g | g
 ·omega
 ·have h1:=key (R.length - 1) (by omega)
  have h2:=h.lt (R.length - 1) (by omega)
  omega
theorem zCn {xs:Mx} {v:List Int} {i:Nat} (h:i < xs.length):(xs ++ [v]).getD i [] = xs.getD i []:=by
 simp only [List.getD_eq_getElem?_getD,List.getElem?_append_left h]
theorem zCo {xs:Mx} {v:List Int}:(xs ++ [v]).getD xs.length [] = v:=by simp [List.getD_eq_getElem?_getD]
section
variable {p:Int} (hp:Prime p) {n:Nat} (hn:n ≤ 100000)
 include hp hn
theorem zGx {w:List Int} (hw:Row p n w) {r:Int} (h0:0 ≤ r) (h1:r ≤ p - 1):zRF p r w = some (mkv n fun j => (at0 w j * r) % p):=by
 have h7:=hp.pos
 unfold zRF
 rw [hw.1,yT (by omega),bs,vT hp (zGw (by omega)) hw ⟨by omega,by omega⟩ (by omega),bs]
 congr 1
 refine zY fun j hj => ?_
 rw [show at0 (z0 n) j = 0 from by simp [z0,at0,List.getD_eq_getElem?_getD,hj],Int.zero_add,Int.mul_comm]
variable {rows:Mx} (hm:rows.length ≤ 600000) (hr:∀ i,i < rows.length → Row p n (rows.getD i []))
 include hm hr
theorem zDD:∃ R pv,f_m p rows = some R ∧ (Red p n R pv ∧ R.length ≤ rows.length) ∧ sK p n R rows:=by
 have h7:=hp.pos
 unfold f_m
 have main:=vQ (body:=zOr p rows) (s:=([],0)) (Q:=fun R => ∃ pv,(Red p n R pv ∧ R.length ≤ rows.length) ∧ sK p n R rows)
  (fun i s => ∃ (out:Mx) (pv:Nat → Nat),s = (out,(i:Int)) ∧ Red p n out pv ∧ sK p n out (rows.take i) ∧ out.length ≤ i ∧ i ≤ rows.length) rows.length (fun i s hi hI => ?_) (fun s hI => ?_) ⟨[],fun _ => 0,rfl,Red.empty,by rw [List.take_zero];exact sK.refl,Nat.zero_le _,Nat.zero_le _⟩
 ·obtain ⟨R,h1,pv,h2,h3⟩:=main
  rw [h1,bs]
  exact ⟨R,pv,rfl,h2,h3⟩
 ·obtain ⟨out,pv,rfl,h,hs,hl,_⟩:=hI
  have hon:out.length ≤ n:=h.len_le
  left
  have hv:=hr i hi
  have hw:=zBR hp hn h hv out.length
  have hcl:=zDb hp hn h hv (by omega)
  have hpz:=zQe hp hn h hv out.length (Nat.le_refl _)
  obtain ⟨cf,hcf⟩:=zNe hp hn h hv out.length (Nat.le_refl _)
  obtain ⟨k,k1,k2,k3,k4⟩:=zHF hw.1 (by omega)
  have htk:rows.take (i + 1) = rows.take i ++ [rows.getD i []]:=by
   rw [List.take_succ_eq_append_getElem hi,List.getD_eq_getElem?_getD,List.getElem?_eq_getElem hi];rfl
  have hti:(rows.take i).length = i:=by rw [List.length_take];omega
  have hup:∀ u,Sp p n (rows.take i) u → Sp p n (rows.take (i + 1)) u:=fun u hu => jF (fun a ha => by
   have:=sT (p:=p) (n:=n) (R:=rows.take (i + 1)) (i:=a) (by rw [htk,List.length_append];omega)
   rw [htk,zCn ha,← htk] at this;exact this) hu
  have hvs:Sp p n (rows.take (i + 1)) (rows.getD i []):=by
   have:=sT (p:=p) (n:=n) (R:=rows.take (i + 1)) (i:=i) (by rw [htk,List.length_append,hti];simp)
   rw [htk] at this
   have e:(rows.take i ++ [rows.getD i []]).getD i [] = rows.getD i []:=by
    have:=zCo (xs:=rows.take i) (v:=rows.getD i [])
    rw [hti] at this;exact this
   rw [e,← htk] at this;exact this
  by_cases hkn:k = n
  ·
   refine ⟨(out,((i + 1:Nat):Int)),?_,out,pv,rfl,h,⟨fun a ha => hup _ (hs.1 a ha),fun a ha => ?_⟩,by omega,by omega⟩
   ·unfold zOr
    simp only
    rw [yQ hi,zJ,yD [] hi]
    simp only [bs,hcl,k2]
    rw [hw.1,zJU (by omega),zJ,zD (by omega) (by omega),bs,cs]
   ·rw [htk,List.length_append,hti,List.length_singleton] at ha
    rw [htk]
    rcases Nat.lt_or_ge a i with g | g
    ·rw [zCn (by omega)];exact hs.2 a (by omega)
    ·have:a = i:=by omega
     subst this
     have e:(rows.take a ++ [rows.getD a []]).getD a [] = rows.getD a []:=by
      have:=zCo (xs:=rows.take a) (v:=rows.getD a [])
      rw [hti] at this;exact this
     rw [e]
     refine zLz (out:=out) (cf:=fun q => -1 * cf q) (fun a ha => sT ha) fun j hj => ?_
     have h1:=hcf j hj
     rw [k3 j (by omega)] at h1
     rw [wU (g:=fun q => -1 * (cf q * ent out q j)) (fun q _ => by rw [Int.mul_assoc]),zEr]
     have h2:(at0 (rows.getD a []) j + S out.length fun q => cf q * ent out q j) % p = 0:=by rw [← h1];rfl
     rw [show at0 (rows.getD a []) j = (at0 (rows.getD a []) j + S out.length fun q => cf q * ent out q j) + -1 * (S out.length fun q => cf q * ent out q j) from by omega,Int.add_emod,h2,Int.zero_add,Int.emod_emod]
  ·have hk:k < n:=by omega
   have hwk:=hw.2 k hk
   have hne:=k4 hk
   obtain ⟨r,r1,r2,r3,r4⟩:=zQd hp (x:=at0 (cl p n out pv (rows.getD i []) out.length) k) (by omega) (by omega)
   have hsc:=zGx hp hn hw r2 r3
   have hu:Row p n (mkv n fun j => (at0 (cl p n out pv (rows.getD i []) out.length) j * r) % p):=⟨zZ _ _,fun j hj => by
    have e1:=Int.emod_nonneg (at0 (cl p n out pv (rows.getD i []) out.length) j * r) (show p ≠ 0 by omega)
    have e2:=Int.emod_lt_of_pos (at0 (cl p n out pv (rows.getD i []) out.length) j * r) (show 0 < p by omega)
    rw [yE hj];omega⟩
   have ua:∀ j,j < n → at0 (mkv n fun j => (at0 (cl p n out pv (rows.getD i []) out.length) j * r) % p) j = (at0 (cl p n out pv (rows.getD i []) out.length) j * r) % p:=fun j hj => yE hj
   generalize mkv n (fun j => (at0 (cl p n out pv (rows.getD i []) out.length) j * r) % p) = u at hsc hu ua
   have u1:at0 u k = 1:=by rw [ua k hk];exact r4
   have ul:∀ j,j < k → at0 u j = 0:=fun j hj => by rw [ua j (by omega),k3 j hj];simp
   have up:∀ a,a < out.length → at0 u (pv a) = 0:=fun a ha => by rw [ua _ (h.lt a ha),hpz a ha];simp
   obtain ⟨q,⟨hq,hq2⟩,hmin⟩:=zA1 (p:=fun q => q ≤ out.length ∧ (q < out.length → k < pv q)) ⟨out.length,Nat.le_refl _,fun g => by omega⟩
   have q1:∀ a,a < q → pv a < k:=fun a ha => by
    have h1:¬ (k < pv a):=fun g => hmin a ha ⟨by omega,fun _ => g⟩
    have h2:pv a ≠ k:=fun e => by
     have:=up a (by omega)
     rw [e,u1] at this;cases this
    omega
   have q2:∀ a,q ≤ a → a < out.length → k < pv a:=fun a ha ha2 => by
    have h1:=hq2 (by omega)
    rcases Nat.lt_or_ge q a with g | g
    ·have:=h.mono q a g ha2;omega
    ·rw [show a = q from by omega];exact h1
   have hins:=zJX hp h hu hk u1 ul up hq q1 q2 hn (by omega) (x:=(i:Int))
   have hred:=zLy hp h hu hk u1 ul up hq q1 q2
   obtain ⟨s1,s2,s3⟩:=zNV hp h hu hk u1 ul up hq q1 q2
   refine ⟨(mkR (out.length + 1) (tF p n out u k q),((i + 1:Nat):Int)),?_,_,_,rfl,hred,⟨fun a ha => ?_,fun a ha => ?_⟩,by rw [tE];omega,by omega⟩
   ·unfold zOr
    simp only
    rw [yQ hi,zJ,yD [] hi]
    simp only [bs,hcl,k2]
    rw [hw.1,zJV (by omega),zF,yF (by rw [hw.1];exact hk)]
    simp only [bs,r1,hsc]
    cases hlo:zH (zHb p (out,(i:Int)) (k:Int) u) ([],false,0) with
    | none => rw [hlo] at hins;cases hins
    | some r32 =>
     rw [hlo,bs] at hins
     simp only [bs]
     obtain ⟨a1,a2⟩:=r32
     cases a2 with
     | true =>
      simp only [Bool.not_true,zF] at hins ⊢
      rw [zD (by omega) (by omega),bs,cs,Option.some.inj hins]
     | false =>
      simp only [Bool.not_false,zJ] at hins ⊢
      cases hap:xQ a1 [u] with
      | none => rw [hap] at hins;cases hins
      | some v33 =>
       rw [hap,bs] at hins
       simp only [bs]
       rw [zD (by omega) (by omega),bs,cs,Option.some.inj hins]
   ·rw [tE] at ha
    rw [qQ ha]
    refine jF (fun b hb => ?_) (s1 a ha)
    rw [List.length_append,List.length_singleton] at hb
    rcases Nat.lt_or_ge b out.length with g | g
    ·rw [zCn g];exact hup _ (hs.1 b g)
    ·rw [show b = out.length from by omega,zCo]
     have hwS:Sp p n (rows.take (i + 1)) (cl p n out pv (rows.getD i []) out.length):=by
      have hcS:Sp p n (rows.take (i + 1)) (mkv n fun j => S out.length fun k => cf k * ent out k j):=zLz (out:=out) (cf:=cf) (fun b hb => hup _ (hs.1 b hb)) fun j hj => by rw [yE hj]
      refine sU (k:=1) hvs hcS fun j hj => ?_
      rw [hcf j hj,yE hj,Int.one_mul]
     refine sU (k:=r) (zAg (u:=[]) fun j _ => by simp [at0]) hwS fun j hj => ?_
     rw [ua j hj,Int.emod_emod,show at0 ([]:List Int) j = 0 from by simp [at0],Int.zero_add,Int.mul_comm]
   ·rw [htk,List.length_append,hti,List.length_singleton] at ha
    rw [htk]
    rcases Nat.lt_or_ge a i with g | g
    ·rw [zCn (by omega)]
     exact jF s2 (hs.2 a (by omega))
    ·have hai:a = i:=by omega
     subst hai
     have e:(rows.take a ++ [rows.getD a []]).getD a [] = rows.getD a []:=by
      have:=zCo (xs:=rows.take a) (v:=rows.getD a [])
      rw [hti] at this;exact this
     rw [e]
     have hwS:Sp p n (mkR (out.length + 1) (tF p n out u k q)) (cl p n out pv (rows.getD a []) out.length):=by
      refine sU (k:=at0 (cl p n out pv (rows.getD a []) out.length) k) (zAg (u:=[]) fun j _ => by simp [at0]) s3 fun j hj => ?_
      rw [ua j hj,show at0 ([]:List Int) j = 0 from by simp [at0],Int.zero_add]
      rw [Int.mul_emod,Int.emod_emod,← Int.mul_emod,← Int.mul_assoc,Int.mul_comm (at0 (cl p n out pv (rows.getD a []) out.length) k),Int.mul_assoc,Int.mul_emod,r4,Int.mul_one,Int.emod_emod]
     have hcS:Sp p n (mkR (out.length + 1) (tF p n out u k q)) (mkv n fun j => S out.length fun k => cf k * ent out k j):=zLz (out:=out) (cf:=cf) s2 fun j hj => by rw [yE hj]
     refine sU (k:=-1) hwS hcS fun j hj => ?_
     rw [yE hj,Int.add_emod,hcf j hj,← Int.add_emod]
     congr 1;omega
 ·obtain ⟨out,pv,rfl,h,hs,hl,_⟩:=hI
  refine ⟨out,?_,pv,⟨h,hl⟩,by rw [List.take_length] at hs;exact hs⟩
  unfold zOr
  simp only
  rw [xD,zF]
theorem zJY:∃ R pv,f_m p rows = some R ∧ Red p n R pv ∧ sK p n R rows:=by
 obtain ⟨R,pv,h1,h2,h3⟩:=zDD hp hn hm hr
 exact ⟨R,pv,h1,h2.1,h3⟩
theorem zGy {R:Mx} {pv:Nat → Nat} (h:Red p n R pv) (hs:sK p n R rows):R.length ≤ rows.length:=by
 have h7:=hp.pos
 obtain ⟨R',pv',_,h2,h3⟩:=zDD hp hn hm hr
 rw [h.unique (by omega) h2.1 (hs.trans h3.symm)];exact h2.2
theorem zBS:∃ R pv,f_m p rows = some R ∧ f_g p rows = some R ∧ Red p n R pv ∧ sK p n R rows:=by
 have h7:=hp.pos
 obtain ⟨R,pv,h1,h2,h3⟩:=zJY hp hn hm hr
 obtain ⟨R',pv',g1,g2,g3⟩:=zJW hp hn hm hr
 have e:=h2.unique (by omega) g2 (h3.trans g3.symm)
 exact ⟨R,pv,h1,by rw [e];exact g1,h2,h3⟩
end
end Go.Pl

namespace Go.Pl
open Go Go.Ab Go.Wk Go.Pc
theorem kP {β:Type} {body:List β × Int → Option ((List β × Int) ⊕ List β)} (n:Nat) (F:Nat → β) (h:∀ i acc,i < n → acc.length = i → body (acc,(i:Int)) = some (.inl (acc ++ [F i],((i + 1:Nat):Int)))) (he:∀ acc,body (acc,(n:Int)) = some (.inr acc)) :
  zH body ([],0) = some ((List.range n).map F):=by
 have:=zO (body:=body) (r:=(List.range n).map F) (fun i => ((List.range i).map F,(i:Int))) n (fun i hi => by
  rw [h i _ hi (by simp),List.range_succ,List.map_append];rfl) (he _)
 exact this
theorem zHH {xs:Mx} (hx:xs.length ≤ 100000) (hf:xs.flatten.length ≤ 1000000):f_V xs = some xs.flatten:=by
 unfold f_V
 have:=zO (body:=zRQ xs) (r:=xs.flatten) (fun i => ((xs.take i).flatten,(i:Int))) xs.length (fun i hi => by
  have h1:=zEw hi
  have h2:=zI1 (xs:=xs) (i + 1)
  have h3:=congrArg List.length h1
  rw [List.length_append] at h3
  unfold zRQ
  simp only
  rw [yQ hi,zJ,yD [] hi,bs,yM (by omega),bs,zD (by omega) (by omega),bs,cs,h1]) (by
  unfold zRQ
  simp only
  rw [xD,zF,List.take_length])
 rw [show ((0:Nat):Int) = 0 from rfl,List.take_zero] at this
 simp only [List.flatten_nil] at this
 rw [this,bs]
theorem zFf {p:Int} {L:Nat} {v:List Int}:Row p L v ↔ v.length = L ∧ ∀ a ∈ v,0 ≤ a ∧ a ≤ p - 1:=by
 constructor
 ·rintro ⟨h1,h2⟩
  refine ⟨h1,fun a ha => ?_⟩
  obtain ⟨i,hi,rfl⟩:=List.mem_iff_getElem.1 ha
  have:=h2 i (by omega)
  simpa [at0,List.getD_eq_getElem?_getD,List.getElem?_eq_getElem hi] using this
 ·rintro ⟨h1,h2⟩
  refine ⟨h1,fun i hi => ?_⟩
  have:=h2 v[i] (List.getElem_mem (by omega))
  simpa [at0,List.getD_eq_getElem?_getD,List.getElem?_eq_getElem (show i < v.length by omega)] using this
theorem zDE {D:Nat}:∀ {xs:Mx},(∀ r ∈ xs,r.length = D) → xs.flatten.length = xs.length * D
 | [],_ => by simp
 | x :: xs,h => by
  have:=zDE (xs:=xs) fun r hr => h r (by simp [hr])
  have:=h x (by simp)
  simp only [List.flatten_cons,List.length_append,List.length_cons,Nat.add_mul];omega
theorem zQf {p:Int} {D:Nat} {xs:Mx} (h:∀ r ∈ xs,Row p D r):Row p (xs.length * D) xs.flatten:=by
 refine zFf.2 ⟨zDE fun r hr => (h r hr).1,fun a ha => ?_⟩
 obtain ⟨r,hr,ha⟩:=List.mem_flatten.1 ha
 exact (zFf.1 (h r hr)).2 a ha
def sJ (D k:Nat):List Int:=mkv D fun j => if j = k then 1 else 0
theorem zNW {p:Int} {D k:Nat} (hp:2 ≤ p):Row p D (sJ D k):=⟨zZ _ _,fun i hi => by
 rw [sJ,yE hi];split <;> omega⟩
theorem zBr {D k:Nat} (hk:k < D) (hD:D ≤ 1000000):zID (D:Int) (k:Int) = some (sJ D k):=by
 unfold zID
 rw [yT (by omega),bs,yF (by simp;exact hk),bs,Int.toNat_natCast]
 congr 1
 rw [tL,qO,sJ]
end Go.Pl

namespace Go.Pl
open Go Go.Ab Go.Wk Go.Pc
abbrev gl {β:Type} (m:Nat) (F:Nat → β):List β:=(List.range m).map F
theorem xX {β:Type} {m:Nat} {F:Nat → β}:(gl m F).length = m:=by simp [gl]
theorem zGz {β:Type} {m:Nat} {F:Nat → β} {i:Nat} (h:i < m):ixO (gl m F) (i:Int) = some (F i):=by
 rw [jU (by rw [xX];exact h)];simp [gl]
theorem tY {β:Type} {m:Nat} {F G:Nat → β} (h:∀ i,i < m → F i = G i):gl m F = gl m G:=List.map_congr_left fun i hi => h i (List.mem_range.1 hi)
theorem zL0 {β:Type} {m:Nat} {F:Nat → β} {i:Nat} {a:β}:(gl m F).set i a = gl m (fun k => if k = i then a else F k):=by
 apply List.ext_getElem?
 intro k
 by_cases hk:k < m
 ·by_cases h:i = k
  ·subst h;simp [gl,hk]
  ·rw [List.getElem?_set_ne h];simp [gl,hk,Ne.symm h]
 ·rw [List.getElem?_eq_none (by simp [gl];omega),List.getElem?_eq_none (by simp [gl];omega)]
theorem zAh {β:Type} {m:Nat} {F:Nat → β}:gl m F ++ [F m] = gl (m + 1) F:=by simp [gl,List.range_succ]
def base (n i:Nat):Nat:=n + i * n - i * (i + 1) / 2
theorem zNX:∀ n,n < 7 → ∀ i,i < n → base n (i + 1) = base n i + (n - 1 - i):=by decide
theorem zFg:∀ n,n < 7 → ∀ i,i < n → base n i + (n - 1 - i) ≤ base n n:=by decide
theorem sV:∀ n,n < 7 → n ≤ base n n ∧ base n n ≤ 21 ∧ base n 0 = n:=by decide
theorem zL1:∀ n:Nat,n < 7 → ∀ j:Nat,j < n → ∀ i:Nat,i < j → zV2 (n:Int) (i:Int) (j:Int) = some ((base n i + (j - i - 1):Nat):Int):=by decide +kernel
def exP (n D:Nat) (x:SPr) (T:Mx) (i:Nat):List Int:=if i < n then x.zU.getD i [] ++ T.getD i [] else List.replicate (n + D) 0
def exF (n:Nat) (x:SPr) (m:zC) (T:Mx) (i j:Nat):List Int:=if j < n - 1 - i then (x.zB.getD i []).getD j [] ++ T.getD (base n i + j) [] else List.replicate n 0 ++ (m.zI.getD i []).getD (j - (n - 1 - i)) []
def unC (N i:Nat):Mx:=gl (N - 1 - i) fun j => sJ N (i + 1 + j)
def exC (n D:Nat) (x:SPr) (m:zC) (T:Mx) (i:Nat):Mx:=if i < n then gl (n + D - 1 - i) (exF n x m T i) else unC (n + D) i
def ext (n D:Nat) (x:SPr) (m:zC) (T:Mx):SPr:=⟨x.zA ++ List.replicate D m.Prime,gl (n + D) (exP n D x T),gl (n + D) (exC n D x m T)⟩
structure zG0 (n D:Nat) (x:SPr) (m:zC) (T:Mx):Prop where
 hn:n ≤ 6
 o:x.zA.length = n
 p:x.zU.length = n
 c:x.zB.length = n
 cl:∀ i,i < n → (x.zB.getD i []).length = n - 1 - i
 pl:∀ i,(x.zU.getD i []).length ≤ 6
 ce:∀ i j,((x.zB.getD i []).getD j []).length ≤ 6
 t:T.length = base n n
 tl:∀ i,(T.getD i []).length ≤ 3
 m:MOk n m D
end Go.Pl

namespace Go.Pl
open Go Go.Ab Go.Wk Go.Pc
theorem zNf {a b:List Int} (ha:a.length ≤ 1000) (hb:b.length ≤ 1000):f_r [a,b] = some (a ++ b):=by
 rw [zAf (by simp) (by simp;omega)];simp
theorem zNY {O:List Int} {N:Nat} (hO:O.length = N) (hN:N ≤ 100):f_y O = some ⟨O,gl N (fun _ => List.replicate N 0),gl N (unC N)⟩:=by
 have hin:∀ i,i < N → zH (zOt O) ([],((i + 1:Nat):Int)) = some (unC N i):=fun i hi => by
  have:=zO (body:=zOt O) (r:=unC N i) (fun j => (gl j fun j => sJ N (i + 1 + j),((i + 1 + j:Nat):Int))) (N - 1 - i) (fun j hj => by
   unfold zOt
   simp only
   rw [hO,yQ (by omega),zJ,zBr (by omega) (by omega),bs,yM (by rw [xX];simp;omega),bs,zD (by omega) (by omega),bs,cs,zAh (F:=fun j => sJ N (i + 1 + j))];rfl) (by
   unfold zOt
   simp only
   rw [hO,show i + 1 + (N - 1 - i) = N from by omega,xD,zF,unC])
  exact this
 have:=zO (body:=zOu O) (r:=(gl N (fun _ => List.replicate N 0),gl N (unC N))) (fun i => (gl i (fun _ => List.replicate N (0:Int)),gl i (unC N),((i:Nat):Int))) N (fun i hi => by
  unfold zOu
  simp only
  rw [hO,yQ hi,zJ,yT (by omega),bs,yM (by rw [xX];simp;omega),bs,zD (by omega) (by omega),bs,cs,hin i hi,bs,yM (by rw [xX];simp;omega),bs,bs,zAh (F:=unC N),zAh (F:=fun _ => List.replicate N (0:Int))]) (by
  unfold zOu
  simp only
  rw [hO,xD,zF])
 unfold f_y
 rw [qJ (by omega),bs]
 have e:zH (zOu O) ([],[],0) = some (gl N (fun _ => List.replicate N 0),gl N (unC N)):=this
 rw [e,bs]
section
variable {n D:Nat} {x:SPr} {m:zC} {T:Mx} (h:zG0 n D x m T)
 include h
def exG (n N:Nat) (x:SPr) (m:zC) (T:Mx) (i t q:Nat):List Int:=if q < t then exF n x m T i q else sJ N (i + 1 + q)
def exE (n D:Nat) (x:SPr) (m:zC) (T:Mx) (i t k:Nat):Mx:=if k < i then exC n D x m T k else if k = i then gl (n + D - 1 - i) (exG n (n + D) x m T i t) else unC (n + D) k
theorem zL2 {i t:Nat}:exE n D x m T i t i = gl (n + D - 1 - i) (exG n (n + D) x m T i t):=by
 have _:=h
 rw [exE,if_neg (by omega),if_pos rfl]
theorem zNg {i t:Nat}:(gl (n + D) (exE n D x m T i t)).set i ((gl (n + D - 1 - i) (exG n (n + D) x m T i t)).set t (exF n x m T i t)) = gl (n + D) (exE n D x m T i (t + 1)):=by
 have _:=h
 rw [zL0,zL0]
 refine tY fun k _ => ?_
 by_cases hk:k = i
 ·subst hk
  rw [if_pos rfl,zL2 h]
  refine tY fun q _ => ?_
  simp only [exG]
  by_cases hq:q = t
  ·subst hq;rw [if_pos rfl,if_pos (by omega)]
  ·rw [if_neg hq]
   by_cases h2:q < t
   ·rw [if_pos h2,if_pos (by omega)]
   ·rw [if_neg h2,if_neg (by omega)]
 ·rw [if_neg hk,exE,exE,if_neg hk,if_neg hk]
theorem zG1 {i k:Nat}:exE n D x m T i 0 k = if k < i then exC n D x m T k else unC (n + D) k:=by
 have _:=h
 rw [exE]
 by_cases h1:k < i
 ·rw [if_pos h1,if_pos h1]
 ·rw [if_neg h1,if_neg h1]
  by_cases h2:k = i
  ·subst h2
   rw [if_pos rfl]
   exact tY fun q _ => by rw [exG,if_neg (by omega)]
  ·rw [if_neg h2]
theorem zQg {i:Nat} (hi:i < n):gl (n + D) (exE n D x m T i (n + D - 1 - i)) = gl (n + D) (exE n D x m T (i + 1) 0):=by
 refine tY fun k _ => ?_
 rw [zG1 h,exE]
 by_cases h1:k < i
 ·rw [if_pos h1,if_pos (by omega)]
 ·rw [if_neg h1]
  by_cases h2:k = i
  ·subst h2
   rw [if_pos rfl,if_pos (by omega),exC,if_pos hi]
   exact tY fun q hq => by rw [exG,if_pos hq]
  ·rw [if_neg h2,if_neg (by omega)]
theorem zWW {i:Nat} (hi:i < n) {C:List Mx} {w:Int}:zH (zOw T (C,w,(i:Int)) (x.zB.getD i [])) (gl (n + D) (exE n D x m T i 0),((base n i:Nat):Int),0) = some (gl (n + D) (exE n D x m T i (n - 1 - i)),((base n (i + 1):Nat):Int)):=by
 have h6:=h.hn
 have h3:=h.m.d3
 have hc:=h.cl i hi
 have hb:=zFg n (by omega) i hi
 have hbb:=sV n (by omega)
 have:=zO (body:=zOw T (C,w,(i:Int)) (x.zB.getD i [])) (r:=(gl (n + D) (exE n D x m T i (n - 1 - i)),((base n (i + 1):Nat):Int))) (fun j => (gl (n + D) (exE n D x m T i j),((base n i + j:Nat):Int),((j:Nat):Int))) (n - 1 - i) (fun j hj => by
  have a1:=h.ce i j
  have a2:=h.tl (base n i + j)
  have e:exF n x m T i j = (x.zB.getD i []).getD j [] ++ T.getD (base n i + j) []:=if_pos hj
  unfold zOw
  simp only
  rw [hc,yQ hj,zJ,yD [] (by omega),bs,zGz (by omega),bs,yD [] (by rw [h.t];omega),bs,zNf (by omega) (by omega),bs,zL2 h,zGz (by omega),bs,zD (by omega) (by omega),bs,zD (by omega) (by omega),bs,cs,cs,← e,Int.toNat_natCast,Int.toNat_natCast,zNg h];rfl) (by
  unfold zOw
  simp only
  rw [hc,xD,zF,zNX n (by omega) i hi])
 exact this
theorem zWX {i:Nat} (hi:i < n) {C:List Mx} {w:Int}:zH (zOx x (C,w,(i:Int)) (m.zI.getD i [])) (gl (n + D) (exE n D x m T i (n - 1 - i)),0) = some (gl (n + D) (exE n D x m T (i + 1) 0)):=by
 have h6:=h.hn
 have h3:=h.m.d3
 have hmt:=h.m.mat i hi
 have:=zO (body:=zOx x (C,w,(i:Int)) (m.zI.getD i [])) (r:=gl (n + D) (exE n D x m T (i + 1) 0)) (fun j => (gl (n + D) (exE n D x m T i (n - 1 - i + j)),((j:Nat):Int))) D (fun j hj => by
  have e:exF n x m T i (n - 1 - i + j) = List.replicate n 0 ++ (m.zI.getD i []).getD j []:=by
   rw [exF,if_neg (by omega),show n - 1 - i + j - (n - 1 - i) = j from by omega]
  have hr:=(hmt.2 j hj).1
  unfold zOx
  simp only
  rw [hmt.1,yQ hj,zJ,yD [] (by rw [hmt.1];exact hj),bs,zGz (by omega),bs,h.o,zD (by omega) (by omega),bs,zD (by omega) (by omega),bs,zD (by omega) (by omega),bs,show (0:Int) = ((0:Nat):Int) from rfl,zJR (by omega) (by omega) (by omega),bs,
   show (n:Int) - 1 - (i:Int) + (j:Int) = ((n - 1 - i + j:Nat):Int) from by omega,zL2 h,zGz (by omega),bs,zD (by omega) (by omega),bs,cs,List.replicate_zero,List.append_nil,← e,Int.toNat_natCast,Int.toNat_natCast,zNg h];rfl) (by
  unfold zOx
  simp only
  rw [hmt.1,xD,zF,show n - 1 - i + D = n + D - 1 - i from by omega,zQg h hi])
 exact this
theorem zWY:zH (zOy x m T) (gl (n + D) (unC (n + D)),((n:Nat):Int),0) = some (gl (n + D) (exC n D x m T)):=by
 have h6:=h.hn
 have h3:=h.m.d3
 have hbb:=sV n (by omega)
 have:=zO (body:=zOy x m T) (r:=gl (n + D) (exC n D x m T)) (fun i => (gl (n + D) (exE n D x m T i 0),((base n i:Nat):Int),((i:Nat):Int))) n (fun i hi => by
  unfold zOy
  simp only
  rw [h.o,yQ hi,zJ,yD [] (by rw [h.c];exact hi),bs,zWW h hi,bs,yD [] (by rw [h.m.len];exact hi),bs,zWX h hi,bs,zD (by omega) (by omega),bs,cs]) (by
  unfold zOy
  simp only
  rw [h.o,xD,zF]
  congr 2
  refine tY fun k _ => ?_
  rw [zG1 h,exC]
  by_cases hk:k < n
  ·rw [if_pos hk,if_pos hk]
  ·rw [if_neg hk,if_neg hk])
 have e:gl (n + D) (exE n D x m T 0 0) = gl (n + D) (unC (n + D)):=tY fun k _ => by rw [zG1 h,if_neg (by omega)]
 rw [e,hbb.2.2] at this
 exact this
theorem zWZ:zH (zOv x T) (gl (n + D) (fun _ => List.replicate (n + D) 0),0,0) = some (gl (n + D) (exP n D x T),((n:Nat):Int)):=by
 have h6:=h.hn
 have h3:=h.m.d3
 have hbb:=sV n (by omega)
 have:=zO (body:=zOv x T) (r:=(gl (n + D) (exP n D x T),((n:Nat):Int))) (fun i => (gl (n + D) (fun k => if k < i then exP n D x T k else List.replicate (n + D) 0),((i:Nat):Int),((i:Nat):Int))) n (fun i hi => by
  have a1:=h.pl i
  have a2:=h.tl i
  have e:exP n D x T i = x.zU.getD i [] ++ T.getD i []:=if_pos hi
  unfold zOv
  simp only
  rw [h.p,yQ hi,zJ,yD [] (by rw [h.p];exact hi),bs,yD [] (by rw [h.t];omega),bs,zNf (by omega) (by omega),bs,zGz (by omega),bs,zD (by omega) (by omega),bs,bs,cs,← e,Int.toNat_natCast,zL0]
  congr 3
  refine tY fun k _ => ?_
  by_cases hk:k = i
  ·subst hk;rw [if_pos rfl,if_pos (by omega)]
  ·rw [if_neg hk]
   by_cases h2:k < i
   ·rw [if_pos h2,if_pos (by omega)]
   ·rw [if_neg h2,if_neg (by omega)]) (by
  unfold zOv
  simp only
  rw [h.p,xD,zF]
  congr 3
  refine tY fun k _ => ?_
  by_cases hk:k < n
  ·rw [if_pos hk]
  ·rw [if_neg hk,exP,if_neg hk])
 have e:gl (n + D) (fun k => if k < 0 then exP n D x T k else List.replicate (n + D) 0) = gl (n + D) (fun _ => List.replicate (n + D) 0):=tY fun k _ => if_neg (by omega)
 rw [e] at this
 exact this
theorem zS7 {v:Int}:f_i [v] 1 = some [v]:=by
 have _:=h
 unfold f_i
 have h1:=zO (body:=jI) (r:=[v]) (fun _ => ([v],1)) 0 (fun i hi => absurd hi (by omega)) (by simp [jI])
 rw [zPY (by decide +kernel),bs]
 have hl:yZ (IntKind.wrap .i64 1) = some 1:=by decide +kernel
 simp only [hl,bs]
 rw [show decide ((1:Int) < 0) = false from rfl,zF,show decide ((0:Int) > 0) = false from rfl,zF,show decide ((1:Int) > 9223372036854775807) = false from by decide,zF]
 have e2:xW (List.replicate 1 (0:Int)) 0 (([v]:List Int).take ((List.replicate 1 (0:Int)).length - 0)) = [v]:=by simp [xW,List.replicate]
 have e3:((min ([v]:List Int).length ((List.replicate 1 (0:Int)).length - 0):Nat):Int) = 1:=by simp
 rw [e2,e3]
 have h':zH jI ([v],1) = _:=h1
 rw [h',bs]
theorem zS8 {v:Int}:f_i [v] m.Dim = some (List.replicate D v):=by
 have h1:=h.m.d1
 have h3:=h.m.d3
 rw [h.m.d]
 have:D = 1 ∨ D = 2 ∨ D = 3:=by omega
 rcases this with rfl | rfl | rfl
 ·exact zS7 h
 ·exact zBQ (.inl rfl)
 ·exact zBQ (.inr (.inl rfl))
theorem zQh:f_j x m T = some (ext n D x m T):=by
 have h6:=h.hn
 have h3:=h.m.d3
 unfold f_j
 rw [qJ (by rw [h.o];omega),bs,zS8 h,bs,yM (by rw [h.o];simp;omega),bs,zNY (N:=n + D) (by rw [List.length_append,h.o];simp) (by omega),bs]
 simp only
 rw [zWZ h,bs,zWY h,bs]
 rfl
end
end Go.Pl

namespace Go.Pl
open Go Go.Ab Go.Wk Go.Pc
theorem zUa {α:Type} {c:α → Nat} {b:Nat}:∀ {xs:List α},(∀ x ∈ xs,c x ≤ b) → sm c xs ≤ xs.length * b
 | [],_ => by simp [sm]
 | x :: xs,h => by
  have h1:=zUa (xs:=xs) fun y hy => h y (by simp [hy])
  have h2:=h x (by simp)
  simp only [sm,List.length_cons,Nat.succ_mul];omega
theorem zL3 {xs:Mx} {b:Nat} (h:∀ i,i < xs.length → (xs.getD i []).length ≤ b) (i:Nat):(xs.getD i []).length ≤ b:=by
 rcases Nat.lt_or_ge i xs.length with g | g
 ·exact h i g
 ·rw [List.getD_eq_getElem?_getD,List.getElem?_eq_none g];simp
theorem zL4 {x:SPr} {n:Nat} (ho:x.zA.length = n) (hn:n ≤ 6):zTm x = some ((base n n:Nat):Int):=by
 unfold zTm
 rw [ho]
 have key:∀ n:Nat,n < 7 → ((rng ((n:Int) - 1)).bind fun v1 => (rng ((n:Int) * v1)).bind fun v2 => (tV v2 2).bind fun v3 => (rng ((n:Int) + v3)).bind fun v4 => some v4) = some ((base n n:Nat):Int):=by decide +kernel
 exact key n (by omega)
theorem zL5 {x:SPr} {n:Nat} (ho:x.zA.length = n) (hn:n ≤ 6):zTn x = some ((base n n:Nat):Int):=by
 unfold zTn
 rw [ho]
 have key:∀ n:Nat,n < 7 → ((rng ((n:Int) + 1)).bind fun v1 => (rng ((n:Int) * v1)).bind fun v2 => (tV v2 2).bind fun v3 => some v3) = some ((base n n:Nat):Int):=by decide +kernel
 exact key n (by omega)
theorem zG0.of {x:SPr} {m:zC} {D:Nat} {T:Mx} (hx:zGi x) (hm:MOk x.zA.length m D) (ht:T.length = base x.zA.length x.zA.length) (htl:∀ i,(T.getD i []).length ≤ 3):zG0 x.zA.length D x m T:=by
 have h6:=hx.n6
 refine ⟨h6,rfl,hx.pl,hx.cl,fun i hi => by have:=(hx.tl i hi).2.1;omega,zL3 fun i hi => ?_,fun i => ?_,ht,htl,hm⟩
 ·have:=(hx.tl i (by rw [← hx.pl];exact hi)).1.1.1
  omega
 ·rcases Nat.lt_or_ge i x.zA.length with g | g
  ·refine zL3 fun j hj => ?_
   have:=((hx.tl i g).2.2 j hj).1.1
   omega
  ·have e:x.zB.getD i [] = []:=by rw [List.getD_eq_getElem?_getD,List.getElem?_eq_none (by rw [hx.cl];exact g)];rfl
   rw [e];simp
end Go.Pl

namespace Go.Pl
open Go Go.Ab Go.Wk Go.Pc
def zQi (x:SPr):Nat:=c1 x.zA + sm c1 x.zU + sm (sm c1) x.zB
def zUb (x:SPr) (k:Int):SPr:=⟨m1 k x.zA,m2 (k + c1 x.zA) x.zU,m3 (k + c1 x.zA + sm c1 x.zU) x.zB⟩
theorem zNh {x:SPr} (h:zBG x):zQi x ≤ 3145728:=by
 obtain ⟨h1,h2,h3⟩:=h
 have g2:=zGe (x:=x.zU)
 have g3:=zLg (x:=x.zB)
 simp only [S1] at h1
 simp only [S2] at h2
 simp only [S3] at h3
 simp only [zQi];omega
theorem zCw {x:SPr} {k:Int} (h:zBG x) (k0:0 ≤ k) (k1:k ≤ 1000000000):zTg x k = some (k + zQi x,zUb x k):=by
 have ht:=zNh h
 simp only [zQi] at ht
 unfold zTg
 rw [zFZ h.1 k0 (by omega),bs,jA h.2.1 (by simp only;omega) (by simp only;omega),bs,zD1 h.2.2 (by simp only;omega) (by simp only;omega),bs]
 simp only [zQi,zUb,Int.natCast_add,Int.add_assoc]
end Go.Pl

namespace Go.Pl
open Go Go.Ab Go.Wk Go.Pc
end Go.Pl

namespace Go.Pl
open Go Go.Ab Go.Wk Go.Pc
end Go.Pl

namespace Go.Pl
open Go Go.Ab Go.Wk Go.Pc
theorem zL6 {v:List Int} {k:Nat} (hl:v.length ≤ 1000000) (hk:k < v.length) (h0:∀ j,j < k → at0 v j = 0) (h1:at0 v k ≠ 0):zTv v = some (k:Int):=by
 unfold zTv
 have:=zO (body:=zHO v) (r:=.inr (k:Int)) (fun i => (i:Int)) k (fun i hi => by
  unfold zHO zTu
  rw [yQ (by omega),zJ,yF (by omega),bs,bs,h0 i hi,bne_self_eq_false,zF,zD (by omega) (by omega),bs,cs]) (by
  unfold zHO zTu
  rw [yQ hk,zJ,yF hk,bs,bs,qA h1,zJ])
 have e:zH (zHO v) 0 = some (.inr (k:Int)):=this
 rw [e,bs]
section
variable {p:Int} (hp:Prime p) {n:Nat} (hn:n ≤ 100000) {R:Mx} {pv:Nat → Nat} (h:Red p n R pv) {v:List Int} (hv:Row p n v)
 include hp hn h
theorem zJZ (hm:R.length ≤ 100000):zTw R = some (gl R.length fun i => (pv i:Int)):=by
 have h7:=hp.pos
 unfold zTw
 rw [kP (body:=zKD R) R.length (fun i => (pv i:Int)) (fun i acc hi ha => by
  have hr:=h.row i hi
  have h1:=h.one i hi
  unfold zKD
  simp only
  rw [yQ hi,zJ,yD [] hi,bs,zL6 (k:=pv i) (by rw [hr.1];omega) (by rw [hr.1];exact h.lt i hi) (fun j hj => h.low i hi j hj) (by simp only [ent] at h1;omega),bs,yM (by simp;omega),bs,zD (by omega) (by omega),bs,cs]) (fun acc => by
  unfold zKD
  simp only
  rw [xD,zF]),bs]
 include hv
theorem zQj {i:Nat} (hi:i < R.length):wY p n (cl p n R pv v i) (0 - at0 (cl p n R pv v i) (pv i)) (R.getD i []) = cl p n R pv v (i + 1):=by
 have _:=hp;have _:=hn;have _:=h;have _:=hv;have _:=hi
 rw [cl]
 refine zY fun j _ => ?_
 generalize at0 (cl p n R pv v i) (pv i) = a
 generalize at0 (R.getD i []) j = b
 rw [Int.sub_mul,Int.sub_mul,Int.zero_mul]
 have e:at0 (cl p n R pv v i) j + (p * b - a * b) = at0 (cl p n R pv v i) j + (0 - a * b) + p * b:=by omega
 rw [e,Int.add_mul_emod_self_left]
theorem zG2 {c:Int} (hm:R.length ≤ 100000):zTx (zV.mk p c R) v = some (cl p n R pv v R.length):=by
 have h7:=hp.pos
 have:=zO (body:=zHP (zV.mk p c R) (gl R.length fun i => (pv i:Int))) (r:=cl p n R pv v R.length) (fun i => (cl p n R pv v i,(i:Int))) R.length (fun i hi => by
  have hr:=zBR hp hn h hv i
  have ha:=hr.2 (pv i) (h.lt i hi)
  unfold zHP
  simp only
  rw [xX,yQ hi,zJ,zGz hi,bs,yD [] hi,bs,yF (by rw [hr.1];exact h.lt i hi),bs,zD (by omega) (by omega),bs,qI hp hr (h.row i hi) (by omega) (by omega),bs,zD (by omega) (by omega),bs,cs,zQj hp hn h hv hi]) (by
  unfold zHP
  simp only
  rw [xX,xD,zF])
 unfold zTx
 rw [qJ (by rw [hv.1];omega),bs]
 simp only
 rw [zJZ hp hn h hm,bs]
 have e:zH (zHP (zV.mk p c R) (gl R.length fun i => (pv i:Int))) (v,0) = some (cl p n R pv v R.length):=this
 rw [e,bs]
theorem zS9:(∀ j,j < n → at0 (cl p n R pv v R.length) j = 0) ↔ Sp p n R v:=by
 have h7:=hp.pos
 obtain ⟨cf,hcf⟩:=zNe hp hn h hv R.length (Nat.le_refl _)
 have hr:=zBR hp hn h hv R.length
 have hs:Sp p n R (mkv n fun j => S R.length fun k => cf k * ent R k j):=⟨cf,fun j hj => by rw [yE hj]⟩
 constructor
 ·intro h0
  refine sU (v:=mkv n fun _ => 0) (w:=mkv n fun j => S R.length fun k => cf k * ent R k j) (k:=-1) (zAg fun j hj => by rw [yE hj];rfl) hs fun j hj => ?_
  have h1:=hcf j hj
  rw [h0 j hj] at h1
  rw [yE hj,yE hj]
  generalize (S R.length fun k => cf k * ent R k j) = s at h1 ⊢
  have h2:(at0 v j + s) % p = 0:=by rw [← h1];rfl
  have h3:(at0 v j - (0 + -1 * s)) % p = 0:=by rw [← h2];congr 1;omega
  exact Int.emod_eq_emod_iff_emod_sub_eq_zero.2 h3
 ·intro hsp j hj
  have h1:Sp p n R (cl p n R pv v R.length):=sU (k:=1) hsp hs fun j hj => by rw [hcf j hj,yE hj,Int.one_mul]
  have h2:=h.expand h1 j hj
  rw [wU (g:=fun _ => 0) (fun i hi => by rw [zQe hp hn h hv R.length (Nat.le_refl _) i hi,Int.zero_mul]),jM] at h2
  have h3:=hr.2 j hj
  rw [Int.emod_eq_of_lt h3.1 (by omega)] at h2
  rw [h2];rfl
end
end Go.Pl

namespace Go.Pl
open Go Go.Ab Go.Wk Go.Pc
section
variable {p:Int} (hp:1 < p) {n:Nat} {R R':Mx} {pv pv':Nat → Nat} (h:Red p n R pv) (h':Red p n R' pv') (hs:∀ i,i < R.length → Sp p n R' (R.getD i []))
 include hp h h' hs
theorem Red.lt_of {i i2 k k2:Nat} (hii:i < i2) (hi2:i2 < R.length) (hk:k < R'.length) (e:pv' k = pv i) (e2:pv' k2 = pv i2):k < k2:=by
 have _:=hp;have _:=hs
 have h1:=h.mono i i2 hii hi2
 refine Classical.byContradiction fun hn => ?_
 rcases Nat.lt_or_ge k2 k with g | g
 ·have:=h'.mono k2 k g hk;omega
 ·have:k = k2:=by omega
  subst this;omega
theorem Red.low_in:∀ i,i < R.length → ∃ k,k < R'.length ∧ pv' k = pv i ∧ i ≤ k:=by
 intro i
 induction i with
 | zero => intro hi;obtain ⟨k,hk,e⟩:=h.piv_in hp h' hs hi;exact ⟨k,hk,e,by omega⟩
 | succ i ih =>
  intro hi
  obtain ⟨k,hk,e,hik⟩:=ih (by omega)
  obtain ⟨k2,hk2,e2⟩:=h.piv_in hp h' hs hi
  have:=h.lt_of hp h' hs (show i < i + 1 by omega) hi hk e e2
  exact ⟨k2,hk2,e2,by omega⟩
theorem Red.le_of:R.length ≤ R'.length:=by
 rcases Nat.eq_zero_or_pos R.length with g | g
 ·omega
 ·obtain ⟨k,hk,_,hik⟩:=h.low_in hp h' hs (R.length - 1) (by omega)
  omega
end
end Go.Pl

namespace Go.Pl
open Go Go.Ab Go.Wk Go.Pc
end Go.Pl

namespace Go.Pl
open Go Go.Ab Go.Wk Go.Pc
theorem zBf {u v:List Int} {j:Nat}:at0 (u ++ v) j = if j < u.length then at0 u j else at0 v (j - u.length):=by
 simp only [at0,List.getD_eq_getElem?_getD]
 split
 ·next h => rw [List.getElem?_append_left h]
 ·next h => rw [List.getElem?_append_right (by omega)]
theorem tZ {v:List Int} {c j:Nat}:at0 (v.drop c) j = at0 v (c + j):=by
 simp only [at0,List.getD_eq_getElem?_getD,List.getElem?_drop]
theorem jG {v:List Int} {c j:Nat} (h:j < c):at0 (v.take c) j = at0 v j:=by
 simp only [at0,List.getD_eq_getElem?_getD,List.getElem?_take,if_pos h]
theorem zFh {f:Nat → Int} (t:Nat):∀ d:Nat,S (t + d) f = S t f + S d (fun i => f (t + i))
 | 0 => by simp [S]
 | d + 1 => by rw [← Nat.add_assoc];simp only [S];rw [zFh t d];omega
theorem zXH {f:Nat → Int} {t n:Nat} (ht:t ≤ n) (h:∀ i,i < t → f i = 0):S n f = S (n - t) (fun i => f (t + i)):=by
 have e:n = t + (n - t):=by omega
 conv => lhs;rw [e,zFh,wU (g:=fun _ => 0) h,jM]
 omega
theorem zSA {f:Nat → Int} {t n:Nat} (ht:t ≤ n) (h:∀ i,t ≤ i → i < n → f i = 0):S n f = S t f:=by
 have e:n = t + (n - t):=by omega
 conv => lhs;rw [e,zFh,wU (f:=fun i => f (t + i)) (g:=fun _ => 0) (fun i hi => h (t + i) (by omega) (by omega)),jM]
 omega
theorem xL {F:Nat → List Int} {m i:Nat} (h:i < m):(gl m F).getD i [] = F i:=by simp [gl,List.getD_eq_getElem?_getD,h]
def ur (N i:Nat):List Int:=mkv N fun j => if j = i then 1 else 0
def wd (N:Nat) (A:Mx):Mx:=gl N fun i => A.getD i [] ++ ur N i
def Gr (p:Int) (c N:Nat) (A:Mx) (u:List Int):Prop:=∀ j,j < c → at0 u j % p = (S N fun k => at0 u (c + k) * ent A k j) % p
section
variable {p:Int} (hp:1 < p) {c N:Nat} {A:Mx} (hA:∀ i,i < N → Row p c (A.getD i []))
 include hA
theorem zBg:(wd N A).length = N:=by
 have _:=hA
 exact xX
theorem zFi {i j:Nat} (hi:i < N) (hj:j < c):ent (wd N A) i j = ent A i j:=by
 rw [ent,wd,xL hi,zBf,(hA i hi).1,if_pos hj]
theorem zAI {i l:Nat} (hi:i < N) (hl:l < N):ent (wd N A) i (c + l) = if l = i then 1 else 0:=by
 rw [ent,wd,xL hi,zBf,(hA i hi).1,if_neg (by omega),Nat.add_sub_cancel_left,ur,yE hl]
 include hp
theorem zQk {i:Nat} (hi:i < N):Row p (c + N) ((wd N A).getD i []):=by
 refine ⟨by rw [wd,xL hi,List.length_append,(hA i hi).1,ur,zZ],fun j hj => ?_⟩
 rcases Nat.lt_or_ge j c with g | g
 ·have:=(hA i hi).2 j g
  have e:=zFi hA hi g
  simp only [ent] at e
  rw [e];exact this
 ·have e:=zAI hA (l:=j - c) hi (by omega)
  rw [show c + (j - c) = j from by omega] at e
  simp only [ent] at e
  rw [e]
  split <;> omega
theorem zXa {u:List Int}:Sp p (c + N) (wd N A) u ↔ Gr p c N A u:=by
 have _:=hp
 constructor
 ·rintro ⟨cf,hcf⟩ j hj
  rw [zBg hA] at hcf
  rw [← hcf j (by omega)]
  refine zD6 fun k hk => ?_
  have h1:=hcf (c + k) (by omega)
  rw [zAF (k:=k) hk (fun i hi hne => by rw [zAI hA hi hk,if_neg (Ne.symm hne),Int.mul_zero]),zAI hA hk hk,if_pos rfl,Int.mul_one] at h1
  rw [zFi hA hk hj,Int.mul_emod,h1,← Int.mul_emod]
 ·intro h
  refine ⟨fun k => at0 u (c + k),fun j hj => ?_⟩
  rw [zBg hA]
  rcases Nat.lt_or_ge j c with g | g
  ·rw [h j g]
   refine congrArg (· % p) (wU fun k hk => ?_)
   rw [zFi hA hk g]
  ·obtain ⟨l,rfl⟩:∃ l,j = c + l:=⟨j - c,by omega⟩
   rw [zAF (k:=l) (by omega) (fun i hi hne => by rw [zAI hA hi (by omega),if_neg (Ne.symm hne),Int.mul_zero]),zAI hA (by omega) (by omega),if_pos rfl,Int.mul_one]
variable {W:Mx} {pv:Nat → Nat} (hW:Red p (c + N) W pv) (hs:sK p (c + N) W (wd N A))
 include hW
theorem zUY:∃ t,t ≤ W.length ∧ (∀ i,i < t → pv i < c) ∧ ∀ i,t ≤ i → i < W.length → c ≤ pv i:=by
 have _:=hA;have _:=hp
 obtain ⟨t,ht,hmin⟩:=zA1 (p:=fun t => W.length ≤ t ∨ c ≤ pv t) ⟨W.length,.inl (Nat.le_refl _)⟩
 have hlt:∀ i,i < t → i < W.length ∧ pv i < c:=fun i hi => by
  have:=hmin i hi
  exact ⟨Nat.lt_of_not_le fun h => this (.inl h),Nat.lt_of_not_le fun h => this (.inr h)⟩
 refine ⟨t,Nat.le_of_not_lt fun h => ?_,fun i hi => (hlt i hi).2,fun i hi hi2 => ?_⟩
 ·have:=(hlt W.length h).1;omega
 ·rcases ht with h | h
  ·omega
  ·rcases Nat.lt_or_ge t i with g | g
   ·have:=hW.mono t i g hi2;omega
   ·rw [show i = t from by omega];exact h
def nul (c t:Nat) (W:Mx):Mx:=gl (W.length - t) fun i => (W.getD (t + i) []).drop c
def lft (c t:Nat) (W:Mx):Mx:=gl t fun i => (W.getD i []).take c
 omit hp hA hW in
theorem zI5 {t i j:Nat} (hi:t + i < W.length):ent (nul c t W) i j = ent W (t + i) (c + j):=by
  rw [ent,nul,xL (by omega),tZ]
 omit hp hA hW in
theorem zDF {t i j:Nat} (hi:i < t) (hj:j < c):ent (lft c t W) i j = ent W i j:=by
  rw [ent,lft,xL hi,jG hj]
variable {t:Nat} (ht:t ≤ W.length) (h1:∀ i,i < t → pv i < c) (h2:∀ i,t ≤ i → i < W.length → c ≤ pv i)
 include ht h1 h2
theorem zSB:Red p N (nul c t W) (fun i => pv (t + i) - c):=by
 have _:=hp;have _:=hA;have _:=h1;have _:=ht
 have hl:(nul c t W).length = W.length - t:=xX
 have hpc:∀ i,i < W.length - t → c ≤ pv (t + i):=fun i hi => h2 (t + i) (by omega) (by omega)
 refine ⟨fun i hi => ?_,fun i hi => ?_,fun i hi => ?_,fun i hi j hj => ?_,fun i k hi hk hne => ?_,fun i j hij hj => ?_⟩
 ·rw [hl] at hi
  have hr:=hW.row (t + i) (by omega)
  refine ⟨by rw [nul,xL hi,List.length_drop,hr.1];omega,fun j hj => ?_⟩
  have:=hr.2 (c + j) (by omega)
  rw [nul,xL hi,tZ];exact this
 ·rw [hl] at hi
  have:=hW.lt (t + i) (by omega)
  have:=hpc i hi
  omega
 ·rw [hl] at hi
  rw [zI5 (by omega),show c + (pv (t + i) - c) = pv (t + i) from by have:=hpc i hi;omega]
  exact hW.one _ (by omega)
 ·rw [hl] at hi
  rw [zI5 (by omega)]
  exact hW.low _ (by omega) _ (by omega)
 ·rw [hl] at hi hk
  rw [zI5 (by omega),show c + (pv (t + i) - c) = pv (t + i) from by have:=hpc i hi;omega]
  exact hW.off _ _ (by omega) (by omega) (by omega)
 ·rw [hl] at hj
  have:=hW.mono (t + i) (t + j) (by omega) (by omega)
  have:=hpc i (by omega)
  omega
 include hs
theorem zXI {u:List Int}:Sp p (c + N) W u ↔ Gr p c N A u:=by
 have _:=hW;have _:=ht;have _:=h1;have _:=h2
 exact hs.iff.trans (zXa hp hA)
theorem zSC:Red p c (lft c t W) pv:=by
 have _:=hp;have _:=hA;have _:=hs;have _:=h2
 have hl:(lft c t W).length = t:=xX
 refine ⟨fun i hi => ?_,fun i hi => h1 i (by omega),fun i hi => ?_,fun i hi j hj => ?_,fun i k hi hk hne => ?_,fun i j hij hj => hW.mono i j hij (by omega)⟩
 ·rw [hl] at hi
  have hr:=hW.row i (by omega)
  refine ⟨by rw [lft,xL hi,List.length_take,hr.1];omega,fun j hj => ?_⟩
  rw [lft,xL hi,jG hj]
  exact hr.2 j (by omega)
 ·rw [hl] at hi
  rw [zDF hi (h1 i hi)];exact hW.one _ (by omega)
 ·rw [hl] at hi
  have:=h1 i hi
  rw [zDF hi (by omega)];exact hW.low _ (by omega) _ hj
 ·rw [hl] at hi hk
  rw [zDF hk (h1 i hi)];exact hW.off _ _ (by omega) (by omega) hne
theorem zUZ (hAl:A.length = N):sK p c (lft c t W) A:=by
 have hl:(lft c t W).length = t:=xX
 constructor
 ·intro i hi
  rw [hl] at hi
  have hg:=(zXI hp hA hW hs ht h1 h2).1 (sT (p:=p) (n:=c + N) (R:=W) (i:=i) (by omega))
  refine ⟨fun k => ent W i (c + k),fun j hj => ?_⟩
  rw [hAl,lft,xL hi,jG hj]
  exact (hg j hj).symm
 ·intro k hk
  rw [hAl] at hk
  obtain ⟨cf,hcf⟩:=hs.2 k (by rw [zBg hA];exact hk)
  refine ⟨cf,fun j hj => ?_⟩
  have h3:=hcf j (by omega)
  have e:=zFi hA hk hj
  simp only [ent] at e
  rw [e,zSA ht (fun i g1 g2 => by rw [hW.low i g2 j (by have:=h2 i g1 g2;omega),Int.mul_zero])] at h3
  rw [hl,← h3]
  exact congrArg (· % p) (wU fun i hi => by rw [zDF hi hj])
end
end Go.Pl

namespace Go.Pl
open Go Go.Ab Go.Wk Go.Pc
theorem zDG {v:List Int} (hl:v.length ≤ 1000000):IsB (f_E v) (∀ i,i < v.length → at0 v i = 0):=by
 refine tU v.length (fun i => at0 v i = 0) rfl (fun i hi _ => ?_) ?_
 ·refine vS (o:=some (at0 v i == 0)) (IsB.of_bool (by simp)) (by omega) ?_
  unfold zKs
  rw [yQ hi,zJ,yF hi,bs,bs];rfl
 ·unfold zKs
  rw [xD,zF]
end Go.Pl

namespace Go.Pl
open Go Go.Ab Go.Wk Go.Pc
end Go.Pl

namespace Go.Pl
open Go Go.Ab Go.Wk Go.Pc
section
variable {n D:Nat} {m:zC} (hm:MOk n m D) (hn:n ≤ 9)
 include hm hn
def zXb (m:zC) (D:Nat) (rows:Mx):Prop:=∀ i,i < rows.length → Row m.Prime D (rows.getD i [])
theorem zI6 {rows:Mx} (hl:rows.length ≤ 1048576):IsB (zV3 m rows) (zXb m D rows):=by
 have _:=hn
 have h3:=hm.d3
 refine tU (body:=zK5 m rows) rows.length (fun i => Row m.Prime D (rows.getD i [])) rfl (fun i hi _ => ?_) ?_
 ·refine vS (zEI hm.p (D:=D) (by omega)) (by omega) ?_
  unfold zK5
  rw [yQ hi,zJ,yD [] hi,bs,hm.d]
 ·unfold zK5
  rw [xD,zF]
end
end Go.Pl

namespace Go.Pl
open Go Go.Ab Go.Wk Go.Pc
structure Nul (p:Int) (c N:Nat) (A W:Mx) (pv:Nat → Nat) (t:Nat):Prop where
 row:∀ i,i < N → Row p c (A.getD i [])
 len:A.length = N
 red:Red p (c + N) W pv
 sp:sK p (c + N) W (wd N A)
 le:t ≤ W.length
 lo:∀ i,i < t → pv i < c
 hi:∀ i,t ≤ i → i < W.length → c ≤ pv i
section
variable {p:Int} (hp:Prime p) {c N:Nat} (hcN:c + N ≤ 100000) {A W:Mx} {pv:Nat → Nat} {t:Nat}
 include hp hcN
theorem Nul.get (hr:∀ i,i < N → Row p c (A.getD i [])) (hl:A.length = N):∃ W pv t,Nul p c N A W pv t ∧ f_m p (wd N A) = some W ∧ f_g p (wd N A) = some W:=by
 have h7:=hp.pos
 obtain ⟨W,pv,r1,r2,r3,r4⟩:=zBS hp (n:=c + N) hcN (rows:=wd N A) (by rw [zBg hr];omega) (fun i hi => zQk (by omega) hr (by rwa [zBg hr] at hi))
 obtain ⟨t,t1,t2,t3⟩:=zUY (by omega) hr r3
 exact ⟨W,pv,t,⟨hr,hl,r3,r4,t1,t2,t3⟩,r1,r2⟩
variable (h:Nul p c N A W pv t)
 include h
theorem Nul.nred:Red p N (nul c t W) (fun i => pv (t + i) - c):=by
 have _:=hcN
 have h7:=hp.pos
 exact zSB (by omega) h.row h.red h.le h.lo h.hi
theorem Nul.full:W.length = N:=by
 have h7:=hp.pos
 have g1:W.length ≤ (wd N A).length:=zGy hp (n:=c + N) hcN (by rw [zBg h.row];omega) (fun i hi => zQk (by omega) h.row (by rwa [zBg h.row] at hi)) h.red h.sp
 rw [zBg h.row] at g1
 have hl:(gl W.length fun i => (W.getD i []).drop c).length = W.length:=xX
 have hR:∀ i,i < W.length → Row p N ((gl W.length fun i => (W.getD i []).drop c).getD i []):=fun i hi => by
  have hr:=h.red.row i hi
  rw [xL hi]
  refine ⟨by rw [List.length_drop,hr.1];omega,fun j hj => ?_⟩
  rw [tZ];exact hr.2 (c + j) (by omega)
 obtain ⟨R3,pv3,_,_,g3,g4⟩:=zBS hp (n:=N) (by omega) (rows:=gl W.length fun i => (W.getD i []).drop c) (by omega) (by rw [hl];exact hR)
 have g5:=zGy hp (n:=N) (by omega) (by omega) (by rw [hl];exact hR) g3 g4
 have hul:(gl N (ur N)).length = N:=xX
 have hent:∀ i j,i < N → j < N → ent (gl N (ur N)) i j = if j = i then 1 else 0:=fun i j hi hj => by rw [ent,xL hi,ur,yE hj]
 have hid:Red p N (gl N (ur N)) (fun i => i):=by
  refine ⟨fun i hi => ?_,fun i hi => by omega,fun i hi => ?_,fun i hi j hj => ?_,fun i k hi hk hne => ?_,fun i j hij hj => hij⟩
  ·rw [hul] at hi
   rw [xL hi]
   refine ⟨zZ _ _,fun j hj => ?_⟩
   rw [ur,yE hj]
   split <;> omega
  ·rw [hul] at hi
   rw [hent i i hi hi,if_pos rfl]
  ·rw [hul] at hi
   rw [hent i j hi (by omega),if_neg (by omega)]
  ·rw [hul] at hi hk
   rw [hent k i hk hi,if_neg (Ne.symm hne)]
 have g6:=hid.le_of (by omega) g3 (fun i hi => by
  rw [hul] at hi
  refine g4.iff.2 ?_
  obtain ⟨cf,hcf⟩:=h.sp.2 i (by rw [zBg h.row];exact hi)
  refine ⟨cf,fun j hj => ?_⟩
  have h1:=hcf (c + j) (by omega)
  have h2:=zAI h.row hi hj
  simp only [ent] at h2
  rw [h2] at h1
  have h3:=hent i j hi hj
  simp only [ent] at h3
  rw [h3,hl,← h1]
  exact congrArg (· % p) (wU fun k hk => by rw [ent,xL hk,tZ]))
 omega
 omit h in
theorem zL7 {N:Nat} (hN:N ≤ 100000):f_H (N:Int) = some (gl N (ur N)):=by
  have _:=hp;have _:=hcN
  unfold f_H
  rw [kP (body:=zKr (N:Int)) N (ur N) (fun i acc hi ha => by
    unfold zKr
    simp only
    rw [yQ hi,zJ,yT (by omega),bs,vA,List.getElem?_replicate,if_pos hi,bs,Int.toNat_natCast,tL,qO,yM (by simp;omega),bs,zD (by omega) (by omega),bs,cs];rfl) (fun acc => by
    unfold zKr
    simp only
    rw [xD,zF]),bs]
 omit h in
theorem zHI (hr:∀ i,i < N → Row p c (A.getD i [])) (hl:A.length = N):zRG p A = f_m p (wd N A):=by
  unfold zRG
  rw [hl,zL7 hp hcN (by omega),bs,kP (body:=zK4 A (gl N (ur N))) N (fun i => A.getD i [] ++ ur N i) (fun i acc hi ha => by
    unfold zK4
    simp only
    rw [hl,yQ hi,zJ,yD [] (by omega),bs,tK (by rw [(hr i hi).1];omega),bs,zGz hi,bs,yM (by rw [(hr i hi).1,ur,zZ];omega),bs,yM (by simp;omega),bs,zD (by omega) (by omega),bs,cs]) (fun acc => by
    unfold zK4
    simp only
    rw [hl,xD,zF]),bs]
  show (f_m p (wd N A)).bind _ = _
  cases f_m p (wd N A) <;> rfl
theorem zNZ:zH (zHM (c:Int) W) ([],0) = some (nul c t W):=by
 have hf:=h.full hp hcN
 have hle:=h.le
 have:=zO (body:=zHM (c:Int) W) (r:=nul c t W) (fun i => (gl (i - t) (fun k => (W.getD (t + k) []).drop c),(i:Int))) W.length (fun i hi => by
  have hr:=h.red.row i hi
  have h1:=h.red.one i hi
  have hlt:=h.red.lt i hi
  have hlead:=zFe (n:=c + N) hr.1 (by omega) hlt (h.red.low i hi) (by simp only [ent] at h1;omega)
  unfold zHM
  simp only
  rw [yQ hi,zJ,yD [] hi,bs,hlead,bs]
  rcases Nat.lt_or_ge i t with g | g
  ·have:=h.lo i g
   rw [decide_eq_false (by omega),zF,zD (by omega) (by omega),bs,cs,show i - t = 0 from by omega,show i + 1 - t = 0 from by omega]
  ·have:=h.hi i g hi
   have e:zX (W.getD i []) (c:Int) ((W.getD i []).length:Int) = some ((W.getD i []).drop c):=by
    unfold zX
    rw [if_pos ⟨by omega,by rw [hr.1];omega,by omega⟩,Int.toNat_natCast,Int.toNat_natCast,List.take_of_length_le (by rw [List.length_drop];omega)]
   rw [decide_eq_true (by omega),zJ,bs,e,bs,tK (by rw [List.length_drop,hr.1];omega),bs,yM (by rw [xX];simp;omega),bs,zD (by omega) (by omega),bs,cs,show i + 1 - t = (i - t) + 1 from by omega,← zAh,show t + (i - t) = i from by omega]) (by
  unfold zHM
  simp only
  rw [xD,zF];rfl)
 rw [show 0 - t = 0 from by omega] at this
 exact this
end
end Go.Pl

namespace Go.Pl
open Go Go.Ab Go.Wk Go.Pc
end Go.Pl

namespace Go.Pl
open Go Go.Ab Go.Wk Go.Pc
end Go.Pl

namespace Go.Pl
open Go Go.Ab Go.Wk Go.Pc
theorem zG3 {α:Type} {f:α → α} {a:α} (h:f a = a):∀ k,iter k f a = a
 | 0 => rfl
 | k + 1 => by show iter k f (f a) = a;rw [h];exact zG3 h k
theorem zQl {p:Int} {D:Nat} {A:List Mx}:∀ (v:Vec) (o:Nat) (B:Mx),o + v.length ≤ A.length → wM p D A (nw o v) B = img (PM p D) (A.drop o) v B
 | [],o,B,_ => by simp [nw,wM,img]
 | a :: v,o,B,h => by
  simp only [List.length_cons] at h
  have e:A.drop o = A.getD o [] :: A.drop (o + 1):=by
   rw [List.drop_eq_getElem_cons (by omega),List.getD_eq_getElem?_getD,List.getElem?_eq_getElem (by omega)];rfl
  rw [e]
  simp only [nw,img]
  rw [zEu,zGt,zQl v (o + 1) _ (by omega)]
theorem zKa:∀ (k o:Nat),nw o (zeros k) = []
 | 0,_ => rfl
 | k + 1,o => by
  rw [show zeros (k + 1) = 0 :: zeros k from rfl]
  simp only [nw]
  rw [zKa k];rfl
section
variable {x:SPr} {m:zC} {D:Nat} (h:Pres x) (hm:MOk x.zA.length m D) (hr:zGT x m D)
 include hm
theorem zSD:Mon (Mat m.Prime D) (PM m.Prime D) (idM D):=by
 have h7:=hm.p.pos
 exact ⟨fun ha _ => zBP (by omega) ha.1,zAe (by omega),fun ha hb _ => zJJ ha.1 hb.1,fun ha => zIy ha,fun ha => zJK ha⟩
 include h hr
theorem zNi:∀ (d k:Nat),k + d = x.zA.length → Rel (PM m.Prime D) (idM D) (suf x k) (m.zI.drop k)
 | 0,k,hk => by
  rw [vY (by omega),List.drop_of_length_le (by rw [hm.len];omega)];exact rfl
 | d + 1,k,hkd => by
  have h6:=h.os.1
  have hk:k < x.zA.length:=by omega
  have hlen:=hm.len
  have e:m.zI.drop k = m.zI.getD k [] :: m.zI.drop (k + 1):=by
   rw [List.drop_eq_getElem_cons (by omega),List.getD_eq_getElem?_getD,List.getElem?_eq_getElem (by omega)];rfl
  obtain ⟨t1,t2,t3⟩:=h.tl k hk
  obtain ⟨r1,r2⟩:=hr k hk
  have hword:∀ v,Exp x.zA v k → wM m.Prime D m.zI (nw 0 v) (idM D) = img (PM m.Prime D) (m.zI.drop (k + 1)) (v.drop (k + 1)) (idM D):=fun v hv => by
   have hl:=hv.1.1
   conv => lhs;rw [zAB hv hk]
   rw [zEt,zKa,List.nil_append,zS,zQl _ _ _ (by rw [List.length_drop];omega),Nat.zero_add]
  rw [yK hk,e]
  refine ⟨?_,fun q c dd hc hd => ?_,zNi d (k + 1) (by omega)⟩
  ·show pw (PM m.Prime D) (idM D) (m.zI.getD k []) (lvl x k).o.toNat = img (PM m.Prime D) (m.zI.drop (k + 1)) ((x.zU.getD k []).drop (k + 1)) (idM D)
   rw [← hword _ t1,← r1,zGt]
   rfl
  ·rw [List.getElem?_drop] at hc
   have hq:k + 1 + q < m.zI.length:=by
    rcases Nat.lt_or_ge (k + 1 + q) m.zI.length with g | g
    ·exact g
    ·rw [List.getElem?_eq_none g] at hc;simp at hc
   have hcm:c = m.zI.getD (k + 1 + q) []:=by rw [List.getD_eq_getElem?_getD,hc];rfl
   have hdm:dd = ((x.zB.getD k []).getD q []).drop (k + 1):=by
    simp only [lvl,List.getElem?_map] at hd
    rw [List.getD_eq_getElem?_getD]
    cases hg:(x.zB.getD k [])[q]? with
    | none => rw [hg] at hd;simp at hd
    | some u => rw [hg] at hd;simp only [Option.map_some,Option.some.injEq] at hd;exact hd.symm
   have:=r2 (k + 1 + q) (by omega) (by omega)
   rw [show k + 1 + q - (k + 1) = q from by omega] at this
   rw [hcm,hdm,this,hword _ (t3 q (by omega))]
end
end Go.Pl

namespace Go.Pl
open Go Go.Ab Go.Wk Go.Pc
theorem zAi {p:Int} {c N:Nat} (hcN:c + N ≤ 100000) {A:Mx} (hr:∀ i,i < N → Row p c (A.getD i [])) (hl:A.length = N):zRB A = some (wd N A):=by
 unfold zRB
 rw [kP (body:=zK0 A) N (fun i => A.getD i [] ++ ur N i) (fun i acc hi ha => by
  have h1:=(hr i hi).1
  have e:xW (List.replicate (c + N) (0:Int)) 0 ((A.getD i []).take (((List.replicate (c + N) (0:Int)).length) - 0)) = A.getD i [] ++ List.replicate N 0:=by
   unfold xW
   rw [List.length_replicate,List.take_of_length_le (l:=A.getD i []) (by omega),List.take_zero,List.nil_append,h1,List.drop_replicate]
   congr 2;omega
  have e2:ixO (A.getD i [] ++ List.replicate N (0:Int)) ((c + i:Nat):Int) = some 0:=by
   rw [vA,List.getElem?_append_right (by omega),h1,List.getElem?_replicate,if_pos (by omega)]
  unfold zK0
  simp only
  rw [hl,yQ hi,zJ,yD [] (by omega),bs,h1,← Int.natCast_add,zD (by omega) (by omega),bs,yT (by omega),bs,← Int.natCast_add,zD (by omega) (by omega),bs,e,e2,bs,Int.toNat_natCast,List.set_append_right _ _ (by omega),h1,Nat.add_sub_cancel_left,tL,qO,yM (by simp;omega),bs,zD (by omega) (by omega),bs,cs]
  rfl) (fun acc => by
  unfold zK0
  simp only
  rw [hl,xD,zF]),bs]
 rfl
end Go.Pl

namespace Go.Pl
open Go Go.Ab Go.Wk Go.Pc
theorem zKb {p:Int} (hp:Prime p) {n:Nat} (hn:n ≤ 100000) {R:Mx} {pv:Nat → Nat} (h:Red p n R pv):f_m p R = some R ∧ f_g p R = some R:=by
 have h7:=hp.pos
 have hl:R.length ≤ n:=h.len_le
 obtain ⟨R2,pv2,r1,r2,r3,r4⟩:=zBS hp hn (rows:=R) (by omega) h.row
 have e:=r3.unique (by omega) h r4
 rw [e] at r1 r2
 exact ⟨r1,r2⟩
section
variable {p:Int} (hp:Prime p) {c N:Nat} (hcN:c + N ≤ 100000) {A W:Mx} {pv:Nat → Nat} {t:Nat}
 include hp hcN
theorem zKc (h:Nul p c N A W pv t):zH (zHQ (c:Int) W) ([],0) = some (nul c t W):=by
 have h7:=hp.pos
 have hf:=h.full hp hcN
 have hle:=h.le
 have:=zO (body:=zHQ (c:Int) W) (r:=nul c t W) (fun i => (gl (i - t) (fun k => (W.getD (t + k) []).drop c),(i:Int))) W.length (fun i hi => by
  have hr:=h.red.row i hi
  have h1:=h.red.one i hi
  have e0:zX (W.getD i []) 0 (c:Int) = some ((W.getD i []).take c):=by
   unfold zX
   rw [if_pos ⟨by omega,by omega,by rw [hr.1];omega⟩,Int.toNat_natCast,show (0:Int).toNat = 0 from rfl,List.drop_zero,Nat.sub_zero]
  have htl:((W.getD i []).take c).length = c:=by rw [List.length_take,hr.1];omega
  have hz:=zDG (v:=(W.getD i []).take c) (by omega)
  unfold zHQ
  simp only
  rw [yQ hi,zJ,yD [] hi,bs,e0,bs]
  rcases Nat.lt_or_ge i t with g | g
  ·have hlo:=h.lo i g
   rcases hz with ⟨_,z⟩ | ⟨z,_⟩
   ·have:=z (pv i) (by omega)
    rw [jG hlo] at this
    simp only [ent] at h1
    omega
   ·rw [z,bs,zF,zD (by omega) (by omega),bs,cs,show i - t = 0 from by omega,show i + 1 - t = 0 from by omega]
  ·have hhi:=h.hi i g hi
   have e:zX (W.getD i []) (c:Int) ((W.getD i []).length:Int) = some ((W.getD i []).drop c):=by
    unfold zX
    rw [if_pos ⟨by omega,by rw [hr.1];omega,by omega⟩,Int.toNat_natCast,Int.toNat_natCast,List.take_of_length_le (by rw [List.length_drop];omega)]
   rcases hz with ⟨z,_⟩ | ⟨_,z⟩
   ·rw [z,bs,zJ,e,bs,yM (by rw [xX];simp;omega),bs,zD (by omega) (by omega),bs,cs,show i + 1 - t = (i - t) + 1 from by omega,← zAh,show t + (i - t) = i from by omega]
   ·refine absurd (fun j hj => ?_) z
    rw [htl] at hj
    rw [jG hj]
    have:=h.red.low i hi j (by omega)
    simpa only [ent] using this) (by
  unfold zHQ
  simp only
  rw [xD,zF];rfl)
 rw [show 0 - t = 0 from by omega] at this
 exact this
end
end Go.Pl

namespace Go.Pl
open Go Go.Ab Go.Wk Go.Pc
section
variable {x:SPr} (h:Pres x)
 include h
theorem zQm:∀ k,k ≤ x.zA.length → 2 * ((List.range k).flatMap (R2 x)).length + k * k + k = 2 * (x.zA.length * k)
 | 0,_ => by simp
 | k + 1,hk => by
  have ih:=zQm k (by omega)
  have t2:=(h.tl k (by omega)).2.1
  have e:((List.range (k + 1)).flatMap (R2 x)).length = ((List.range k).flatMap (R2 x)).length + (x.zB.getD k []).length:=by
   rw [List.range_succ,List.flatMap_append,List.length_append]
   simp [R2]
  have e3:(k + 1) * (k + 1) = k * k + 2 * k + 1:=by rw [Nat.mul_succ (k + 1) k,Nat.succ_mul k k];omega
  have e4:x.zA.length * (k + 1) = x.zA.length * k + x.zA.length:=Nat.mul_succ _ _
  rw [e,e3,e4]
  omega
theorem zOa:2 * (wE x).length = x.zA.length * (x.zA.length + 1):=by
 have:=zQm h x.zA.length (Nat.le_refl _)
 simp only [wE,List.length_append,List.length_map,List.length_range]
 rw [Nat.mul_succ]
 omega
end
theorem zEx {α:Type} {F:α → List Int} {D:Nat}:∀ (L:List α),(∀ q ∈ L,(F q).length = D) → ((L.map F).flatten).length = L.length * D
 | [],_ => by simp
 | y :: L,h => by
  have:=zEx L fun q hq => h q (by simp [hq])
  have:=h y (by simp)
  simp only [List.map_cons,List.flatten_cons,List.length_append,List.length_cons,Nat.succ_mul];omega
def zKd {α:Type} (N:Nat) (F:Nat → α → List Int) (L:List α):Mx:=gl N fun k => (L.map (F k)).flatten
section
variable {α:Type} {p:Int} {N D:Nat} {F:Nat → α → List Int} (hF:∀ k,k < N → ∀ q,Row p D (F k q))
 include hF
theorem zOb (L:List α):∀ k,k < N → Row p (L.length * D) ((zKd N F L).getD k []):=by
 intro k hk
 rw [zKd,xL hk]
 refine zFf.2 ⟨zEx L fun q _ => (hF k hk q).1,fun v hv => ?_⟩
 obtain ⟨r,h1,h2⟩:=List.mem_flatten.1 hv
 obtain ⟨q,_,rfl⟩:=List.mem_map.1 h1
 exact (zFf.1 (hF k hk q)).2 v h2
end
def zEy (n D:Nat) (v:List Int):Mx:=gl n fun i => mkv D fun j => at0 v (i * D + j)
theorem zQn {v:List Int} {D a:Nat} (h:a + D ≤ v.length):(v.drop a).take D = mkv D fun j => at0 v (a + j):=by
 have hl:((v.drop a).take D).length = D:=by rw [List.length_take,List.length_drop];omega
 rw [vJ hl]
 exact zY fun j hj => by rw [jG hj,tZ]
theorem zHJ {v:List Int} {D a:Nat} (h:a + D ≤ v.length):zX v (a:Int) ((a + D:Nat):Int) = some (mkv D fun j => at0 v (a + j)):=by
 unfold zX
 rw [if_pos ⟨by omega,by omega,by omega⟩,Int.toNat_natCast,Int.toNat_natCast,Nat.add_sub_cancel_left,zQn h]
theorem zVa {p:Int} {n D:Nat} {v:List Int} (hv:Row p (n * D) v):VOk n p D (zEy n D v):=by
 refine ⟨xX,fun i hi => ?_⟩
 rw [zEy,xL hi]
 refine ⟨zZ _ _,fun j hj => ?_⟩
 rw [yE hj]
 have:i * D + D ≤ n * D:=by
  have:=Nat.mul_le_mul_right D (show i + 1 ≤ n by omega)
  rw [Nat.succ_mul] at this;exact this
 exact hv.2 _ (by omega)
end Go.Pl

namespace Go.Pl
open Go Go.Ab Go.Wk Go.Pc
theorem zNj {p:Int} {n:Nat} {R R':Mx} {pv:Nat → Nat} {v:List Int}:∀ i,(∀ k,k < i → R.getD k [] = R'.getD k []) → cl p n R pv v i = cl p n R' pv v i
 | 0,_ => rfl
 | i + 1,h => by
  rw [cl,cl,zNj i fun k hk => h k (by omega),h i (by omega)]
theorem Red.sub {p:Int} {n:Nat} {R:Mx} {pv:Nat → Nat} (h:Red p n R pv) {t:Nat} (ht:t ≤ R.length):Red p n (gl t fun i => R.getD i []) pv:=by
 have hl:(gl t fun i => R.getD i []).length = t:=xX
 have he:∀ i j,i < t → ent (gl t fun i => R.getD i []) i j = ent R i j:=fun i j hi => by rw [ent,xL hi]
 refine ⟨fun i hi => ?_,fun i hi => h.lt i (by omega),fun i hi => ?_,fun i hi j hj => ?_,fun i k hi hk hne => ?_,fun i j hij hj => h.mono i j hij (by omega)⟩
 ·rw [hl] at hi
  rw [xL hi];exact h.row i (by omega)
 ·rw [hl] at hi
  rw [he _ _ hi];exact h.one i (by omega)
 ·rw [hl] at hi
  rw [he _ _ hi];exact h.low i (by omega) j hj
 ·rw [hl] at hi hk
  rw [he _ _ hk];exact h.off i k (by omega) (by omega) hne
end Go.Pl

namespace Go.Pl
open Go Go.Ab Go.Wk Go.Pc
theorem zNk {n D i:Nat} (hi:i < n):i * D + D ≤ n * D:=by
 have:=Nat.mul_le_mul_right D (show i + 1 ≤ n by omega)
 rw [Nat.succ_mul] at this;exact this
theorem zG4 {n D:Nat} (hD:1 ≤ D) {v:List Int} (hl:v.length = n * D) (hs:n * D ≤ 100000):f_W v (D:Int) = some (zEy n D v):=by
 have hn:n ≤ n * D:=Nat.le_mul_of_pos_right n hD
 have:=zO (body:=zOs v (D:Int)) (r:=zEy n D v) (fun i => (gl i fun i => mkv D fun j => at0 v (i * D + j),((i * D:Nat):Int))) n (fun i hi => by
  have h1:=zNk (D:=D) hi
  unfold zOs
  simp only
  rw [decide_eq_true (by omega),zJ,← Int.natCast_add,zD (by omega) (by omega),bs,zHJ (by omega),bs,qJ (by rw [zZ];omega),bs,yM (by rw [xX];simp;omega),bs,bs,zAh,← Nat.succ_mul]) (by
  unfold zOs
  simp only
  rw [decide_eq_false (by omega),zF];rfl)
 unfold f_W
 rw [show ((0 * D:Nat):Int) = 0 from by simp] at this
 have e:zH (zOs v (D:Int)) ([],0) = some (zEy n D v):=this
 rw [e,bs]
theorem zKe {n D:Nat} (hD:1 ≤ D) (hD3:D ≤ 1000) {v:List Int} (hl:v.length = n * D) (hs:n * D ≤ 100000):f_Q v (D:Int) = some (zEy n D v):=by
 have hn:n ≤ n * D:=Nat.le_mul_of_pos_right n hD
 have:=zO (body:=zO3 v (D:Int)) (r:=zEy n D v) (fun i => (gl i fun i => mkv D fun j => at0 v (i * D + j),((i * D:Nat):Int))) n (fun i hi => by
  have h1:=zNk (D:=D) hi
  unfold zO3
  simp only
  rw [← Int.natCast_add,zD (by omega) (by omega),bs,decide_eq_true (by omega),zJ,bs,zHJ (by omega),bs,tK (by rw [zZ];omega),bs,yM (by rw [xX];simp;omega),bs,bs,zAh,← Nat.succ_mul]) (by
  unfold zO3
  simp only
  rw [← Int.natCast_add,zD (by omega) (by omega),bs,decide_eq_false (by omega),zF];rfl)
 unfold f_Q
 rw [show ((0 * D:Nat):Int) = 0 from by simp] at this
 have e:zH (zO3 v (D:Int)) ([],0) = some (zEy n D v):=this
 rw [e,bs]
section
variable {x:SPr} (h:Pres x) {m:zC} {D:Nat} (hm:MOk x.zA.length m D)
 include h hm
section
variable {vals:Mx} (hv:VOk x.zA.length m.Prime D vals)
 include hv
theorem zL8:f_n x m vals = some ((wE x).map (dfc m D vals)):=by
 have h6:=h.os.1
 have h7:=hm.p.pos
 have h3:=hm.d3
 have hpl:=h.pl
 have hcl:=h.cl
 have hz:=zGw (p:=m.Prime) (D:=D) (by omega)
 unfold f_n
 rw [hm.d,yT (by omega),bs]
 have e1:=kP (body:=zRS x m vals D) x.zA.length (fun i => dfc m D vals (r1 x i)) (fun i acc hi ha => by
  obtain ⟨p1,p2⟩:=sH h.os (h.tl i hi).1
  have ho:=(h.os.2 i hi).pos
  unfold zRS
  simp only
  rw [yQ hi,zJ]
  rw [vD (S:=Row m.Prime D) (body:=zRR x m vals (acc,(i:Int))) (fun v => v) (fun v => stp m D vals v i) (at0 x.zA i) (by omega) (fun v _ => zBd hm h6 hv) (fun u q hu hq => by
   unfold zRR
   simp only
   rw [yF hi,bs,decide_eq_true hq,zJ,zAH hm h6 hv hu hi,bs,zD (by omega) (by omega),bs,cs]) (fun u hu => by
   unfold zRR
   simp only
   rw [yF hi,bs,decide_eq_false (by omega),zF]) hz,bs,zD (by omega) (by omega),bs,yD [] (by omega),bs,zEK hm h6 hv hz p1 p2,bs,← zLu]
  have e1:f_s m.Prime (ev m D vals (z0 D) (List.replicate (at0 x.zA i).toNat i)) (m.Prime - 1) (ev m D vals (z0 D) (nw 0 (x.zU.getD i []))) = some (dfc m D vals (r1 x i)):=by
   rw [vT hm.p (zDa hm h6 hv hz _) (zDa hm h6 hv hz _) (by omega) (by omega),zBc];rfl
  rw [e1,bs,yM (by simp;omega),bs,zD (by omega) (by omega),bs,cs]) (fun acc => by
  unfold zRS
  simp only
  rw [xD,zF])
 rw [e1,bs]
 have hfm:=zGv h
 have e2:=zO (body:=zO4 x m vals D) (r:=(wE x).map (dfc m D vals)) (fun i => (((List.range x.zA.length).map (fun i => dfc m D vals (r1 x i))) ++ ((List.range i).flatMap (R2 x)).map (dfc m D vals),(i:Int))) x.zA.length (fun i hi => by
  have t2:=(h.tl i hi).2.1
  have hfi:=hfm i (by omega)
  unfold zO4
  simp only
  rw [yQ hi,zJ,zD (by omega) (by omega),bs,cs]
  have hin:=zO (body:=zRT x m vals D (((List.range x.zA.length).map (fun i => dfc m D vals (r1 x i))) ++ ((List.range i).flatMap (R2 x)).map (dfc m D vals),(i:Int)))
   (r:=((List.range x.zA.length).map (fun i => dfc m D vals (r1 x i))) ++ ((List.range (i + 1)).flatMap (R2 x)).map (dfc m D vals))
   (fun j => (((List.range x.zA.length).map (fun i => dfc m D vals (r1 x i))) ++ ((List.range i).flatMap (R2 x)).map (dfc m D vals) ++ (List.range j).map (fun j => dfc m D vals (r2 x i j)),((i + 1 + j:Nat):Int))) (x.zB.getD i []).length (fun j hj => by
   obtain ⟨c1,c2⟩:=sH h.os ((h.tl i hi).2.2 j hj)
   have hjn:i + 1 + j < x.zA.length:=by omega
   have s1:=zAH hm h6 hv hz hjn
   have s2:=zAH hm h6 hv (zBd hm h6 hv (v:=z0 D) (w:=i + 1 + j)) hi
   have s3:=zAH hm h6 hv hz hi
   have s4:=zEK hm h6 hv (zBd hm h6 hv (v:=z0 D) (w:=i)) c1 c2
   unfold zRT
   simp only
   rw [yQ hjn,zJ,s1,bs,s2,bs,s3,bs,yD [] (by omega),bs,zD (by omega) (by omega),bs,zD (by omega) (by omega),bs,show (((i + 1 + j:Nat):Int) - (i:Int) - 1) = (j:Int) from by omega,yD [] hj,bs,s4,bs,zD (by omega) (by omega),bs]
   have e2:f_s m.Prime (stp m D vals (stp m D vals (z0 D) (i + 1 + j)) i) (m.Prime - 1) (ev m D vals (stp m D vals (z0 D) i) (nw 0 ((x.zB.getD i []).getD j []))) = some (dfc m D vals (r2 x i j)):=by
    rw [vT hm.p (zBd hm h6 hv) (zDa hm h6 hv (zBd hm h6 hv) _) (by omega) (by omega),zBc]
    simp only [dfc,r2,ev,List.foldl_cons,List.foldl_nil]
    rw [show i + j + 1 = i + 1 + j from by omega]
   rw [e2,bs,yM (by simp only [List.length_append,List.length_map,List.length_range,List.length_singleton];omega),bs,zD (by omega) (by omega),bs,cs,List.range_succ,List.map_append,List.append_assoc]
   rfl) (by
   unfold zRT
   simp only
   rw [show i + 1 + (x.zB.getD i []).length = x.zA.length from by omega,xD,zF,List.range_succ (n:=i),List.flatMap_append,List.map_append,← List.append_assoc]
   simp [R2])
  simp only [List.range_zero,List.map_nil,List.append_nil,Nat.add_zero] at hin
  rw [hin,bs,bs]) (by
  unfold zO4
  simp only
  rw [xD,zF]
  simp only [wE,List.map_append,List.map_map]
  rfl)
 simp only [List.range_zero,List.flatMap_nil,List.map_nil,List.append_nil] at e2
 have e3:zH (zO4 x m vals D) ((List.range x.zA.length).map (fun i => dfc m D vals (r1 x i)),0) = some ((wE x).map (dfc m D vals)):=e2
 rw [e3,bs]
end
def uv (n D k:Nat):Mx:=zEy n D (sJ (n * D) k)
theorem zNl {k:Nat}:VOk x.zA.length m.Prime D (uv x.zA.length D k):=by
 have _:=h
 have h7:=hm.p.pos
 exact zVa (zNW h7.1)
theorem zVb:∀ k,k < x.zA.length * D → ∀ q,Row m.Prime D (dfc m D (uv x.zA.length D k) q):=fun k _ q => by
 have _:=h
 exact jD hm.p
theorem zQo {k:Nat}:f_W (sJ (x.zA.length * D) k) (D:Int) = some (uv x.zA.length D k):=by
 have h6:=h.os.1
 have h3:=hm.d3
 have hnd:x.zA.length * D ≤ 9 * 3:=Nat.mul_le_mul h6 h3
 exact zG4 hm.d1 (zZ _ _) (by omega)
theorem zVc {k:Nat}:f_Q (sJ (x.zA.length * D) k) (D:Int) = some (uv x.zA.length D k):=by
 have h6:=h.os.1
 have h3:=hm.d3
 have hnd:x.zA.length * D ≤ 9 * 3:=Nat.mul_le_mul h6 h3
 exact zKe hm.d1 (by omega) (zZ _ _) (by omega)
theorem zG5 {vals:Mx} {L:List Rl}:((L.map (dfc m D vals)).flatten).length = L.length * D:=by
 have _:=h;have _:=hm
 exact zEx L fun q _ => zD7
theorem zES:zT0 x m = some (zKd (x.zA.length * D) (fun k => dfc m D (uv x.zA.length D k)) (wE x)):=by
 have h6:=h.os.1
 have h3:=hm.d3
 have hnd:x.zA.length * D ≤ 9 * 3:=Nat.mul_le_mul h6 h3
 have hrl:=zI2 h hm (zNl h hm (k:=0))
 have hrD:(wE x).length * D ≤ 100 * 3:=Nat.mul_le_mul hrl h3
 unfold zT0
 rw [hm.d,← Int.natCast_mul,zD (by omega) (by omega),bs]
 rw [kP (body:=zKF x m ((x.zA.length * D:Nat):Int)) (x.zA.length * D) (fun k => ((wE x).map (dfc m D (uv x.zA.length D k))).flatten) (fun k acc hk ha => by
  unfold zKF
  simp only
  rw [yQ hk,zJ,zBr hk (by omega),bs,hm.d,zQo h hm,bs,zI3 h hm (zNl h hm (k:=k)),bs,zAf (by simp;omega) (by rw [zG5 h hm];omega),bs,yM (by simp;omega),bs,zD (by omega) (by omega),bs,cs]) (fun acc => by
  unfold zKF
  simp only
  rw [xD,zF]),bs]
 rfl
theorem zOc {k N:Nat}:(List.replicate N (0:Int)).set k 1 = sJ N k:=by
 have _:=h;have _:=hm
 rw [tL,qO,sJ]
theorem zKf:zTz x m = some (zKd (x.zA.length * D) (fun k => dfc m D (uv x.zA.length D k)) (wE x)):=by
 have h6:=h.os.1
 have h3:=hm.d3
 have hnd:x.zA.length * D ≤ 9 * 3:=Nat.mul_le_mul h6 h3
 have hrl:=zI2 h hm (zNl h hm (k:=0))
 have hrD:(wE x).length * D ≤ 100 * 3:=Nat.mul_le_mul hrl h3
 unfold zTz
 rw [hm.d,← Int.natCast_mul,zD (by omega) (by omega),bs]
 rw [kP (body:=zKE x m ((x.zA.length * D:Nat):Int)) (x.zA.length * D) (fun k => ((wE x).map (dfc m D (uv x.zA.length D k))).flatten) (fun k acc hk ha => by
  unfold zKE
  simp only
  rw [yQ hk,zJ,yT (by omega),bs,vA,List.getElem?_replicate,if_pos hk,bs,Int.toNat_natCast,zOc h hm,hm.d,zVc h hm,bs,zL8 h hm (zNl h hm (k:=k)),bs,zHH (by simp;omega) (by rw [zG5 h hm];omega),bs,yM (by simp;omega),bs,zD (by omega) (by omega),bs,cs]) (fun acc => by
  unfold zKE
  simp only
  rw [xD,zF]),bs]
 rfl
end
end Go.Pl

namespace Go.Pl
open Go Go.Ab Go.Wk Go.Pc
theorem zL9 {L:Mx} (h6:L.length ≤ 9) (h:∀ r ∈ L,r.length ≤ 3):S2 L:=by
 have:=zUa (c:=c1) (b:=3) (xs:=L) h
 simp only [S2,c2];omega
theorem zOd {n D:Nat} {v:List Int} (hn:n ≤ 9) (hD:D ≤ 3):S2 (zEy n D v):=by
 refine zL9 (by rw [zEy,xX];omega) fun r hr => ?_
 obtain ⟨i,_,rfl⟩:=List.mem_map.1 hr
 rw [zZ];exact hD
theorem zQp {v:List Int} {k:Nat} (hl:v.length ≤ 1000000) (hk:k < v.length) (h0:∀ j,j < k → at0 v j = 0) (h1:at0 v k ≠ 0):zT3 v = some (k:Int):=by
 unfold zT3
 have:=zO (body:=zHR v) (r:=.inr (k:Int)) (fun i => (i:Int)) k (fun i hi => by
  unfold zHR zT2
  rw [yQ (by omega),zJ,yF (by omega),bs,bs,h0 i hi,bne_self_eq_false,zF,zD (by omega) (by omega),bs,cs]) (by
  unfold zHR zT2
  rw [yQ hk,zJ,yF hk,bs,bs,qA h1,zJ])
 have e:zH (zHR v) 0 = some (.inr (k:Int)):=this
 rw [e,bs]
theorem zHK {b:List Int} {N:Nat} (h:b.length + N ≤ 1000000):vR b (N:Int) (0:Int) = some (b ++ List.replicate N 0):=by
 unfold vR
 rw [if_pos ⟨by omega,by rw [Int.toNat_natCast];omega⟩,Int.toNat_natCast]
section
variable {p:Int} (hp:Prime p) {c N:Nat} (hcN:c + N ≤ 100000) {A W:Mx} {pv:Nat → Nat} {t:Nat} (h:Nul p c N A W pv t)
 include hp hcN h
def sy (p:Int) (c N:Nat) (W:Mx) (pv:Nat → Nat) (b:List Int) (t:Nat):List Int:=cl p (c + N) W pv (b ++ List.replicate N 0) t
def sx (p:Int) (c N:Nat) (W:Mx) (pv:Nat → Nat) (b:List Int) (t:Nat):List Int:=mkv N fun j => (0 - at0 (sy p c N W pv b t) (c + j)) % p
theorem zI7 {b:List Int} (hb:Row p c b):Row p (c + N) (b ++ List.replicate N 0):=by
 have _:=hcN;have _:=h
 have h7:=hp.pos
 refine ⟨by rw [List.length_append,hb.1,List.length_replicate],fun j hj => ?_⟩
 rw [zBf,hb.1]
 split
 ·next g => exact hb.2 j g
 ·next g =>
  have:at0 (List.replicate N (0:Int)) (j - c) = 0:=by simp [at0,List.getD_eq_getElem?_getD,show j - c < N by omega]
  rw [this];omega
theorem zG6 {b:List Int} (hb:Row p c b) (t:Nat):Row p (c + N) (sy p c N W pv b t):=zBR hp hcN h.red (zI7 hp hcN h hb) t
theorem zLA {b:List Int}:Row p N (sx p c N W pv b t):=by
 have _:=hcN;have _:=h
 have h7:=hp.pos
 refine ⟨zZ _ _,fun j hj => ?_⟩
 rw [sx,yE hj]
 have e1:=Int.emod_nonneg (0 - at0 (sy p c N W pv b t) (c + j)) (show p ≠ 0 by omega)
 have e2:=Int.emod_lt_of_pos (0 - at0 (sy p c N W pv b t) (c + j)) (show 0 < p by omega)
 omega
theorem zG7 {y:List Int} (hy:y.length = c + N):zX y 0 (c:Int) = some (y.take c):=by
 have _:=hp;have _:=hcN;have _:=h
 unfold zX
 rw [if_pos ⟨by omega,by omega,by omega⟩,Int.toNat_natCast,show (0:Int).toNat = 0 from rfl,List.drop_zero,Nat.sub_zero]
theorem zBh {y:List Int} (hy:y.length = c + N):zX y (c:Int) ((c + N:Nat):Int) = some (y.drop c):=by
 have _:=hp;have _:=hcN;have _:=h
 unfold zX
 rw [if_pos ⟨by omega,by omega,by omega⟩,Int.toNat_natCast,Int.toNat_natCast,List.take_of_length_le (by rw [List.length_drop];omega)]
theorem zOe:zH (zO5 (c:Int) W) ([],0) = some (gl t fun i => W.getD i []):=by
 have hf:=h.full hp hcN
 have hle:=h.le
 have:=zO (body:=zO5 (c:Int) W) (r:=gl t fun i => W.getD i []) (fun i => (gl (min i t) (fun i => W.getD i []),(i:Int))) W.length (fun i hi => by
  have hr:=h.red.row i hi
  have h1:=h.red.one i hi
  have hlt:=h.red.lt i hi
  have hlead:=zFe (n:=c + N) hr.1 (by omega) hlt (h.red.low i hi) (by simp only [ent] at h1;omega)
  unfold zO5
  simp only
  rw [yQ hi,zJ,yD [] hi,bs,hlead,bs]
  rcases Nat.lt_or_ge i t with g | g
  ·have:=h.lo i g
   rw [decide_eq_true (by omega),zJ,bs,yM (by rw [xX];simp;omega),bs,zD (by omega) (by omega),bs,cs,Nat.min_eq_left (by omega),Nat.min_eq_left (by omega:i + 1 ≤ t),zAh]
  ·have:=h.hi i g hi
   rw [decide_eq_false (by omega),zF,zD (by omega) (by omega),bs,cs,Nat.min_eq_right g,Nat.min_eq_right (by omega:t ≤ i + 1)]) (by
  unfold zO5
  simp only
  rw [xD,zF,Nat.min_eq_right hle])
 rw [Nat.zero_min] at this
 exact this
theorem zKg {b:List Int} (hb:Row p c b):zH (zO6 (zV.mk p (c:Int) A) W) (b ++ List.replicate N 0,0) = some (sy p c N W pv b t):=by
 have h7:=hp.pos
 have hf:=h.full hp hcN
 have hle:=h.le
 have hv:=zI7 hp hcN h hb
 have:=zO (body:=zO6 (zV.mk p (c:Int) A) W) (r:=sy p c N W pv b t) (fun i => (sy p c N W pv b (min i t),(i:Int))) W.length (fun i hi => by
  have hr:=h.red.row i hi
  have h1:=h.red.one i hi
  have hlt:=h.red.lt i hi
  have hix:=zQp (v:=W.getD i []) (k:=pv i) (by rw [hr.1];omega) (by rw [hr.1];exact hlt) (h.red.low i hi) (by simp only [ent] at h1;omega)
  unfold zO6
  simp only
  rw [yQ hi,zJ,yD [] hi,bs,hix,bs]
  rcases Nat.lt_or_ge i t with g | g
  ·have:=h.lo i g
   have hy:=zG6 hp hcN h hb i
   have ha:=hy.2 (pv i) hlt
   rw [decide_eq_true (by omega),zJ,Nat.min_eq_left (by omega),yF (by rw [hy.1];exact hlt),bs,zD (by omega) (by omega),bs,qI hp hy hr (by omega) (by omega),bs,zD (by omega) (by omega),bs,cs,Nat.min_eq_left (by omega:i + 1 ≤ t)]
   rw [sy,zQj hp hcN h.red hv hi]
   rfl
  ·have:=h.hi i g hi
   rw [decide_eq_false (by omega),zF,zD (by omega) (by omega),bs,cs,Nat.min_eq_right g,Nat.min_eq_right (by omega:t ≤ i + 1)]) (by
  unfold zO6
  simp only
  rw [xD,zF,Nat.min_eq_right hle])
 rw [Nat.zero_min] at this
 exact this
def ng (p:Int) (c N:Nat) (y:List Int) (i:Nat):List Int:=mkv (c + N) fun j => if c ≤ j ∧ j < c + i then (0 - at0 y j) % p else at0 y j
theorem zQq {y:List Int} (hy:Row p (c + N) y):zH (zO7 (zV.mk p (c:Int) A) y) (y,0) = some (ng p c N y N):=by
 have h7:=hp.pos
 have hyl:=hy.1
 have:=zO (body:=zO7 (zV.mk p (c:Int) A) y) (r:=ng p c N y N) (fun i => (ng p c N y i,(i:Int))) N (fun i hi => by
  have hl:(ng p c N y i).length = c + N:=zZ _ _
  have hdl:((ng p c N y i).drop c).length = N:=by rw [List.length_drop,hl];omega
  have he:at0 ((ng p c N y i).drop c) i = at0 y (c + i):=by rw [tZ,ng,yE (by omega),if_neg (by omega)]
  have hb:=hy.2 (c + i) (by omega)
  unfold zO7
  simp only
  rw [Int.toNat_natCast,Int.toNat_natCast,hyl,Nat.add_sub_cancel_left,yQ hi,zJ,zBh hp hcN h hl,bs,yF (by omega),bs,he,zD (by omega) (by omega),bs,zEJ hp (by omega) (by omega),bs,bs,yF (by omega),bs,zD (by omega) (by omega),bs,cs,← Int.natCast_add,Int.toNat_natCast]
  congr 3
  rw [ng,qO]
  refine zY fun j hj => ?_
  by_cases e:j = c + i
  ·subst e;rw [if_pos rfl,if_pos ⟨by omega,by omega⟩]
  ·rw [if_neg e]
   by_cases e2:c ≤ j ∧ j < c + i
   ·rw [if_pos e2,if_pos ⟨e2.1,by omega⟩]
   ·rw [if_neg e2,if_neg (by omega)]) (by
  unfold zO7
  simp only
  rw [Int.toNat_natCast,Int.toNat_natCast,hyl,Nat.add_sub_cancel_left,xD,zF])
 have e:ng p c N y 0 = y:=by
  conv => rhs;rw [vJ hyl]
  exact zY fun j _ => if_neg (by omega)
 rw [e] at this
 exact this
theorem zQr {b:List Int}:(ng p c N (sy p c N W pv b t) N).drop c = sx p c N W pv b t:=by
 have _:=hp;have _:=hcN;have _:=h
 have hl:((ng p c N (sy p c N W pv b t) N).drop c).length = N:=by rw [List.length_drop,ng,zZ];omega
 rw [vJ hl]
 refine zY fun j hj => ?_
 rw [tZ,ng,yE (by omega),if_pos ⟨by omega,by omega⟩]
theorem zLB {b:List Int}:(mkv N fun j => (at0 ((sy p c N W pv b t).drop c) j * (p - 1)) % p) = sx p c N W pv b t:=by
 have _:=hp;have _:=hcN;have _:=h
 refine zY fun j hj => ?_
 rw [tZ]
 generalize at0 (sy p c N W pv b t) (c + j) = a
 have e:a * (p - 1) = (0 - a) + p * a:=by rw [Int.mul_sub,Int.mul_comm a p];omega
 rw [e,Int.add_mul_emod_self_left]
theorem zDc (h2:f_m p (wd N A) = some W) {b:List Int} (hb:Row p c b):f_P p A (c:Int) b = (zRJ ((sy p c N W pv b t).take c)).bind fun r13 => cond (!r13) (some ([],false)) (some (cl p N (nul c t W) (fun i => pv (t + i) - c) (sx p c N W pv b t) (nul c t W).length,true)):=by
 have h7:=hp.pos
 have hr:=h.row
 have hl:=h.len
 have hf:=h.full hp hcN
 have hle:=h.le
 have hy:=zG6 hp hcN h hb t
 have hK:=h.nred hp hcN
 have hKl:(nul c t W).length ≤ N:=hK.len_le
 have hx:=zLA hp hcN h (b:=b)
 have hleft:cl p (c + N) (gl t fun i => W.getD i []) pv (b ++ List.replicate N 0) (gl t fun i => W.getD i []).length = sy p c N W pv b t:=by
  rw [xX,sy]
  exact zNj t fun k hk => xL hk
 have hnull:zTl p A (c:Int) = some (nul c t W):=by
  unfold zTl
  rw [zHI hp hcN hr hl,h2,bs,zNZ hp hcN h,bs]
 have hdl:Row p N ((sy p c N W pv b t).drop c):=by
  refine ⟨by rw [List.length_drop,hy.1];omega,fun j hj => ?_⟩
  rw [tZ];exact hy.2 _ (by omega)
 have hgl:(gl t fun i => W.getD i []).length = t:=xX
 unfold f_P
 rw [zHI hp hcN hr hl,h2,bs,tK (by rw [hb.1];omega),bs,hl,zHK (by rw [hb.1];omega),bs,zOe hp hcN h,bs,zDb hp hcN (h.red.sub hle) (zI7 hp hcN h hb) (by omega),bs,hleft,zG7 hp hcN h hy.1,bs,zD (by omega) (by omega),bs,hy.1,zBh hp hcN h hy.1,bs,zGx hp (by omega) hdl (by omega) (by omega),bs,hnull,bs,zLB hp hcN h,zDb hp (by omega) hK hx (by omega),bs]
 omit h in
theorem zLC (hr:∀ i,i < N → Row p c (A.getD i [])) (hl:A.length = N) {b:List Int} (hb:Row p c b):∃ r ok,f_P p A (c:Int) b = some (r,ok) ∧ f_z (zV.mk p (c:Int) A) b = some (r,ok) ∧ r.length ≤ N:=by
  have h7:=hp.pos
  obtain ⟨W,pv,t,h,h2,h3⟩:=Nul.get hp hcN hr hl
  have hf:=h.full hp hcN
  have hle:=h.le
  have hy:=zG6 hp hcN h hb t
  have hK:=h.nred hp hcN
  have hKl:(nul c t W).length ≤ N:=hK.len_le
  have hx:=zLA hp hcN h (b:=b)
  have hcl:=zBR hp (by omega) hK hx (nul c t W).length
  have hker:zTy p A (c:Int) = some (nul c t W):=by
    unfold zTy
    rw [zAi hcN hr hl,bs,h3,bs,zKc hp hcN h,bs,(zKb hp (by omega) hK).2,bs]
  have htl:((sy p c N W pv b t).take c).length = c:=by rw [List.length_take,hy.1];omega
  have es:=zDc hp hcN h h2 hb
  have ei:f_z (zV.mk p (c:Int) A) b = (f_E ((sy p c N W pv b t).take c)).bind fun r13 => cond (!r13) (some ([],false)) (some (cl p N (nul c t W) (fun i => pv (t + i) - c) (sx p c N W pv b t) (nul c t W).length,true)):=by
    unfold f_z zV6
    simp only
    rw [qJ (by rw [hb.1];omega),bs,hl,zHK (by rw [hb.1];omega),bs,zAi hcN hr hl,bs,h3,bs,zKg hp hcN h hb,bs,zG7 hp hcN h hy.1,bs,hy.1,zBh hp hcN h hy.1,bs,zQq hp hcN h hy,bs,hker,bs,bs,zBh hp hcN h (y:=ng p c N (sy p c N W pv b t) N) (zZ _ _),bs,zQr hp hcN h,zG2 hp (by omega) hK hx (by omega),bs]
  rw [es,ei]
  rcases (zCm (v:=(sy p c N W pv b t).take c) (by omega)).both (zDG (by omega)) with ⟨z1,z2,_⟩ | ⟨z1,z2,_⟩
  · rw [z1,z2,bs,Bool.not_true,zF]
    exact ⟨_,_,rfl,rfl,by rw [hcl.1];omega⟩
  · rw [z1,z2,bs,Bool.not_false,zJ]
    exact ⟨_,_,rfl,rfl,by simp⟩
end
end Go.Pl

namespace Go.Pl
open Go Go.Ab Go.Wk Go.Pc
end Go.Pl

namespace Go.Pl
open Go Go.Ab Go.Wk Go.Pc
theorem zG8 {N c:Nat} {f:Nat → Int}:(mkv N f).drop c = mkv (N - c) fun i => f (c + i):=by
 have hl:((mkv N f).drop c).length = N - c:=by rw [List.length_drop,zZ]
 rw [vJ hl]
 exact zY fun j hj => by rw [tZ,yE (by omega)]
theorem jH {n j:Nat}:wJ n j = mkv n fun i => if i = j then 1 else 0:=by
 rw [wJ,show zeros n = List.replicate n (0:Int) from rfl,tL,qO]
theorem uD {n i:Nat}:at0 (zeros n) i = 0:=by
 rcases Nat.lt_or_ge i n with g | g
 ·simp [zeros,at0,List.getD_eq_getElem?_getD,g]
 ·simp [zeros,at0,List.getD_eq_getElem?_getD,g]
section
variable {D:Nat} {x:SPr} {m:zC} {T:Mx} (h:Pres x) (hE:zG0 x.zA.length D x m T) (hT:∀ i,i < T.length → Row m.Prime D (T.getD i []))
 include h hE hT
abbrev exx (D:Nat) (x:SPr) (m:zC) (T:Mx):SPr:=ext x.zA.length D x m T
theorem uL:(exx D x m T).zA.length = x.zA.length + D:=by
 have _:=h;have _:=hE;have _:=hT
 simp [exx,ext]
theorem zCp {i:Nat} (hi:i < x.zA.length):at0 (exx D x m T).zA i = at0 x.zA i:=by
 have _:=h;have _:=hE;have _:=hT
 show at0 (x.zA ++ List.replicate D m.Prime) i = _
 rw [zBf,if_pos hi]
theorem zBi {i:Nat} (hi:x.zA.length ≤ i) (h2:i < x.zA.length + D):at0 (exx D x m T).zA i = m.Prime:=by
 have _:=h;have _:=hE;have _:=hT
 show at0 (x.zA ++ List.replicate D m.Prime) i = _
 rw [zBf,if_neg (by omega)]
 simp [at0,List.getD_eq_getElem?_getD,show i - x.zA.length < D by omega]
theorem zLD {v t:List Int} {i:Nat} (hv:v.length = x.zA.length) (hr:∀ j,j < x.zA.length → 0 ≤ at0 v j ∧ at0 v j ≤ at0 x.zA j - 1) (hz:∀ j,j ≤ i → j < x.zA.length → at0 v j = 0) (ht:Row m.Prime D t) (hi:i < x.zA.length):Exp (exx D x m T).zA (v ++ t) i:=by
 have hl:=uL h hE hT
 refine ⟨⟨by rw [List.length_append,hv,ht.1,hl],fun j hj => ?_⟩,fun j hj => ?_⟩
 ·rw [List.length_append,hv,ht.1] at hj
  rw [zBf,hv]
  split
  ·next g => rw [zCp h hE hT g];exact hr j g
  ·next g => rw [zBi h hE hT (by omega) hj];exact ht.2 _ (by omega)
 ·rw [zBf,if_pos (by omega)];exact hz j hj (by omega)
theorem zKh (i:Nat) (hi:i < base x.zA.length x.zA.length):Row m.Prime D (T.getD i []):=by
 have _:=h
 exact hT i (by rw [hE.t];exact hi)
theorem zDH:Pres (exx D x m T):=by
 have hn:=hE.hn
 have h3:=hE.m.d3
 have h7:=hE.m.p.pos
 have hl:=uL h hE hT
 have hb:=sV x.zA.length (by omega)
 refine ⟨⟨by rw [hl];omega,fun i hi => ?_⟩,by rw [hl];exact xX,by rw [hl];exact xX,fun i hi => ?_⟩
 ·rw [hl] at hi
  rcases Nat.lt_or_ge i x.zA.length with g | g
  ·rw [zCp h hE hT g];exact h.os.2 i g
  ·rw [zBi h hE hT g hi];exact hE.m.p
 ·rw [hl] at hi
  have hP:(exx D x m T).zU.getD i [] = exP x.zA.length D x T i:=xL hi
  have hC:(exx D x m T).zB.getD i [] = exC x.zA.length D x m T i:=by
   show (gl (x.zA.length + D) (exC x.zA.length D x m T)).getD i [] = _
   simp [gl,List.getD_eq_getElem?_getD,hi]
  refine ⟨?_,?_,?_⟩
  ·rw [hP,exP]
   rcases Nat.lt_or_ge i x.zA.length with g | g
   ·rw [if_pos g]
    obtain ⟨t1,_,_⟩:=h.tl i g
    exact zLD h hE hT t1.1.1 (fun j hj => t1.1.2 j (by rw [t1.1.1];exact hj)) (fun j hj _ => t1.2 j hj) (zKh h hE hT i (by omega)) g
   ·rw [if_neg (by omega)]
    have hz:∀ j,at0 (List.replicate (x.zA.length + D) (0:Int)) j = 0:=fun j => uD
    refine ⟨⟨by rw [hl,List.length_replicate],fun j hj => ?_⟩,fun j _ => hz j⟩
    rw [List.length_replicate] at hj
    rw [hz]
    rcases Nat.lt_or_ge j x.zA.length with g2 | g2
    ·rw [zCp h hE hT g2];have:=(h.os.2 j g2).pos;omega
    ·rw [zBi h hE hT g2 hj];omega
  ·rw [hC,exC,hl]
   split
   ·rw [xX];omega
   ·rw [unC,xX];omega
  ·rw [hC,exC]
   split
   ·next g =>
    intro j hj
    rw [xX] at hj
    rw [xL hj,exF]
    split
    ·next g2 =>
     have hcl:=hE.cl i g
     have hbl:=zFg x.zA.length (by omega) i g
     obtain ⟨_,_,t3⟩:=h.tl i g
     have t:=t3 j (by omega)
     exact zLD h hE hT t.1.1 (fun q hq => t.1.2 q (by rw [t.1.1];exact hq)) (fun q hq _ => t.2 q hq) (zKh h hE hT _ (by omega)) g
    ·next g2 =>
     have hz:∀ j,at0 (List.replicate x.zA.length (0:Int)) j = 0:=fun j => uD
     refine zLD h hE hT (by simp) (fun q hq => ?_) (fun q _ _ => hz q) ((hE.m.mat i g).2 _ (by omega)) g
     rw [hz];have:=(h.os.2 q hq).pos;omega
   ·next g =>
    intro j hj
    rw [unC,xX] at hj
    rw [unC,xL hj]
    refine ⟨⟨by rw [hl];exact zZ _ _,fun q hq => ?_⟩,fun q hq => ?_⟩
    ·rw [sJ,zZ] at hq
     rw [sJ,yE hq]
     rcases Nat.lt_or_ge q x.zA.length with g2 | g2
     ·rw [zCp h hE hT g2];have:=(h.os.2 q g2).pos;split <;> omega
     ·rw [zBi h hE hT g2 hq];split <;> omega
    ·rw [sJ,yE (by omega),if_neg (by omega)]
theorem zG9 {k:Nat} (hk:k < x.zA.length):(lvl (exx D x m T) k).o = at0 x.zA k:=zCp h hE hT hk
theorem zUc {k:Nat} (hk:k < x.zA.length):(lvl (exx D x m T) k).w = (lvl x k).w ++ T.getD k []:=by
 have t1:=(h.tl k hk).1.1.1
 have _:=hE;have _:=hT
 show ((exx D x m T).zU.getD k []).drop (k + 1) = _
 have hP:(exx D x m T).zU.getD k [] = exP x.zA.length D x T k:=xL (by omega)
 rw [hP,exP,if_pos hk,List.drop_append_of_le_length (by omega)]
 rfl
def eC1 (x:SPr) (T:Mx) (k:Nat):List Vec:=gl (x.zA.length - 1 - k) fun j => (lvl x k).cs.getD j [] ++ T.getD (base x.zA.length k + j) []
def eC2 (x:SPr) (m:zC) (D k:Nat):List Vec:=((gl D fun j => (m.zI.getD k []).getD j []).map fun r => zeros (x.zA.length - 1 - k) ++ r)
theorem zGA {k:Nat} (hk:k < x.zA.length):(lvl (exx D x m T) k).cs = eC1 x T k ++ eC2 x m D k:=by
 have hcl:=hE.cl k hk
 have _:=hT
 show ((exx D x m T).zB.getD k []).map (·.drop (k + 1)) = _
 have hC:(exx D x m T).zB.getD k [] = exC x.zA.length D x m T k:=by
  show (gl (x.zA.length + D) (exC x.zA.length D x m T)).getD k [] = _
  simp [gl,List.getD_eq_getElem?_getD,show k < x.zA.length + D by omega]
 rw [hC,exC,if_pos hk]
 apply List.ext_getElem?
 intro j
 by_cases hj:j < x.zA.length + D - 1 - k
 ·have e1:((gl (x.zA.length + D - 1 - k) (exF x.zA.length x m T k)).map (·.drop (k + 1)))[j]? = some ((exF x.zA.length x m T k j).drop (k + 1)):=by simp [gl,hj]
  rw [e1,exF]
  by_cases g:j < x.zA.length - 1 - k
  ·rw [if_pos g,List.getElem?_append_left (by rw [eC1,xX];exact g)]
   have t:=(h.tl k hk).2.2 j (by omega)
   rw [List.drop_append_of_le_length (by have:=t.1.1;omega)]
   have e2:(eC1 x T k)[j]? = some ((lvl x k).cs.getD j [] ++ T.getD (base x.zA.length k + j) []):=by simp [eC1,gl,g]
   rw [e2]
   congr 2
   simp only [lvl,List.getD_eq_getElem?_getD,List.getElem?_map]
   rw [List.getElem?_eq_getElem (l:=x.zB[k]?.getD []) (by rw [List.getD_eq_getElem?_getD] at hcl;omega)]
   rfl
  ·rw [if_neg g,List.getElem?_append_right (by rw [eC1,xX];omega),eC1,xX]
   have e2:(eC2 x m D k)[j - (x.zA.length - 1 - k)]? = some (zeros (x.zA.length - 1 - k) ++ (m.zI.getD k []).getD (j - (x.zA.length - 1 - k)) []):=by
    simp [eC2,gl,show j - (x.zA.length - 1 - k) < D by omega]
   rw [e2,List.drop_append_of_le_length (by simp;omega),List.drop_replicate,show x.zA.length - (k + 1) = x.zA.length - 1 - k from by omega]
   rfl
 ·rw [List.getElem?_eq_none (by simp [gl];omega),List.getElem?_eq_none (by simp [eC1,eC2,gl];omega)]
end
def tlv (p:Int):Nat → Pcp
 | 0 => []
 | d + 1 => ⟨p,zeros d,xM d⟩ :: tlv p d
theorem zFj {p:Int}:∀ d,(tlv p d).length = d
 | 0 => rfl
 | d + 1 => by simp [tlv,zFj d]
theorem zEL {p:Int}:∀ (d:Nat) (v:Vec),V (tlv p d) v ↔ Row p d v
 | 0,v => by
  constructor
  ·intro h
   obtain rfl:v = []:=h
   exact ⟨rfl,fun i hi => by omega⟩
  ·intro h
   have:=List.eq_nil_of_length_eq_zero h.1
   subst this;exact rfl
 | d + 1,v => by
  cases v with
  | nil => exact ⟨fun h => h.elim,fun h => by have:=h.1;simp at this⟩
  | cons a v =>
   show ((0 ≤ a ∧ a < p) ∧ V (tlv p d) v) ↔ _
   rw [zEL d v]
   constructor
   ·rintro ⟨⟨h0,h1⟩,h2⟩
    refine ⟨by simp [h2.1],fun i hi => ?_⟩
    cases i with
    | zero => simp only [at0,List.getD_cons_zero];omega
    | succ i => have:=h2.2 i (by omega);simpa [at0] using this
   ·intro h
    have h0:=h.2 0 (by omega)
    simp only [at0,List.getD_cons_zero] at h0
    refine ⟨⟨h0.1,by omega⟩,by have:=h.1;simpa using this,fun i hi => ?_⟩
    have:=h.2 (i + 1) (by omega)
    simpa [at0] using this
abbrev adv (p:Int) (D:Nat) (u v:List Int):List Int:=mkv D fun j => (at0 u j + at0 v j) % p
theorem zAj {p:Int} {D:Nat} {u v:List Int} (hp:0 < p):Row p D (adv p D u v):=by
 refine ⟨zZ _ _,fun j hj => ?_⟩
 rw [yE hj]
 have e1:=Int.emod_nonneg (at0 u j + at0 v j) (show p ≠ 0 by omega)
 have e2:=Int.emod_lt_of_pos (at0 u j + at0 v j) hp
 omega
theorem zGB {p:Int} {D:Nat} {c:List Int} (hp:0 < p):∀ (k:Nat) (acc:List Int),Row p D acc → iter k (fun w => adv p D w c) acc = mkv D fun j => (at0 acc j + (k:Int) * at0 c j) % p
 | 0,acc,ha => by
  show acc = _
  conv => lhs;rw [vJ ha.1]
  refine zY fun j hj => ?_
  have:=ha.2 j hj
  rw [Int.natCast_zero,Int.zero_mul,Int.add_zero,Int.emod_eq_of_lt this.1 (by omega)]
 | k + 1,acc,ha => by
  show iter k (fun w => adv p D w c) (adv p D acc c) = _
  rw [zGB hp k _ (zAj hp)]
  refine zY fun j hj => ?_
  rw [yE hj,Int.add_emod,Int.emod_emod,← Int.add_emod,← cs,Int.add_mul]
  congr 1;omega
theorem zVd {f:Nat → Int} {n:Nat}:S (n + 1) f = f 0 + S n fun i => f (i + 1):=by
 rw [Nat.add_comm,zFh 1 n]
 simp only [S]
 rw [Int.zero_add]
 congr 1
 exact wU fun i _ => by rw [Nat.add_comm]
theorem zFk {p:Int} {D:Nat} (hp:0 < p):∀ (cs:List Vec) (v acc:Vec),v.length = cs.length → (∀ i,i < v.length → 0 ≤ at0 v i) → Row p D acc → img (adv p D) cs v acc = mkv D fun j => (at0 acc j + S cs.length fun k => at0 v k * ent cs k j) % p
 | [],v,acc,hl,_,ha => by
  show acc = _
  conv => lhs;rw [vJ ha.1]
  refine zY fun j hj => ?_
  have:=ha.2 j hj
  simp only [List.length_nil,S]
  rw [Int.add_zero,Int.emod_eq_of_lt this.1 (by omega)]
 | c :: cs,[],acc,hl,_,_ => by simp at hl
 | c :: cs,a :: v,acc,hl,hv,ha => by
  have h0:=hv 0 (by simp)
  simp only [at0,List.getD_cons_zero] at h0
  have hrow:Row p D (iter a.toNat (fun w => adv p D w c) acc):=wZ (S:=Row p D) (fun _ _ => zAj hp) _ ha
  show img (adv p D) cs v (iter a.toNat (fun w => adv p D w c) acc) = _
  rw [zFk hp cs v _ (by simpa using hl) (fun i hi => by have:=hv (i + 1) (by simpa using hi);simpa [at0] using this) hrow,zGB hp _ _ ha]
  refine zY fun j hj => ?_
  rw [yE hj,List.length_cons,zVd,Int.add_emod,Int.emod_emod,← Int.add_emod,Int.toNat_of_nonneg h0,Int.add_assoc]
  rfl
theorem zCq {α:Type} {S:α → Prop} {m m':α → α → α} (hm:∀ a b,S a → S b → m a b = m' a b) (hc:∀ a b,S a → S b → S (m' a b)):∀ (cs:List α) (v:Vec) (acc:α),(∀ c ∈ cs,S c) → S acc → img m cs v acc = img m' cs v acc
 | [],_,_,_,_ => by simp [img]
 | c :: cs,[],_,_,_ => by simp [img]
 | c :: cs,a :: v,acc,h1,h2 => by
  have hcS:=h1 c (by simp)
  have e:∀ k acc,S acc → iter k (fun w => m w c) acc = iter k (fun w => m' w c) acc ∧ S (iter k (fun w => m' w c) acc):=by
   intro k
   induction k with
   | zero => intro acc ha;exact ⟨rfl,ha⟩
   | succ k ih =>
    intro acc ha
    show iter k (fun w => m w c) (m acc c) = iter k (fun w => m' w c) (m' acc c) ∧ _
    rw [hm acc c ha hcS]
    exact ih _ (hc _ _ ha hcS)
  show img m cs v (iter a.toNat (fun w => m w c) acc) = img m' cs v (iter a.toNat (fun w => m' w c) acc)
  rw [(e _ _ h2).1]
  exact zCq hm hc cs v _ (fun c hc => h1 c (by simp [hc])) (e _ _ h2).2
theorem zCr {d k j:Nat} (hk:k < d) (hj:j < d):ent (xM d) k j = if j = k then 1 else 0:=by
 have e:(xM d).getD k [] = wJ d k:=by simp [xM,List.getD_eq_getElem?_getD,hk]
 rw [ent,e,jH,yE hj]
theorem sC {p:Int} {D:Nat} (hp:0 < p):Row p D (zeros D):=zGw hp
theorem qR {p:Int} (hp:2 ≤ p):∀ (d:Nat) (u v:Vec),Row p d u → Row p d v → mul (tlv p d) u v = adv p d u v
 | 0,u,v,hu,_ => by
  have:=List.eq_nil_of_length_eq_zero hu.1
  subst this
  rfl
 | d + 1,u,v,hu,hv => by
  have ih:=qR hp d
  have hu':=(zEL (d + 1) u).2 hu
  have hv':=(zEL (d + 1) v).2 hv
  cases u with
  | nil => exact hu'.elim
  | cons a u =>
   cases v with
   | nil => exact hv'.elim
   | cons b v =>
    obtain ⟨⟨a0,a1⟩,hu2⟩:=hu'
    obtain ⟨⟨b0,b1⟩,hv2⟩:=hv'
    have hu3:=(zEL d u).1 hu2
    have hv3:=(zEL d v).1 hv2
    change a < p at a1
    change b < p at b1
    have hsig:∀ w,Row p d w → sig (tlv p d) ⟨p,zeros d,xM d⟩ w = w:=fun w hw => by
     have hur:∀ c ∈ xM d,Row p d c:=fun c hc => by
      obtain ⟨k,hk,rfl⟩:=List.mem_map.1 hc
      rw [jH]
      exact ⟨zZ _ _,fun j hj => by rw [yE hj];split <;> omega⟩
     unfold sig
     rw [zFj,zCq (S:=Row p d) (m':=adv p d) (fun a b ha hb => ih a b ha hb) (fun _ _ _ _ => zAj (by omega)) (xM d) w _ hur (sC (by omega)),zFk (by omega) (xM d) w _ (by rw [hw.1];simp [xM]) (fun i hi => (hw.2 i (by rw [← hw.1];exact hi)).1) (sC (by omega))]
     conv => rhs;rw [vJ hw.1]
     refine zY fun j hj => ?_
     have hul:(xM d).length = d:=by simp [xM]
     have:=hw.2 j hj
     rw [hul,uD,Int.zero_add,zAF (k:=j) hj (fun k hk hne => by rw [zCr hk hj,if_neg (Ne.symm hne),Int.mul_zero]),zCr hj hj,if_pos rfl,Int.mul_one,Int.emod_eq_of_lt this.1 (by omega)]
    have hit:∀ k,iter k (sig (tlv p d) ⟨p,zeros d,xM d⟩) u = u:=fun k => zG3 (hsig u hu3) k
    show mul (⟨p,zeros d,xM d⟩ :: tlv p d) (a :: u) (b :: v) = _
    rw [yR,hit,ih u v hu3 hv3]
    have hz:adv p d (zeros d) (adv p d u v) = adv p d u v:=by
     refine zY fun j hj => ?_
     rw [yE hj,uD,Int.zero_add,Int.emod_emod]
    rw [ih _ _ (sC (by omega)) (zAj (by omega)),hz]
    have hcons:adv p (d + 1) (a :: u) (b :: v) = (a + b) % p :: adv p d u v:=by
     simp only [adv,mkv,List.range_succ_eq_map,List.map_cons,List.map_map]
     congr 1
    rw [hcons]
    split
    ·next g =>
     have g:a + b ≥ p:=g
     have e:(a + b) % p = a + b - p:=by
      rw [show a + b = (a + b - p) + p from by omega,Int.add_emod_right,Int.emod_eq_of_lt (by omega) (by omega)]
      omega
     exact congrArg (· :: _) e.symm
    ·next g =>
     have g:¬ a + b ≥ p:=g
     congr 1
     exact (Int.emod_eq_of_lt (by omega) (by omega)).symm
end Go.Pl

namespace Go.Pl
open Go Go.Ab Go.Wk Go.Pc
theorem zNm {α:Type} {m:α → α → α}:∀ (c1:List α) (y:Vec) (c2:List α) (u:Vec) (acc:α),c1.length = y.length → img m (c1 ++ c2) (y ++ u) acc = img m c2 u (img m c1 y acc)
 | [],[],_,_,_,_ => by cases ‹List α› <;> rfl
 | [],_ :: _,_,_,_,h => by simp at h
 | _ :: _,[],_,_,_,h => by simp at h
 | c :: c1,a :: y,c2,u,acc,h => zNm c1 y c2 u _ (by simpa using h)
theorem zGC {α β:Type} {S:α → Prop} {m:α → α → α} {n:β → β → β} (φ:α → β) (hS:∀ a b,S a → S b → S (m a b)) (hm:∀ a b,S a → S b → φ (m a b) = n (φ a) (φ b)):∀ (cs:List α) (v:Vec) (a:α),(∀ c ∈ cs,S c) → S a → φ (img m cs v a) = img n (cs.map φ) v (φ a)
 | [],v,a,_,_ => by cases v <;> rfl
 | _ :: _,[],_,_,_ => rfl
 | c :: cs,t :: v,a,hc,ha => by
  have hcS:=hc c (by simp)
  have e:∀ k a,S a → φ (iter k (fun w => m w c) a) = iter k (fun w => n w (φ c)) (φ a) ∧ S (iter k (fun w => m w c) a):=by
   intro k
   induction k with
   | zero => intro a ha;exact ⟨rfl,ha⟩
   | succ k ih =>
    intro a ha
    have:=ih (m a c) (hS _ _ ha hcS)
    rw [hm a c ha hcS] at this
    exact this
  show φ (img m cs v (iter t.toNat (fun w => m w c) a)) = img n (cs.map φ) v (iter t.toNat (fun w => n w (φ c)) (φ a))
  rw [← (e _ a ha).1]
  exact zGC φ hS hm cs v _ (fun c h => hc c (by simp [h])) (e _ a ha).2
theorem zKi {p:Int} {D:Nat} {r:List Int} (hr:Row p D r):tM p D r (idM D) = r:=by
 conv => rhs;rw [vJ hr.1]
 refine zY fun j hj => ?_
 have:=hr.2 j hj
 have e:∀ l,l < D → ent (idM D) l j = if j = l then 1 else 0:=fun l hl => by rw [ent,zCl hl,yE hj]
 rw [zAF (k:=j) hj (fun k hk hne => by rw [e k hk,if_neg (Ne.symm hne),Int.mul_zero]),e j hj,if_pos rfl,Int.mul_one,kC this]
theorem zNn {p:Int} {D:Nat} {r:List Int} {A B:Mx} (hA:A.length = D):tM p D (tM p D r A) B = tM p D r (PM p D A B):=by
 refine zY fun j hj => ?_
 have e1:S D (fun l => at0 (tM p D r A) l * ent B l j) % p = S D (fun l => S D (fun i => at0 r i * ent A i l) * ent B l j) % p:=zD6 fun l hl => by
  rw [tM,yE hl,Int.mul_emod,Int.emod_emod,← Int.mul_emod]
 have e2:S D (fun l => at0 r l * ent (PM p D A B) l j) % p = S D (fun i => at0 r i * S D (fun l => ent A i l * ent B l j)) % p:=zD6 fun l hl => by
  rw [zLs hA hl hj,Int.mul_emod,Int.emod_emod,← Int.mul_emod]
 rw [e1,e2]
 congr 1
 have e3:S D (fun l => S D (fun i => at0 r i * ent A i l) * ent B l j) = S D (fun l => S D (fun i => at0 r i * ent A i l * ent B l j)):=wU fun l _ => (zPU _ _).symm
 rw [e3,zLr]
 refine wU fun i _ => ?_
 rw [← zEr]
 exact wU fun l _ => by rw [Int.mul_assoc]
theorem zLE {p:Int} {D:Nat} {v:List Int} (hv:Row p D v):adv p D (zeros D) v = v:=by
 conv => rhs;rw [vJ hv.1]
 refine zY fun j hj => ?_
 rw [uD,Int.zero_add,kC (hv.2 j hj)]
theorem zQs {p:Int} {D:Nat} {acc v:List Int} {A:Mx} (hl:A.length = D):(mkv D fun j => (at0 acc j + S A.length fun k => at0 v k * ent A k j) % p) = adv p D acc (tM p D v A):=by
 refine zY fun j hj => ?_
 rw [tM,yE hj,hl,Int.add_emod_emod]
theorem zBT {p:Int} {D:Nat} {u v:List Int}:adv p D u v = adv p D v u:=zY fun j _ => by rw [Int.add_comm]
section
variable {D:Nat} {x:SPr} {m:zC} {T:Mx} (h:Pres x) (hE:zG0 x.zA.length D x m T) (hT:∀ i,i < T.length → Row m.Prime D (T.getD i []))
 include h hE hT
theorem zBj:∀ (d k:Nat),x.zA.length ≤ k → k + d = x.zA.length + D → suf (exx D x m T) k = tlv m.Prime d
 | 0,k,hk,hd => by rw [vY (by rw [uL h hE hT];omega)];rfl
 | d + 1,k,hk,hd => by
  have hl:=uL h hE hT
  rw [yK (by omega),zBj d (k + 1) (by omega) (by omega),tlv]
  congr 1
  have hP:(exx D x m T).zU.getD k [] = exP x.zA.length D x T k:=xL (by omega)
  have hC:(exx D x m T).zB.getD k [] = exC x.zA.length D x m T k:=by
   show (gl (x.zA.length + D) (exC x.zA.length D x m T)).getD k [] = _
   simp [gl,List.getD_eq_getElem?_getD,show k < x.zA.length + D by omega]
  unfold lvl
  rw [hP,hC,exP,exC,if_neg (by omega),if_neg (by omega),zBi h hE hT hk (by omega),List.drop_replicate,show x.zA.length + D - (k + 1) = d from by omega]
  congr 1
  rw [unC,xM,gl,List.map_map,show x.zA.length + D - 1 - k = d from by omega]
  refine List.map_congr_left fun j hj => ?_
  have hj:=List.mem_range.1 hj
  show (sJ (x.zA.length + D) (k + 1 + j)).drop (k + 1) = wJ d j
  rw [sJ,zG8,jH,show x.zA.length + D - (k + 1) = d from by omega]
  refine zY fun i _ => ?_
  by_cases g:i = j
  ·rw [if_pos g,if_pos (by omega)]
  ·rw [if_neg g,if_neg (by omega)]
theorem zCD:∀ (d k:Nat),k + d = x.zA.length → ∀ v,V (suf (exx D x m T) k) v ↔ ∃ y u,v = y ++ u ∧ V (suf x k) y ∧ Row m.Prime D u
 | 0,k,hk,v => by
  rw [zBj h hE hT D k (by omega) (by omega),zEL,vY (x:=x) (k:=k) (by omega)]
  constructor
  ·intro g;exact ⟨[],v,rfl,rfl,g⟩
  ·rintro ⟨y,u,rfl,hy,hu⟩
   obtain rfl:y = []:=hy
   exact hu
 | d + 1,k,hk,v => by
  have hl:=uL h hE hT
  have ih:=zCD d (k + 1) (by omega)
  rw [yK (x:=exx D x m T) (by omega),yK (x:=x) (by omega)]
  cases v with
  | nil =>
   refine ⟨fun g => g.elim,?_⟩
   rintro ⟨y,u,e,hy,hu⟩
   cases y with
   | nil => exact hy.elim
   | cons a y => simp at e
  | cons a v =>
   show ((0 ≤ a ∧ a < (lvl (exx D x m T) k).o) ∧ V (suf (exx D x m T) (k + 1)) v) ↔ _
   rw [zG9 h hE hT (by omega),ih v]
   constructor
   ·rintro ⟨g,y,u,rfl,hy,hu⟩
    exact ⟨a :: y,u,rfl,⟨g,hy⟩,hu⟩
   ·rintro ⟨y,u,e,hy,hu⟩
    cases y with
    | nil => exact hy.elim
    | cons b y =>
     simp only [List.cons_append,List.cons.injEq] at e
     obtain ⟨rfl,rfl⟩:=e
     exact ⟨hy.1,y,u,rfl,hy.2,hu⟩
theorem zHL:∀ (d k:Nat),k + d = x.zA.length → ∀ y u r,V (suf x k) y → Row m.Prime D u → Row m.Prime D r → mul (suf (exx D x m T) k) (y ++ u) (zeros d ++ r) = y ++ adv m.Prime D u r
 | 0,k,hk,y,u,r,hy,hu,hr => by
  have hp:=hE.m.p.pos
  rw [vY (x:=x) (k:=k) (by omega)] at hy
  obtain rfl:y = []:=hy
  rw [zBj h hE hT D k (by omega) (by omega)]
  exact qR (by omega) D u r hu hr
 | d + 1,k,hk,y,u,r,hy,hu,hr => by
  have hl:=uL h hE hT
  rw [yK (x:=x) (by omega)] at hy
  cases y with
  | nil => exact hy.elim
  | cons a y =>
   obtain ⟨⟨a0,a1⟩,hy⟩:=hy
   change a < at0 x.zA k at a1
   rw [yK (x:=exx D x m T) (by omega)]
   show mul _ (a :: (y ++ u)) (0 :: (zeros d ++ r)) = _
   rw [yR,zG9 h hE hT (by omega),if_neg (by omega)]
   show (a + 0) :: mul _ (y ++ u) (zeros d ++ r) = _
   rw [zHL d (k + 1) (by omega) y u r hy hu hr,Int.add_zero];rfl
theorem zBs {k:Nat} (hk:k ≤ x.zA.length + D):Pc.Ok (suf (exx D x m T) k):=(zDH h hE hT).okAt (by rw [uL h hE hT];exact hk)
theorem zLF {d k:Nat} (hk:k + d = x.zA.length):∀ (rs:List Vec) (v:Vec) (y u:Vec),(∀ r ∈ rs,Row m.Prime D r) → V (suf x k) y → Row m.Prime D u → img (mul (suf (exx D x m T) k)) (rs.map fun r => zeros d ++ r) v (y ++ u) = y ++ img (adv m.Prime D) rs v u
 | [],v,y,u,_,_,_ => by cases v <;> rfl
 | _ :: _,[],_,_,_,_,_ => rfl
 | c :: rs,t :: v,y,u,hr,hy,hu => by
  have hp:=hE.m.p.pos
  have hc:=hr c (by simp)
  have e:∀ q u,Row m.Prime D u → iter q (fun w => mul (suf (exx D x m T) k) w (zeros d ++ c)) (y ++ u) = y ++ iter q (fun w => adv m.Prime D w c) u:=by
   intro q
   induction q with
   | zero => intro u _;rfl
   | succ q ih =>
    intro u hu
    show iter q _ (mul _ (y ++ u) (zeros d ++ c)) = _
    rw [zHL h hE hT d k hk y u c hy hu hc,ih _ (zAj (by omega))]
    rfl
  show img _ (rs.map fun r => zeros d ++ r) v (iter t.toNat (fun w => mul (suf (exx D x m T) k) w (zeros d ++ c)) (y ++ u)) = _
  rw [e _ _ hu,zLF hk rs v y _ (fun r h => hr r (by simp [h])) hy (wZ (S:=Row m.Prime D) (fun _ _ => zAj (by omega)) _ hu)]
  rfl
theorem zVe {k:Nat} (hk:k < x.zA.length):(gl D fun j => (m.zI.getD k []).getD j []) = m.zI.getD k []:=by
 have _:=h;have _:=hT
 have hl:=(hE.m.mat k hk).1
 apply List.ext_getElem?
 intro j
 simp only [gl,List.getElem?_map]
 by_cases g:j < D
 ·rw [List.getElem?_range g,Option.map_some,List.getD_eq_getElem?_getD (i:=j),List.getElem?_eq_getElem (by omega)];rfl
 ·rw [List.getElem?_eq_none (by simp;omega),List.getElem?_eq_none (by omega)];rfl
def sgG (D:Nat) (x:SPr) (m:zC) (T:Mx) (k:Nat) (y:Vec):Vec:=img (mul (suf (exx D x m T) (k + 1))) (eC1 x T k) y (zeros (suf (exx D x m T) (k + 1)).length)
theorem zDI {k:Nat}:(eC1 x T k).length = x.zA.length - 1 - k:=by have _:=h;have _:=hE;have _:=hT;rw [eC1,xX]
theorem zQt {k:Nat} (hk:k < x.zA.length):∀ c ∈ eC1 x T k,V (suf (exx D x m T) (k + 1)) c:=by
 intro c hc
 have ok:=zBs h hE hT (k:=k) (by omega)
 rw [yK (by rw [uL h hE hT];omega)] at ok
 exact ok.2.2.2.1 c (by rw [zGA h hE hT hk];exact List.mem_append_left _ hc)
theorem zBU {k:Nat} (hk:k ≤ x.zA.length):zeros (suf (exx D x m T) k).length = zeros (x.zA.length - k) ++ zeros D:=by
 rw [xI,uL h hE hT]
 simp only [zeros,List.replicate_append_replicate];congr 1;omega
theorem zQu {k:Nat} (hk:k < x.zA.length) {y:Vec}:V (suf (exx D x m T) (k + 1)) (sgG D x m T k y):=by
 have ok:=zBs h hE hT (k:=k + 1) (by omega)
 exact sS (xJ ok) _ _ (zQt h hE hT hk) (wH ok)
theorem zLG {k:Nat} (hk:k < x.zA.length) {y u:Vec} (hy:V (suf x (k + 1)) y) (hu:Row m.Prime D u) :
  sig (suf (exx D x m T) (k + 1)) (lvl (exx D x m T) k) (y ++ u) = (sgG D x m T k y).take (x.zA.length - (k + 1)) ++ adv m.Prime D ((sgG D x m T k y).drop (x.zA.length - (k + 1))) (tM m.Prime D u (m.zI.getD k [])):=by
 have hp:=hE.m.p.pos
 have hA:=hE.m.mat k hk
 have hyl:=sG h (by omega) hy
 unfold sig
 rw [zGA h hE hT hk,zNm _ _ _ _ _ (by rw [zDI h hE hT];omega)]
 show img _ (eC2 x m D k) u (sgG D x m T k y) = _
 obtain ⟨y1,u1,e,hy1,hu1⟩:=(zCD h hE hT (x.zA.length - (k + 1)) (k + 1) (by omega) _).1 (zQu h hE hT hk (y:=y))
 have hy1l:=sG h (by omega) hy1
 rw [e,eC2,zVe h hE hT hk,show x.zA.length - 1 - k = x.zA.length - (k + 1) from by omega,zLF h hE hT (by omega) _ _ _ _ (fun r hr => ?_) hy1 hu1,zFk (by omega) _ _ _ (by rw [hA.1,hu.1]) (fun i hi => (hu.2 i (by rw [← hu.1];exact hi)).1) hu1,zQs hA.1,List.take_left' hy1l,List.drop_left' hy1l]
 obtain ⟨j,hj,rfl⟩:=List.mem_iff_getElem.1 hr
 have hAl:=hA.1
 have:=hA.2 j (by omega)
 rwa [List.getD_eq_getElem?_getD,List.getElem?_eq_getElem hj] at this
theorem zFl {k:Nat} (hk:k < x.zA.length) {u:Vec} (hu:Row m.Prime D u) :
  sig (suf (exx D x m T) (k + 1)) (lvl (exx D x m T) k) (zeros (x.zA.length - (k + 1)) ++ u) = zeros (x.zA.length - (k + 1)) ++ tM m.Prime D u (m.zI.getD k []):=by
 have hp:=hE.m.p.pos
 have ok:=h.okAt (k:=k + 1) (by omega)
 have hz:=wH ok
 rw [xI] at hz
 have e:sgG D x m T k (zeros (x.zA.length - (k + 1))) = zeros (x.zA.length - (k + 1)) ++ zeros D:=by
  unfold sgG
  rw [zAA,zBU h hE hT (by omega)]
 rw [zLG h hE hT hk hz hu,e,List.take_left' (zS _),List.drop_left' (zS _),zLE (jE (by omega))]
theorem zGD {k:Nat} (hk:k < x.zA.length):∀ (q:Nat) {u:Vec},Row m.Prime D u →
  iter q (sig (suf (exx D x m T) (k + 1)) (lvl (exx D x m T) k)) (zeros (x.zA.length - (k + 1)) ++ u) = zeros (x.zA.length - (k + 1)) ++ iter q (fun u => tM m.Prime D u (m.zI.getD k [])) u
 | 0,u,_ => rfl
 | q + 1,u,hu => by
  have hp:=hE.m.p.pos
  show iter q _ (sig _ _ _) = _
  rw [zFl h hE hT hk hu,zGD hk q (jE (by omega))]
  rfl
end
end Go.Pl

namespace Go.Pl
open Go Go.Ab Go.Wk Go.Pc
theorem zEz {p:Int} {D:Nat} {A:Mx} (hA:Mat p D A) (hp:2 ≤ p) {r:List Int} (hr:Row p D r):∀ q,iter q (fun u => tM p D u A) r = tM p D r (pw (PM p D) (idM D) A q)
 | 0 => (zKi hr).symm
 | q + 1 => by
  have hm:Mat p D (pw (PM p D) (idM D) A q):=wZ (S:=Mat p D) (fun _ hB => zBP (by omega) hB.1) q (zAe hp)
  unfold pw at *
  rw [vE,vE,zEz hA hp hr q]
  exact zNn hm.1
theorem zQv {p:Int} {D:Nat} (hp:0 < p) {r:List Int}:iter p.toNat (fun w => adv p D w r) (zeros D) = zeros D:=by
 rw [zGB hp _ _ (sC hp)]
 rw [show zeros D = mkv D fun _ => 0 from tL D]
 refine zY fun j hj => ?_
 rw [yE hj,Int.toNat_of_nonneg (by omega),Int.zero_add,Int.mul_emod_right]
theorem zLH {p:Int} {D:Nat} {A:Mx}:tM p D (zeros D) A = zeros D:=by
 rw [show zeros D = mkv D fun _ => 0 from tL D]
 refine zY fun j hj => ?_
 rw [wU (g:=fun _ => 0) fun l hl => by rw [yE hl,Int.zero_mul],jM,Int.zero_emod]
theorem zOf {p:Int} {D q:Nat} {A:Mx} (hq:q < D) (hA:Mat p D A):tM p D (wJ D q) A = A.getD q []:=by
 have hr:=hA.2 q hq
 conv => rhs;rw [vJ hr.1]
 refine zY fun j hj => ?_
 rw [jH,zAF (k:=q) hq (fun i hi hne => by rw [yE hi,if_neg hne,Int.zero_mul]),yE hq,if_pos rfl,Int.one_mul,kC (hr.2 j hj)]
theorem uV {p:Int} {D q:Nat} (hp:2 ≤ p):Row p D (wJ D q):=by
 rw [jH]
 exact ⟨zZ _ _,fun j hj => by rw [yE hj];split <;> omega⟩
theorem zKj {N D q:Nat} (hq:q < D):wJ (N + D) (N + q) = zeros N ++ wJ D q:=by
 rw [jV (by omega),jV hq,← List.append_assoc]
 simp only [zeros,List.replicate_append_replicate]
 rw [show N + D - (N + q + 1) = D - (q + 1) from by omega]
def aM (m:zC) (D k:Nat) (v:Vec):Mx:=img (PM m.Prime D) (m.zI.drop k) v (idM D)
section
variable {D:Nat} {x:SPr} {m:zC} {T:Mx} (h:Pres x) (hE:zG0 x.zA.length D x m T) (hT:∀ i,i < T.length → Row m.Prime D (T.getD i []))
 include h hE hT
theorem zQw {k:Nat} (hk:k < x.zA.length):(eC1 x T k).map (·.take (x.zA.length - (k + 1))) = (lvl x k).cs:=by
 have _:=hE;have _:=hT
 have hcl:=jZ h hk
 apply List.ext_getElem?
 intro j
 by_cases g:j < x.zA.length - (k + 1)
 ·obtain ⟨c,_,_,c3,c4⟩:=zD2 h hk g
  have hl:=sG h (by omega) c3
  have e1:((eC1 x T k).map (·.take (x.zA.length - (k + 1))))[j]? = some (((lvl x k).cs.getD j [] ++ T.getD (base x.zA.length k + j) []).take (x.zA.length - (k + 1))):=by simp [eC1,gl,show j < x.zA.length - 1 - k by omega]
  rw [e1,c4,List.take_left' hl,List.getElem?_eq_getElem (by omega)]
  rw [List.getD_eq_getElem?_getD,List.getElem?_eq_getElem (by omega)] at c4
  exact congrArg some c4.symm
 ·rw [List.getElem?_eq_none (by simp [eC1,gl];omega),List.getElem?_eq_none (by omega)]
theorem zKk {k:Nat} (hk:k < x.zA.length):m.zI.drop k = m.zI.getD k [] :: m.zI.drop (k + 1):=by
 have _:=h;have _:=hT
 have hl:=hE.m.len
 rw [List.drop_eq_getElem_cons (by omega),List.getD_eq_getElem?_getD,List.getElem?_eq_getElem (by omega)];rfl
theorem zSE {k:Nat} (hk:k < x.zA.length) {b:Int} {y:Vec}:aM m D k (b :: y) = PM m.Prime D (pw (PM m.Prime D) (idM D) (m.zI.getD k []) b.toNat) (aM m D (k + 1) y):=by
 have M:=zSD hE.m
 unfold aM
 rw [zKk h hE hT hk]
 refine tX M (hE.m.mat k hk) fun c hc => ?_
 obtain ⟨i,hi,rfl⟩:=List.mem_iff_getElem.1 (List.mem_of_mem_drop hc)
 have:=hE.m.mat i (by rw [← hE.m.len];exact hi)
 rwa [List.getD_eq_getElem?_getD,List.getElem?_eq_getElem hi] at this
theorem pwM {k q:Nat} (hk:k < x.zA.length):Mat m.Prime D (pw (PM m.Prime D) (idM D) (m.zI.getD k []) q):=by
 have _:=h;have _:=hT;have _:=hk
 have hp:=hE.m.p.pos
 exact wZ (S:=Mat m.Prime D) (fun _ hB => zBP (by omega) hB.1) q (zAe (by omega))
theorem zQx:∀ (d k:Nat),k + d = x.zA.length → ∀ r y v,Row m.Prime D r → V (suf x k) y → Row m.Prime D v → mul (suf (exx D x m T) k) (zeros d ++ r) (y ++ v) = y ++ adv m.Prime D (tM m.Prime D r (aM m D k y)) v
 | 0,k,hk,r,y,v,hr,hy,hv => by
  have hp:=hE.m.p.pos
  rw [vY (x:=x) (k:=k) (by omega)] at hy
  obtain rfl:y = []:=hy
  rw [zBj h hE hT D k (by omega) (by omega)]
  have e:aM m D k [] = idM D:=by unfold aM;cases m.zI.drop k <;> rfl
  rw [e,zKi hr]
  exact qR (by omega) D r v hr hv
 | d + 1,k,hk,r,y,v,hr,hy,hv => by
  have hl:=uL h hE hT
  have hp:=hE.m.p.pos
  have hA:=hE.m.mat k (by omega)
  rw [yK (x:=x) (by omega)] at hy
  cases y with
  | nil => exact hy.elim
  | cons b y =>
   obtain ⟨⟨b0,b1⟩,hy⟩:=hy
   change b < at0 x.zA k at b1
   rw [yK (x:=exx D x m T) (by omega)]
   show mul _ (0 :: (zeros d ++ r)) (b :: (y ++ v)) = _
   have e:=zGD h hE hT (k:=k) (by omega) b.toNat hr
   rw [show x.zA.length - (k + 1) = d from by omega] at e
   rw [yR,zG9 h hE hT (by omega),if_neg (by omega),e,zEz hA (by omega) hr,zQx d (k + 1) (by omega) _ y v (jE (by omega)) hy hv,Int.zero_add,zSE h hE hT (by omega),← zNn (pwM h hE hT (by omega)).1]
   rfl
theorem zKl {k:Nat} (hk:k < x.zA.length) (ih:∀ a b,V (suf (exx D x m T) (k + 1)) a → V (suf (exx D x m T) (k + 1)) b → (mul (suf (exx D x m T) (k + 1)) a b).take (x.zA.length - (k + 1)) = mul (suf x (k + 1)) (a.take (x.zA.length - (k + 1))) (b.take (x.zA.length - (k + 1)))) {v:Vec} (hv:V (suf (exx D x m T) (k + 1)) v) :
  (sig (suf (exx D x m T) (k + 1)) (lvl (exx D x m T) k) v).take (x.zA.length - (k + 1)) = sig (suf x (k + 1)) (lvl x k) (v.take (x.zA.length - (k + 1))):=by
 have ok:=zBs h hE hT (k:=k + 1) (by omega)
 obtain ⟨y,u,rfl,hy,hu⟩:=(zCD h hE hT (x.zA.length - (k + 1)) (k + 1) (by omega) _).1 hv
 have hyl:=sG h (by omega) hy
 obtain ⟨y1,u1,e,hy1,hu1⟩:=(zCD h hE hT (x.zA.length - (k + 1)) (k + 1) (by omega) _).1 (zQu h hE hT hk (y:=y))
 have hy1l:=sG h (by omega) hy1
 rw [zLG h hE hT hk hy hu,List.take_left' (by rw [e,List.take_left' hy1l,hy1l]),List.take_left' hyl]
 unfold sgG sig
 rw [zGC (S:=V (suf (exx D x m T) (k + 1))) (n:=mul (suf x (k + 1))) (·.take (x.zA.length - (k + 1))) (fun a b => xJ ok) ih _ _ _ (zQt h hE hT hk) (wH ok),zQw h hE hT hk,zBU h hE hT (by omega),List.take_left' (zS _),xI]
theorem zI8:∀ (d k:Nat),k + d = x.zA.length → ∀ a b,V (suf (exx D x m T) k) a → V (suf (exx D x m T) k) b → (mul (suf (exx D x m T) k) a b).take d = mul (suf x k) (a.take d) (b.take d)
 | 0,k,hk,a,b,_,_ => by
  rw [vY (x:=x) (by omega),List.take_zero];rfl
 | d + 1,k,hk,a,b,ha,hb => by
  have hl:=uL h hE hT
  have ih:=zI8 d (k + 1) (by omega)
  have hd:d = x.zA.length - (k + 1):=by omega
  have ok:=zBs h hE hT (k:=k + 1) (by omega)
  have ok0:=zBs h hE hT (k:=k) (by omega)
  rw [hd] at ih
  have hs:=fun v hv => zKl h hE hT (k:=k) (by omega) ih (v:=v) hv
  rw [yK (x:=exx D x m T) (by omega)] at ha hb ok0 ⊢
  rw [yK (x:=x) (by omega)]
  cases a with
  | nil => exact ha.elim
  | cons a u =>
  cases b with
  | nil => exact hb.elim
  | cons b v =>
   have hit:∀ q u,V (suf (exx D x m T) (k + 1)) u → (iter q (sig (suf (exx D x m T) (k + 1)) (lvl (exx D x m T) k)) u).take d = iter q (sig (suf x (k + 1)) (lvl x k)) (u.take d) ∧ V (suf (exx D x m T) (k + 1)) (iter q (sig (suf (exx D x m T) (k + 1)) (lvl (exx D x m T) k)) u):=by
    intro q
    induction q with
    | zero => intro u hu;exact ⟨rfl,hu⟩
    | succ q ihq =>
     intro u hu
     have:=ihq _ (zEl ok0 hu)
     rw [hd,hs u hu] at this
     rw [hd];exact this
   obtain ⟨hi1,hi2⟩:=hit b.toNat u ha.2
   have hm:=xJ ok hi2 hb.2
   rw [yR,List.take_succ_cons,List.take_succ_cons,yR,zG9 h hE hT (by omega),show (lvl x k).o = at0 x.zA k from rfl]
   have e1:=ih _ _ hi2 hb.2
   rw [← hd,hi1] at e1
   split
   ·rw [List.take_succ_cons]
    have e2:=ih _ _ ok0.2.1 hm
    rw [← hd,e1] at e2
    rw [e2]
    congr 2
    have ht:=(h.tl k (by omega)).1
    have hw:=zH3 ht (by omega)
    have hwl:(lvl x k).w.length = x.zA.length - (k + 1):=sG h (by omega) hw
    rw [zUc h hE hT (by omega),List.take_left' (by omega)]
   ·rw [List.take_succ_cons,e1]
end
end Go.Pl

namespace Go.Pl
open Go Go.Ab Go.Wk Go.Pc
theorem zOg {p:Int} {d:Nat} (hp:2 ≤ p):∀ c ∈ xM d,Row p d c:=fun c hc => by
 obtain ⟨k,_,rfl⟩:=List.mem_map.1 hc
 exact uV hp
theorem zSF {p:Int} (hp:2 ≤ p) {d:Nat} {w:Vec} (hw:Row p d w):sig (tlv p d) ⟨p,zeros d,xM d⟩ w = w:=by
 unfold sig
 rw [zFj,zCq (S:=Row p d) (m':=adv p d) (fun a b ha hb => qR hp d a b ha hb) (fun _ _ _ _ => zAj (by omega)) (xM d) w _ (zOg hp) (sC (by omega)),zFk (by omega) (xM d) w _ (by rw [hw.1];simp [xM]) (fun i hi => (hw.2 i (by rw [← hw.1];exact hi)).1) (sC (by omega))]
 conv => rhs;rw [vJ hw.1]
 refine zY fun j hj => ?_
 have hul:(xM d).length = d:=by simp [xM]
 rw [hul,uD,Int.zero_add,zAF (k:=j) hj (fun k hk hne => by rw [zCr hk hj,if_neg (Ne.symm hne),Int.mul_zero]),zCr hj hj,if_pos rfl,Int.mul_one,kC (hw.2 j hj)]
structure LCn (x e:SPr) (k:Nat):Prop where
 c1:∀ j,k + 1 ≤ j → j < x.zA.length → pw (mul (suf e (k + 1))) (zeros (suf e (k + 1)).length) ((lvl e k).cs.getD (j - (k + 1)) []) (at0 e.zA j).toNat = sig (suf e (k + 1)) (lvl e k) ((e.zU.getD j []).drop (k + 1))
 c2:∀ i,k + 1 ≤ i → i < x.zA.length → ∀ j,i + 1 ≤ j → j < x.zA.length →
  mul (suf e (k + 1)) ((lvl e k).cs.getD (j - (k + 1)) []) ((lvl e k).cs.getD (i - (k + 1)) []) = mul (suf e (k + 1)) ((lvl e k).cs.getD (i - (k + 1)) []) (sig (suf e (k + 1)) (lvl e k) (((e.zB.getD i []).getD (j - (i + 1)) []).drop (k + 1)))
 c3:sig (suf e (k + 1)) (lvl e k) (lvl e k).w = (lvl e k).w
 c4:∀ j,k + 1 ≤ j → j < x.zA.length → mul (suf e (k + 1)) (lvl e k).w (iter (lvl e k).o.toNat (sig (suf e (k + 1)) (lvl e k)) (wJ (e.zA.length - (k + 1)) (j - (k + 1)))) = mul (suf e (k + 1)) (wJ (e.zA.length - (k + 1)) (j - (k + 1))) (lvl e k).w
section
variable {D:Nat} {x:SPr} {m:zC} {T:Mx} (h:Pres x) (hE:zG0 x.zA.length D x m T) (hT:∀ i,i < T.length → Row m.Prime D (T.getD i []))
 include h hE hT
theorem zQy {k j:Nat} (hk:k < x.zA.length) (hj:x.zA.length ≤ j) (h2:j < x.zA.length + D):(lvl (exx D x m T) k).cs.getD (j - (k + 1)) [] = zeros (x.zA.length - (k + 1)) ++ (m.zI.getD k []).getD (j - x.zA.length) []:=by
 rw [zGA h hE hT hk,List.getD_eq_getElem?_getD,List.getElem?_append_right (by rw [zDI h hE hT];omega),zDI h hE hT,eC2]
 simp only [gl,List.getElem?_map]
 rw [List.getElem?_range (by omega),show j - (k + 1) - (x.zA.length - 1 - k) = j - x.zA.length from by omega,show x.zA.length - 1 - k = x.zA.length - (k + 1) from by omega]
 rfl
theorem zUd {k j:Nat} (hk:k < x.zA.length) (hj:k + 1 ≤ j) (h2:j < x.zA.length):(lvl (exx D x m T) k).cs.getD (j - (k + 1)) [] = (lvl x k).cs.getD (j - (k + 1)) [] ++ T.getD (base x.zA.length k + (j - (k + 1))) []:=by
 rw [zGA h hE hT hk,List.getD_eq_getElem?_getD,List.getElem?_append_left (by rw [zDI h hE hT];omega),eC1]
 simp only [gl,List.getElem?_map]
 rw [List.getElem?_range (by omega)]
 rfl
theorem zUe {i j:Nat} (hi:i < j) (hj:j < x.zA.length):Row m.Prime D (T.getD (base x.zA.length i + (j - (i + 1))) []):=by
 have _:=h
 have hn:=hE.hn
 have hb:=zFg x.zA.length (by omega) i (by omega)
 exact hT _ (by rw [hE.t];omega)
theorem zLI {i:Nat} (hi:i < x.zA.length):Row m.Prime D (T.getD i []):=by
 have _:=h
 have hn:=hE.hn
 have hb:=sV x.zA.length (by omega)
 exact hT _ (by rw [hE.t];omega)
theorem zLJ {k j:Nat} (hj:k ≤ j) (h2:j < x.zA.length):((exx D x m T).zU.getD j []).drop (k + 1) = (x.zU.getD j []).drop (k + 1) ++ T.getD j []:=by
 have t1:=(h.tl j h2).1.1.1
 have _:=hE;have _:=hT
 have hP:(exx D x m T).zU.getD j [] = exP x.zA.length D x T j:=xL (by omega)
 rw [hP,exP,if_pos h2,List.drop_append_of_le_length (by omega)]
theorem zVf {k j:Nat} (hk:k < x.zA.length) (hj:x.zA.length ≤ j) (h2:j < x.zA.length + D):((exx D x m T).zU.getD j []).drop (k + 1) = zeros (x.zA.length - (k + 1)) ++ zeros D:=by
 have _:=h;have _:=hE;have _:=hT
 have hP:(exx D x m T).zU.getD j [] = exP x.zA.length D x T j:=xL (by omega)
 rw [hP,exP,if_neg (by omega),List.drop_replicate]
 simp only [zeros,List.replicate_append_replicate];congr 1;omega
theorem zGE {i:Nat} (hi:i < x.zA.length + D):(exx D x m T).zB.getD i [] = exC x.zA.length D x m T i:=by
 have _:=h;have _:=hE;have _:=hT
 show (gl (x.zA.length + D) (exC x.zA.length D x m T)).getD i [] = _
 simp [gl,List.getD_eq_getElem?_getD,hi]
theorem zLK {k i j:Nat} (hk:k ≤ i) (hi:i < j) (hj:j < x.zA.length):(((exx D x m T).zB.getD i []).getD (j - (i + 1)) []).drop (k + 1) = ((x.zB.getD i []).getD (j - (i + 1)) []).drop (k + 1) ++ T.getD (base x.zA.length i + (j - (i + 1))) []:=by
 obtain ⟨_,t2,t3⟩:=h.tl i (by omega)
 have t:=(t3 (j - (i + 1)) (by omega)).1.1
 rw [zGE h hE hT (by omega),exC,if_pos (by omega),xL (by omega),exF,if_pos (by omega),List.drop_append_of_le_length (by omega)]
theorem zVg {k i j:Nat} (hk:k < x.zA.length) (hi:i < x.zA.length) (hj:x.zA.length ≤ j) (h2:j < x.zA.length + D):(((exx D x m T).zB.getD i []).getD (j - (i + 1)) []).drop (k + 1) = zeros (x.zA.length - (k + 1)) ++ (m.zI.getD i []).getD (j - x.zA.length) []:=by
 rw [zGE h hE hT (by omega),exC,if_pos (by omega),xL (by omega),exF,if_neg (by omega),List.drop_append_of_le_length (by simp;omega),List.drop_replicate,show j - (i + 1) - (x.zA.length - 1 - i) = j - x.zA.length from by omega]
 rfl
theorem zVh {k i j:Nat} (hk:k < x.zA.length) (hi:x.zA.length ≤ i) (hj:i < j) (h2:j < x.zA.length + D):(((exx D x m T).zB.getD i []).getD (j - (i + 1)) []).drop (k + 1) = zeros (x.zA.length - (k + 1)) ++ wJ D (j - x.zA.length):=by
 rw [zGE h hE hT (by omega),exC,if_neg (by omega),unC,xL (by omega),sJ,zG8,← zKj (by omega),jH]
 rw [show x.zA.length + D - (k + 1) = x.zA.length - (k + 1) + D from by omega]
 refine zY fun q _ => ?_
 by_cases g:q = x.zA.length - (k + 1) + (j - x.zA.length)
 ·rw [if_pos g,if_pos (by omega)]
 ·rw [if_neg g,if_neg (by omega)]
theorem zSG (hr:zGT x m D) {k:Nat} (hk:k < x.zA.length):pw (PM m.Prime D) (idM D) (m.zI.getD k []) (at0 x.zA k).toNat = aM m D (k + 1) (lvl x k).w ∧
  ∀ i,k < i → i < x.zA.length → PM m.Prime D (m.zI.getD i []) (m.zI.getD k []) = PM m.Prime D (m.zI.getD k []) (aM m D (k + 1) ((lvl x k).cs.getD (i - (k + 1)) [])):=by
 have R:=zNi h hE.m hr (x.zA.length - k) k (by omega)
 rw [yK hk,zKk h hE hT hk] at R
 obtain ⟨r1,r2,_⟩:=R
 refine ⟨r1,fun i h1 h2 => ?_⟩
 have hcl:=jZ h hk
 have hl:=hE.m.len
 refine r2 (i - (k + 1)) _ _ ?_ ?_
 ·rw [List.getElem?_drop,show k + 1 + (i - (k + 1)) = i from by omega,List.getD_eq_getElem?_getD,List.getElem?_eq_getElem (by omega)];rfl
 ·rw [List.getD_eq_getElem?_getD,List.getElem?_eq_getElem (by omega)];rfl
theorem zv {k:Nat} (hk:k ≤ x.zA.length):V (suf x k) (zeros (x.zA.length - k)):=by
 have _:=hE;have _:=hT
 have:=wH (h.okAt hk)
 rwa [xI] at this
theorem zVi (hr:zGT x m D) {k:Nat} (hk:k < x.zA.length) (hc:LCn x (exx D x m T) k):LC (exx D x m T) k:=by
 have hp:=hE.m.p.pos
 have hl:=uL h hE hT
 have hA:=hE.m.mat k hk
 obtain ⟨r1,r2⟩:=zSG h hE hT hr hk
 have hz:=zv h hE hT (k:=k + 1) (by omega)
 have hD0:Row m.Prime D (zeros D):=sC (by omega)
 have hw:=(zUU h hk).2
 refine ⟨fun j h1 h2 => ?_,fun i h1 h2 j h3 h4 => ?_,hc.c3,fun j h1 h2 => ?_⟩
 ·rw [hl] at h2
  rcases Nat.lt_or_ge j x.zA.length with g | g
  ·exact hc.c1 j h1 g
  ·have hq:=hA.2 (j - x.zA.length) (by omega)
   rw [zQy h hE hT hk g h2,zVf h hE hT hk g h2,zFl h hE hT hk hD0,zLH,zBi h hE hT g h2,zBU h hE hT (by omega)]
   have e:=zLF h hE hT (d:=x.zA.length - (k + 1)) (k:=k + 1) (by omega) [(m.zI.getD k []).getD (j - x.zA.length) []] [m.Prime] _ _ (fun r hr => by rw [List.mem_singleton.1 hr];exact hq) hz hD0
   have e2:iter m.Prime.toNat (fun w => adv m.Prime D w ((m.zI.getD k []).getD (j - x.zA.length) [])) (zeros D) = zeros D:=zQv (by omega)
   unfold pw
   refine e.trans ?_
   show zeros _ ++ iter m.Prime.toNat (fun w => adv m.Prime D w ((m.zI.getD k []).getD (j - x.zA.length) [])) (zeros D) = _
   rw [e2]
 ·rw [hl] at h4
  rcases Nat.lt_or_ge j x.zA.length with g | g
  ·exact hc.c2 i h1 (by omega) j h3 g
  ·have hq:=hA.2 (j - x.zA.length) (by omega)
   rw [zQy h hE hT hk g h4]
   rcases Nat.lt_or_ge i x.zA.length with gi | gi
   ·have hAi:=hE.m.mat i gi
    have hqi:=hAi.2 (j - x.zA.length) (by omega)
    have hcv:=(jC h hk h1 gi).2.2
    have ht:=zUe h hE hT (i:=k) (j:=i) (by omega) gi
    rw [zUd h hE hT hk h1 gi,zVg h hE hT hk gi g h4,zFl h hE hT hk hqi,zQx h hE hT _ (k + 1) (by omega) _ _ _ hq hcv ht,zHL h hE hT _ (k + 1) (by omega) _ _ _ hcv ht (jE (by omega)),zBT]
    congr 2
    rw [← zBa (by rw [hA.1];omega),← zBa (by rw [hAi.1];omega),r2 i (by omega) gi]
   ·have hqi:=hA.2 (i - x.zA.length) (by omega)
    rw [zQy h hE hT hk gi (by omega),zVh h hE hT hk gi (by omega) h4,zFl h hE hT hk (uV (by omega)),zOf (by omega) hA,zHL h hE hT _ (k + 1) (by omega) _ _ _ hz hq hqi,zHL h hE hT _ (k + 1) (by omega) _ _ _ hz hqi hq,zBT]
 ·rw [hl] at h2 ⊢
  rcases Nat.lt_or_ge j x.zA.length with g | g
  ·have:=hc.c4 j h1 g
   rwa [hl] at this
  ·have ht:=zLI h hE hT hk
   have hu:Row m.Prime D (wJ D (j - x.zA.length)):=uV (by omega)
   rw [show x.zA.length + D - (k + 1) = x.zA.length - (k + 1) + D from by omega,show j - (k + 1) = x.zA.length - (k + 1) + (j - x.zA.length) from by omega,zKj (by omega),zG9 h hE hT hk,zGD h hE hT hk _ hu,zUc h hE hT hk,zEz hA (by omega) hu,r1,zQx h hE hT _ (k + 1) (by omega) _ _ _ hu hw ht,zHL h hE hT _ (k + 1) (by omega) _ _ _ hw ht (jE (by omega)),zBT]
theorem zVj {k:Nat} (hk:x.zA.length ≤ k) (h2:k < x.zA.length + D):LC (exx D x m T) k:=by
 have hp:=hE.m.p.pos
 have hl:=uL h hE hT
 have hs:=zBj h hE hT (x.zA.length + D - (k + 1)) (k + 1) (by omega) (by omega)
 have hL:=zBj h hE hT (x.zA.length + D - (k + 1) + 1) k (by omega) (by omega)
 rw [yK (by omega),hs,tlv] at hL
 have hlv:lvl (exx D x m T) k = ⟨m.Prime,zeros (x.zA.length + D - (k + 1)),xM (x.zA.length + D - (k + 1))⟩:=(List.cons.inj hL).1
 generalize hd:x.zA.length + D - (k + 1) = d at *
 have hsig:∀ w,Row m.Prime d w → sig (tlv m.Prime d) ⟨m.Prime,zeros d,xM d⟩ w = w:=fun w hw => zSF (by omega) hw
 have hzr:Row m.Prime d (zeros d):=sC (by omega)
 have hum:∀ j,(xM d).getD j [] = if j < d then wJ d j else []:=fun j => by
  by_cases g:j < d
  ·rw [if_pos g,zGk g]
  ·rw [if_neg g,List.getD_eq_getElem?_getD,List.getElem?_eq_none (by simp [xM];omega)];rfl
 refine ⟨fun j h1 h3 => ?_,fun i h1 h3 j h4 h5 => ?_,?_,fun j h1 h3 => ?_⟩
 ·rw [hl] at h3
  have hP:(exx D x m T).zU.getD j [] = exP x.zA.length D x T j:=xL (by omega)
  rw [hs,hlv,zBi h hE hT (by omega) h3,hP,exP,if_neg (by omega),List.drop_replicate,hd]
  show pw (mul (tlv m.Prime d)) (zeros (tlv m.Prime d).length) ((xM d).getD (j - (k + 1)) []) m.Prime.toNat = sig (tlv m.Prime d) ⟨m.Prime,zeros d,xM d⟩ (zeros d)
  rw [hsig _ hzr,hum,if_pos (by omega),zFj]
  have e:=zCq (S:=Row m.Prime d) (m':=adv m.Prime d) (fun a b ha hb => qR (by omega) d a b ha hb) (fun _ _ _ _ => zAj (by omega)) [wJ d (j - (k + 1))] [m.Prime] (zeros d) (fun c hc => by rw [List.mem_singleton.1 hc];exact uV (by omega)) hzr
  exact e.trans (zQv (by omega))
 ·rw [hl] at h3 h5
  rw [hs,hlv,zGE h hE hT h3,exC,if_neg (by omega),unC,xL (by omega),sJ,zG8,hd]
  have e:(mkv d fun q => if k + 1 + q = i + 1 + (j - (i + 1)) then (1:Int) else 0) = wJ d (j - (k + 1)):=by
   rw [jH]
   refine zY fun q _ => ?_
   by_cases g:q = j - (k + 1)
   ·rw [if_pos g,if_pos (by omega)]
   ·rw [if_neg g,if_neg (by omega)]
  rw [e,hsig _ (uV (by omega))]
  show mul (tlv m.Prime d) ((xM d).getD (j - (k + 1)) []) ((xM d).getD (i - (k + 1)) []) = mul (tlv m.Prime d) ((xM d).getD (i - (k + 1)) []) (wJ d (j - (k + 1)))
  rw [hum,hum,if_pos (by omega),if_pos (by omega),qR (by omega) d _ _ (uV (by omega)) (uV (by omega)),qR (by omega) d _ _ (uV (by omega)) (uV (by omega)),zBT]
 ·rw [hs,hlv,hsig _ hzr]
 ·rw [hl] at h3 ⊢
  have hu:Row m.Prime d (wJ d (j - (k + 1))):=uV (by omega)
  rw [hs,hlv,hd,zG3 (hsig _ hu),qR (by omega) d _ _ hzr hu,qR (by omega) d _ _ hu hzr,zBT]
theorem zKm:∀ (d k:Nat),x.zA.length ≤ k → k + d = x.zA.length + D → vC (suf (exx D x m T) k)
 | 0,k,hk,hd => by
  rw [vY (by rw [uL h hE hT];omega)];simp only [vC]
 | d + 1,k,hk,hd => (zAE (zDH h hE hT) (by rw [uL h hE hT];omega)).2 ⟨zKm d (k + 1) (by omega) (by omega),zVj h hE hT hk (by omega)⟩
theorem zSH (hr:zGT x m D):vC (suf (exx D x m T) 0) ↔ ∀ k,k < x.zA.length → LCn x (exx D x m T) k:=by
 have hl:=uL h hE hT
 have key:∀ (d k:Nat),k + d = x.zA.length → (vC (suf (exx D x m T) k) ↔ ∀ i,k ≤ i → i < x.zA.length → LCn x (exx D x m T) i):=by
  intro d
  induction d with
  | zero => intro k hk;exact ⟨fun _ i h1 h2 => by omega,fun _ => zKm h hE hT D k (by omega) (by omega)⟩
  | succ d ih =>
   intro k hk
   rw [zAE (zDH h hE hT) (by omega),ih (k + 1) (by omega)]
   constructor
   ·rintro ⟨g1,g2⟩ i h1 h2
    rcases Nat.lt_or_ge k i with g | g
    ·exact g1 i (by omega) h2
    ·obtain rfl:i = k:=by omega
     exact ⟨fun j a b => g2.c1 j a (by omega),fun i a b j c d => g2.c2 i a (by omega) j c (by omega),g2.c3,fun j a b => g2.c4 j a (by omega)⟩
   ·exact fun g => ⟨fun i h1 h2 => g i (by omega) h2,zVi h hE hT hr (by omega) (g k (by omega) (by omega))⟩
 have:=key x.zA.length 0 (by omega)
 rw [this]
 exact ⟨fun g k hk => g k (by omega) hk,fun g k _ hk => g k hk⟩
end
end Go.Pl

namespace Go.Pl
open Go Go.Ab Go.Wk Go.Pc
def prE (x:SPr) (k:Nat) (w:Vec):zE:=⟨fv k (w.take (x.zA.length - k)),w.drop (x.zA.length - k)⟩
theorem tQ {x:SPr} {k:Nat} {y u:Vec} (hy:y.length = x.zA.length - k):prE x k (y ++ u) = ⟨fv k y,u⟩:=by
 rw [prE,List.take_left' hy,List.drop_left' hy]
theorem zBk {α α' β:Type} {body:α × α' × Int → Option ((α × α' × Int) ⊕ (α × α'))} {S:β → Prop} (e1:β → α) (e2:β → α') (g:β → β) (n:Int) (hn:0 ≤ n) (hS:∀ a,S a → S (g a))
  (h:∀ a (i:Nat),S a → (i:Int) < n → body (e1 a,e2 a,(i:Int)) = some (.inl (e1 (g a),e2 (g a),((i + 1:Nat):Int)))) (he:∀ a,S a → body (e1 a,e2 a,n) = some (.inr (e1 a,e2 a))) {a:β} (ha:S a) :
  zH body (e1 a,e2 a,0) = some (e1 (iter n.toNat g a),e2 (iter n.toNat g a)):=by
 have hit:∀ k,S (iter k g a):=fun k => wZ (S:=S) hS k ha
 exact zO (body:=body) (r:=(e1 (iter n.toNat g a),e2 (iter n.toNat g a))) (fun i => (e1 (iter i g a),e2 (iter i g a),(i:Int))) n.toNat (fun i hi => by
  rw [h _ i (hit i) (by omega),vE]) (by
  rw [show ((n.toNat:Nat):Int) = n from by omega]
  exact he _ (hit _))
section
variable {D:Nat} {x:SPr} {m:zC} {T:Mx} (h:Pres x) (hE:zG0 x.zA.length D x m T) (hT:∀ i,i < T.length → Row m.Prime D (T.getD i []))
def zQz (D:Nat) (x:SPr) (m:zC) (T:Mx) (k:Nat) (g:zP → Int → zE → zE → Option zE):Prop :=
 ∀ a b,V (suf (exx D x m T) k) a → V (suf (exx D x m T) k) b → g ⟨x,m,T⟩ k (prE x k a) (prE x k b) = some (prE x k (mul (suf (exx D x m T) k) a b))
def zQ0 (D:Nat) (x:SPr) (m:zC) (T:Mx) (k:Nat) (g:zP → Int → zE → Option zE):Prop :=
 ∀ v,V (suf (exx D x m T) (k + 1)) v → g ⟨x,m,T⟩ k (prE x (k + 1) v) = some (prE x (k + 1) (sig (suf (exx D x m T) (k + 1)) (lvl (exx D x m T) k) v))
 include h hE hT
theorem zNo {k i j:Nat} (hk:k ≤ i) (hi:i < j) (hj:j < x.zA.length):f_X ⟨x,m,T⟩ (i:Int) (j:Int) = some (prE x (k + 1) ((((exx D x m T).zB.getD i []).getD (j - (i + 1)) []).drop (k + 1))) ∧ V (suf (exx D x m T) (k + 1)) ((((exx D x m T).zB.getD i []).getD (j - (i + 1)) []).drop (k + 1)):=by
 have hn:=hE.hn
 have hb:=zFg x.zA.length (by omega) i (by omega)
 have ht:=hE.t
 obtain ⟨_,t2,t3⟩:=h.tl i (by omega)
 have tt:=t3 (j - (i + 1)) (by omega)
 obtain ⟨e1,e2⟩:=zBN (k:=k + 1) tt (by omega) (by omega)
 have hl:=sG h (by omega) e2
 have hcl:=h.cl
 have hr:=zUe h hE hT hi hj
 refine ⟨?_,?_⟩
 ·rw [zLK h hE hT hk hi hj,tQ hl,← e1]
  unfold f_X
  dsimp only
  rw [yD [] (by omega),bs,zD (by omega) (by omega),bs,zD (by omega) (by omega),bs,show (j:Int) - (i:Int) - 1 = ((j - (i + 1):Nat):Int) from by omega,yD [] (by omega),bs,zL1 x.zA.length (by omega) j hj i hi,bs,yD [] (by omega),bs,show j - i - 1 = j - (i + 1) from by omega]
 ·rw [zLK h hE hT hk hi hj]
  exact (zCD h hE hT (x.zA.length - (k + 1)) (k + 1) (by omega) _).2 ⟨_,_,rfl,e2,hr⟩
theorem zDJ {k j:Nat} (hk:k < j) (hj:j < x.zA.length):f_X ⟨x,m,T⟩ (k:Int) (j:Int) = some (prE x (k + 1) ((lvl (exx D x m T) k).cs.getD (j - (k + 1)) [])) ∧ V (suf (exx D x m T) (k + 1)) ((lvl (exx D x m T) k).cs.getD (j - (k + 1)) []):=by
 have e:(lvl (exx D x m T) k).cs.getD (j - (k + 1)) [] = (((exx D x m T).zB.getD k []).getD (j - (k + 1)) []).drop (k + 1):=by
  have hC:((exx D x m T).zB.getD k []).length = x.zA.length + D - 1 - k:=by rw [zGE h hE hT (by omega),exC,if_pos (by omega),xX]
  simp only [lvl]
  rw [List.getD_eq_getElem?_getD,List.getElem?_map,List.getElem?_eq_getElem (by omega),List.getD_eq_getElem?_getD (l:=(exx D x m T).zB.getD k []),List.getElem?_eq_getElem (by omega)]
  rfl
 rw [e]
 exact zNo h hE hT (Nat.le_refl k) hk hj
theorem zI9 {k j:Nat} (hk:k ≤ j) (hj:j < x.zA.length):zLX ⟨x,m,T⟩ (j:Int) = some (prE x (k + 1) (((exx D x m T).zU.getD j []).drop (k + 1))) ∧ V (suf (exx D x m T) (k + 1)) (((exx D x m T).zU.getD j []).drop (k + 1)):=by
 have hn:=hE.hn
 have hb:=sV x.zA.length (by omega)
 have ht:=hE.t
 have hpl:=h.pl
 have t1:=(h.tl j hj).1
 obtain ⟨e1,e2⟩:=zBN (k:=k + 1) t1 (by omega) (by omega)
 have hl:=sG h (by omega) e2
 have hr:=zLI h hE hT hj
 refine ⟨?_,?_⟩
 ·rw [zLJ h hE hT hk hj,tQ hl,← e1]
  unfold zLX
  dsimp only
  rw [yD [] (by omega),bs,yD [] (by omega),bs]
 ·rw [zLJ h hE hT hk hj]
  exact (zCD h hE hT (x.zA.length - (k + 1)) (k + 1) (by omega) _).2 ⟨_,_,rfl,e2,hr⟩
theorem zIA {k:Nat} (hk:k ≤ x.zA.length) (h0:0 < x.zA.length):zK9 ⟨x,m,T⟩ = some (prE x k (zeros (suf (exx D x m T) k).length)):=by
 have hn:=hE.hn
 have h3:=hE.m.d3
 have hb:=sV x.zA.length (by omega)
 have ht:=hE.t
 have hr:=zLI h hE hT h0
 have hrl:=hr.1
 unfold zK9
 dsimp only
 have e0:ixO T 0 = some (T.getD 0 []):=yD (i:=0) [] (by omega)
 rw [decide_eq_true (by omega),zJ,e0,bs,yT (by omega),bs,yT (by omega),bs,zBU h hE hT hk,tQ (zS _),hrl,fv]
 congr 2
 simp only [zeros,List.replicate_append_replicate];congr 1;omega
theorem zSI {k:Nat} (hk:k < x.zA.length) {u:Vec} (hu:Row m.Prime D u):zTp m u (k:Int) = some (tM m.Prime D u (m.zI.getD k [])):=by
 have _:=h;have _:=hT
 have hn:=hE.hn
 have h3:=hE.m.d3
 have h1:=hE.m.d1
 have hA:=hE.m.mat k hk
 have hul:=hu.1
 have hl:=hE.m.len
 unfold zTp
 have e1:zHN m u (k:Int) ([],0) = some (.inl (tM m.Prime D u (m.zI.getD k []),(D:Int))):=by
  unfold zHN
  simp only
  rw [decide_eq_true (by omega),zJ,hE.m.d,zD (by omega) (by omega),bs,Int.zero_add]
  have hsl:zX u 0 (D:Int) = some u:=by
   unfold zX
   rw [if_pos ⟨by omega,by omega,by omega⟩]
   congr 1
   rw [show ((D:Int)).toNat = D from by omega,show (0:Int).toNat = 0 from rfl,List.drop_zero,List.take_of_length_le (by omega)]
  rw [hsl,bs,yD [] (by omega),bs,zCZ hE.m.p (by omega) hu hA,bs,yM (by rw [tM,zZ];simp;omega),bs,bs,List.nil_append]
 have e2:zHN m u (k:Int) (tM m.Prime D u (m.zI.getD k []),(D:Int)) = some (.inr (tM m.Prime D u (m.zI.getD k []))):=by
  unfold zHN
  simp only
  rw [decide_eq_false (by omega),zF]
 rw [xG,e1]
 simp only
 rw [xG,e2]
 rfl
theorem zQ1 {u v:Vec} (hu:Row m.Prime D u) (hv:Row m.Prime D v):f_s m.Prime u 1 v = some (adv m.Prime D u v):=by
 have _:=h;have _:=hT
 have h3:=hE.m.d3
 rw [vT hE.m.p hu hv (by omega) (by omega)]
 congr 1
 exact zY fun j _ => by rw [Int.one_mul]
theorem prV {k:Nat} (hk:k ≤ x.zA.length) {w:Vec} (hw:V (suf (exx D x m T) k) w):∃ y u,w = y ++ u ∧ V (suf x k) y ∧ Row m.Prime D u ∧ prE x k w = ⟨fv k y,u⟩ ∧ y.length = x.zA.length - k:=by
 obtain ⟨y,u,rfl,hy,hu⟩:=(zCD h hE hT (x.zA.length - k) k (by omega) _).1 hw
 have hyl:=sG h hk hy
 exact ⟨y,u,rfl,hy,hu,tQ hyl,hyl⟩
theorem zKn {k:Nat} (hk:k < x.zA.length) {g:zP → Int → zE → zE → Option zE} (hg:zQz D x m T (k + 1) g):zQ0 D x m T k (b_f g):=by
 intro v hv
 have hn:=hE.hn
 have hp:=hE.m.p.pos
 have ok:=zBs h hE hT (k:=k + 1) (by omega)
 have hA:=hE.m.mat k hk
 obtain ⟨y,u,rfl,hy,hu,hpr,hyl⟩:=prV h hE hT (k:=k + 1) (by omega) hv
 obtain ⟨_,hyr⟩:=zCX h.os (x.zA.length - (k + 1)) (k + 1) y (by omega) hy
 have hcl:=zDI h hE hT (k:=k)
 have hcs:=zQt h hE hT hk
 have hcg:∀ i,i < x.zA.length - (k + 1) → (eC1 x T k).getD i [] = (lvl (exx D x m T) k).cs.getD i []:=fun i hi => by
  rw [zGA h hE hT hk,List.getD_eq_getElem?_getD,List.getD_eq_getElem?_getD,List.getElem?_append_left (by omega)]
 obtain ⟨A,hAe⟩:∃ A:Nat → Vec,∀ i,A i = img (mul (suf (exx D x m T) (k + 1))) ((eC1 x T k).take i) (y.take i) (zeros (suf (exx D x m T) (k + 1)).length):=⟨_,fun _ => rfl⟩
 have hI:∀ i,V (suf (exx D x m T) (k + 1)) (A i):=fun i => by
  rw [hAe];exact sS (xJ ok) _ _ (fun c hc => hcs c (List.mem_of_mem_take hc)) (wH ok)
 have hA0:A 0 = zeros (suf (exx D x m T) (k + 1)).length:=by rw [hAe];simp only [List.take_zero,img]
 have hAn:A (x.zA.length - (k + 1)) = sgG D x m T k y:=by
  rw [hAe,List.take_of_length_le (by omega),List.take_of_length_le (by omega)];rfl
 rw [hpr]
 unfold b_f
 dsimp only
 rw [zIA h hE hT (k:=k + 1) (by omega) (by omega),bs,zD (by omega) (by omega),bs,cs]
 have:=zO (body:=zRM g ⟨x,m,T⟩ k ⟨fv (k + 1) y,u⟩) (r:=((prE x (k + 1) (sgG D x m T k y)).x,(prE x (k + 1) (sgG D x m T k y)).v))
  (fun i => ((prE x (k + 1) (A i)).x,(prE x (k + 1) (A i)).v,((k + 1 + i:Nat):Int))) (x.zA.length - (k + 1)) (fun i hi => by
  have hr:=hyr i hi
  obtain ⟨c1,c2⟩:=zDJ h hE hT (k:=k) (j:=k + 1 + i) (by omega) (by omega)
  rw [show k + 1 + i - (k + 1) = i from by omega] at c1 c2
  unfold zRM
  dsimp only
  rw [decide_eq_true (by rw [zBL h (by omega) hy];omega),zJ]
  rw [zBk (S:=V (suf (exx D x m T) (k + 1))) (fun w => (prE x (k + 1) w).x) (fun w => (prE x (k + 1) w).v) (fun w => mul (suf (exx D x m T) (k + 1)) w ((lvl (exx D x m T) k).cs.getD i [])) (at0 y i) hr.1 (fun w hw => xJ ok hw c2) (fun w q hw hq => by
   unfold zTq
   dsimp only
   rw [fv,zJB (by omega),bs,decide_eq_true hq,zJ,zD (by omega) (by omega),bs,c1,bs,cs,show (zE.mk (prE x (k + 1) w).x (prE x (k + 1) w).v) = prE x (k + 1) w from rfl,hg w _ hw c2,bs,zD (by omega) (by omega),bs,cs]) (fun w hw => by
   unfold zTq
   dsimp only
   rw [fv,zJB (by omega),bs,decide_eq_false (by omega),zF]) (hI i),bs,zD (by omega) (by omega),bs,cs]
  rw [hAe (i + 1),zAC _ _ _ _ (by omega) (by omega),hcg i hi,← hAe]
  rfl) (by
  unfold zRM
  dsimp only
  rw [decide_eq_false (by rw [zBL h (by omega) hy];omega),zF,hAn])
 rw [hA0,Nat.add_zero] at this
 rw [this,bs,zSI h hE hT hk hu,bs]
 obtain ⟨y1,u1,e,hy1,hu1,hpr1,hyl1⟩:=prV h hE hT (k:=k + 1) (by omega) (zQu h hE hT hk (y:=y))
 rw [zLG h hE hT hk hy hu,hpr1,e,List.take_left' hyl1,List.drop_left' hyl1,tQ hyl1]
 dsimp only
 rw [zQ1 h hE hT hu1 (jE (by omega)),bs]
theorem zQ2 {k:Nat} (hk:k < x.zA.length) {g:zP → Int → zE → zE → Option zE} {gi:zP → Int → zE → Option zE} (hg:zQz D x m T (k + 1) g) (hi:zQ0 D x m T k gi):zQz D x m T k (b_d gi g):=by
 intro a b ha hb
 have hn:=hE.hn
 have hl:=uL h hE hT
 have hp:=(h.os.2 k hk).pos
 have ok:=zBs h hE hT (k:=k + 1) (by omega)
 have ok0:=zBs h hE hT (k:=k) (by omega)
 obtain ⟨al,au,rfl,hal,hau,hpa,hall⟩:=prV h hE hT (k:=k) (by omega) ha
 obtain ⟨bl,bu,rfl,hbl,hbu,hpb,hbll⟩:=prV h hE hT (k:=k) (by omega) hb
 rw [hpa,hpb]
 rw [yK (x:=x) hk] at hal hbl
 rw [yK (x:=exx D x m T) (by omega)] at ok0 ⊢
 obtain ⟨a0,a,rfl⟩:∃ a0 a',al = a0 :: a':=by cases al with | nil => exact hal.elim | cons p q => exact ⟨p,q,rfl⟩
 obtain ⟨b0,b,rfl⟩:∃ a0 a',bl = a0 :: a':=by cases bl with | nil => exact hbl.elim | cons p q => exact ⟨p,q,rfl⟩
 obtain ⟨⟨a1,a2⟩,hal⟩:=hal
 obtain ⟨⟨b1,b2⟩,hbl⟩:=hbl
 change a0 < at0 x.zA k at a2
 change b0 < at0 x.zA k at b2
 have hal1:=sG h (by omega) hal
 have hbl1:=sG h (by omega) hbl
 have hA:=(zCD h hE hT (x.zA.length - (k + 1)) (k + 1) (by omega) (a ++ au)).2 ⟨_,_,rfl,hal,hau⟩
 have hB:=(zCD h hE hT (x.zA.length - (k + 1)) (k + 1) (by omega) (b ++ bu)).2 ⟨_,_,rfl,hbl,hbu⟩
 have own:∀ u,V (suf x (k + 1)) u → f_t (fv (k + 1) u) = some (fv (k + 1) u):=fun u hu => tK (by
  rw [zBL h (by omega) hu];omega)
 have own':∀ (c:Int) u,V (suf x (k + 1)) u → f_t (fv k (c :: u)) = some (fv k (c :: u)):=fun c u hu => tK (by
  have:=sG h (by omega) hu
  rw [fv,List.length_append,zS,List.length_cons];omega)
 have hsig:∀ u,V (suf (exx D x m T) (k + 1)) u → V (suf (exx D x m T) (k + 1)) (sig (suf (exx D x m T) (k + 1)) (lvl (exx D x m T) k) u):=fun u hu => zEl ok0 hu
 have hit:V (suf (exx D x m T) (k + 1)) (iter b0.toNat (sig (suf (exx D x m T) (k + 1)) (lvl (exx D x m T) k)) (a ++ au)):=wZ hsig _ hA
 have ea:(⟨fv (k + 1) a,au⟩:zE) = prE x (k + 1) (a ++ au):=(tQ hal1).symm
 have eb:(⟨fv (k + 1) b,bu⟩:zE) = prE x (k + 1) (b ++ bu):=(tQ hbl1).symm
 unfold b_d
 dsimp only
 rw [decide_eq_false (by omega),zF,own' _ _ hal,bs,own' _ _ hbl,bs,zBJ,bs,zBJ,bs,Int.toNat_natCast,zC9,zC9,zAY,zAY]
 have e1:zH (zOz gi ⟨x,m,T⟩ k ⟨fv k (b0 :: b),bu⟩) (zeros (k + 1) ++ a,au,0) = some ((prE x (k + 1) (iter b0.toNat (sig (suf (exx D x m T) (k + 1)) (lvl (exx D x m T) k)) (a ++ au))).x,(prE x (k + 1) (iter b0.toNat (sig (suf (exx D x m T) (k + 1)) (lvl (exx D x m T) k)) (a ++ au))).v):=by
  have:=zBk (body:=zOz gi ⟨x,m,T⟩ k ⟨fv k (b0 :: b),bu⟩) (S:=V (suf (exx D x m T) (k + 1))) (fun w => (prE x (k + 1) w).x) (fun w => (prE x (k + 1) w).v) (sig (suf (exx D x m T) (k + 1)) (lvl (exx D x m T) k)) b0 b1 hsig (fun w q hw hq => by
   unfold zOz
   dsimp only
   rw [zBJ,bs,decide_eq_true hq,zJ,show (zE.mk (prE x (k + 1) w).x (prE x (k + 1) w).v) = prE x (k + 1) w from rfl,hi w hw,bs,zD (by omega) (by omega),bs,cs]) (fun w hw => by
   unfold zOz
   dsimp only
   rw [zBJ,bs,decide_eq_false (by omega),zF]) hA
  rw [← ea] at this
  exact this
 rw [e1,bs,zD (by omega) (by omega),bs,cs]
 dsimp only
 rw [show zeros (k + 1) ++ b = fv (k + 1) b from rfl,eb,show (zE.mk (prE x (k + 1) (iter b0.toNat (sig (suf (exx D x m T) (k + 1)) (lvl (exx D x m T) k)) (a ++ au))).x (prE x (k + 1) (iter b0.toNat (sig (suf (exx D x m T) (k + 1)) (lvl (exx D x m T) k)) (a ++ au))).v) = prE x (k + 1) (iter b0.toNat (sig (suf (exx D x m T) (k + 1)) (lvl (exx D x m T) k)) (a ++ au)) from rfl,hg _ _ hit hB,bs,bs,bs,zD (by omega) (by omega),bs,yF hk,bs]
 have hm:=xJ ok hit hB
 show _ = some (prE x k (mul _ (a0 :: (a ++ au)) (b0 :: (b ++ bu))))
 rw [yR,zG9 h hE hT hk]
 generalize mul (suf (exx D x m T) (k + 1)) (iter b0.toNat (sig (suf (exx D x m T) (k + 1)) (lvl (exx D x m T) k)) (a ++ au)) (b ++ bu) = r at hm ⊢
 have fin:∀ (c:Int) w,V (suf (exx D x m T) (k + 1)) w → ((f_t (prE x (k + 1) w).x).bind fun r22 => (ixO r22 (k:Int)).bind fun _ => some (zE.mk (r22.set k c) (prE x (k + 1) w).v)) = some (prE x k (c :: w)):=fun c w hw => by
  obtain ⟨w1,w2,rfl,h1,h2,h3,h4⟩:=prV h hE hT (k:=k + 1) (by omega) hw
  have e3:prE x k (c :: (w1 ++ w2)) = ⟨fv k (c :: w1),w2⟩:=tQ (y:=c :: w1) (by rw [List.length_cons];omega)
  rw [h3,e3]
  dsimp only
  rw [own _ h1,bs,fv,← zAY,zBJ,bs,zC9]
 by_cases hge:a0 + b0 ≥ at0 x.zA k
 ·obtain ⟨p1,p2⟩:=zI9 h hE hT (k:=k) (j:=k) (Nat.le_refl k) hk
  change V (suf (exx D x m T) (k + 1)) (lvl (exx D x m T) k).w at p2
  rw [decide_eq_true hge,zJ,if_pos hge,bs,zD (by omega) (by omega),bs,bs,p1,bs]
  have e4:=hg _ _ p2 hm
  rw [show (((exx D x m T).zU.getD k []).drop (k + 1)) = (lvl (exx D x m T) k).w from rfl,e4,bs]
  exact fin _ _ (xJ ok p2 hm)
 ·rw [decide_eq_false hge,zF,if_neg hge]
  exact fin _ _ hm
theorem zDd:∀ (d k:Nat),k + d = x.zA.length → (∀ q,2 * d + 1 ≤ q → zQz D x m T k (zLZ q)) ∧ (1 ≤ d → ∀ q,2 * d ≤ q → zQ0 D x m T k (zLY q))
 | 0,k,hk => by
  refine ⟨fun q hq a b ha hb => ?_,fun h => by omega⟩
  have hn:=hE.hn
  have hp:=hE.m.p.pos
  obtain ⟨q,rfl⟩:∃ m',q = m' + 1:=⟨q - 1,by omega⟩
  rw [zBj h hE hT D k (by omega) (by omega)] at ha hb ⊢
  have ha':=(zEL _ _).1 ha
  have hb':=(zEL _ _).1 hb
  show b_d _ _ ⟨x,m,T⟩ k _ _ = _
  unfold b_d
  have e:∀ w:Vec,prE x k w = ⟨zeros k,w⟩:=fun w => by
   rw [prE,show x.zA.length - k = 0 from by omega,List.take_zero,List.drop_zero,fv,List.append_nil]
  rw [e,e,e]
  dsimp only
  rw [decide_eq_true (by omega),zJ,yT (by omega),bs,zQ1 h hE hT ha' hb',bs,qR (by omega) D _ _ ha' hb',show x.zA.length = k from by omega]
  rfl
 | d + 1,k,hk => by
  obtain ⟨h1,h2⟩:=zDd d (k + 1) (by omega)
  have hI:∀ q,2 * (d + 1) ≤ q → zQ0 D x m T k (zLY q):=fun q hq => by
   obtain ⟨q,rfl⟩:∃ m',q = m' + 1:=⟨q - 1,by omega⟩
   exact zKn h hE hT (by omega) (h1 q (by omega))
  refine ⟨fun q hq => ?_,fun _ => hI⟩
  obtain ⟨q,rfl⟩:∃ m',q = m' + 1:=⟨q - 1,by omega⟩
  exact zQ2 h hE hT (by omega) (h1 q (by omega)) (hI q (by omega))
theorem zGF {k:Nat} (hk:k ≤ x.zA.length):zQz D x m T k f_d:=fun a b ha hb =>
 zA7 (2 * (x.zA.length - k) + 1) fun q hq => (zDd h hE hT (x.zA.length - k) k (by omega)).1 q hq a b ha hb
theorem zAk {k:Nat} (hk:k < x.zA.length):zQ0 D x m T k f_f:=fun v hv =>
 zA7 (2 * (x.zA.length - k)) fun q hq => (zDd h hE hT (x.zA.length - k) k (by omega)).2 (by omega) q hq v hv
end
end Go.Pl

namespace Go.Pl
open Go Go.Ab Go.Wk Go.Pc
structure GR (p:Int) (D:Nat) (L:Mx) (N:Nat) (C:Prop):Prop where
 len:L.length ≤ N
 row:∀ r ∈ L,Row p D r
 iff:(∀ r ∈ L,r = zeros D) ↔ C
theorem GR.nil {p:Int} {D N:Nat}:GR p D [] N True:=⟨by simp,by simp,by simp⟩
theorem GR.app {p:Int} {D N M:Nat} {L L':Mx} {C C':Prop} (h:GR p D L N C) (h':GR p D L' M C'):GR p D (L ++ L') (N + M) (C ∧ C'):=by
 refine ⟨by have:=h.len;have:=h'.len;rw [List.length_append];omega,fun r hr => ?_,?_⟩
 ·rcases List.mem_append.1 hr with g | g
  ·exact h.row r g
  ·exact h'.row r g
 ·rw [← h.iff,← h'.iff]
  exact ⟨fun g => ⟨fun r hr => g r (List.mem_append_left _ hr),fun r hr => g r (List.mem_append_right _ hr)⟩,fun g r hr => (List.mem_append.1 hr).elim (g.1 r) (g.2 r)⟩
theorem GR.one {p:Int} {D:Nat} {r:List Int} {C:Prop} (hr:Row p D r) (h:r = zeros D ↔ C):GR p D [r] 1 C :=
 ⟨by simp,fun q hq => by rw [List.mem_singleton.1 hq];exact hr,by rw [← h];exact ⟨fun g => g r (by simp),fun g q hq => by rw [List.mem_singleton.1 hq];exact g⟩⟩
theorem GR.to {p:Int} {D N M:Nat} {L:Mx} {C C':Prop} (h:GR p D L N C) (hN:N ≤ M) (hc:C ↔ C'):GR p D L M C':=⟨by have:=h.len;omega,h.row,h.iff.trans hc⟩
def c1E (e:SPr) (k j:Nat):Prop:=pw (mul (suf e (k + 1))) (zeros (suf e (k + 1)).length) ((lvl e k).cs.getD (j - (k + 1)) []) (at0 e.zA j).toNat = sig (suf e (k + 1)) (lvl e k) ((e.zU.getD j []).drop (k + 1))
def c2E (e:SPr) (k i j:Nat):Prop:=mul (suf e (k + 1)) ((lvl e k).cs.getD (j - (k + 1)) []) ((lvl e k).cs.getD (i - (k + 1)) []) = mul (suf e (k + 1)) ((lvl e k).cs.getD (i - (k + 1)) []) (sig (suf e (k + 1)) (lvl e k) (((e.zB.getD i []).getD (j - (i + 1)) []).drop (k + 1)))
def c4E (e:SPr) (k j:Nat):Prop:=mul (suf e (k + 1)) (lvl e k).w (iter (lvl e k).o.toNat (sig (suf e (k + 1)) (lvl e k)) (wJ (e.zA.length - (k + 1)) (j - (k + 1)))) = mul (suf e (k + 1)) (wJ (e.zA.length - (k + 1)) (j - (k + 1))) (lvl e k).w
section
variable {D:Nat} {x:SPr} {m:zC} {T:Mx} (h:Pres x) (hE:zG0 x.zA.length D x m T) (hT:∀ i,i < T.length → Row m.Prime D (T.getD i []))
 include h hE hT
theorem zGG {k:Nat} (hk:k ≤ x.zA.length) {a b:Vec} (ha:V (suf (exx D x m T) k) a) (hb:V (suf (exx D x m T) k) b):(mul (suf (exx D x m T) k) a b).take (x.zA.length - k) = mul (suf x k) (a.take (x.zA.length - k)) (b.take (x.zA.length - k)):=zI8 h hE hT _ k (by omega) a b ha hb
theorem zIB {k:Nat} (hk:k < x.zA.length) {v:Vec} (hv:V (suf (exx D x m T) (k + 1)) v):(sig (suf (exx D x m T) (k + 1)) (lvl (exx D x m T) k) v).take (x.zA.length - (k + 1)) = sig (suf x (k + 1)) (lvl x k) (v.take (x.zA.length - (k + 1))) :=
 zKl h hE hT hk (zI8 h hE hT _ (k + 1) (by omega)) hv
theorem zE0 {k:Nat} (hk:k < x.zA.length) {v:Vec} (hv:V (suf (exx D x m T) (k + 1)) v):V (suf (exx D x m T) (k + 1)) (sig (suf (exx D x m T) (k + 1)) (lvl (exx D x m T) k) v):=zPT (zDH h hE hT) (by rw [uL h hE hT];omega) hv
theorem zNp {k:Nat} (hk:k < x.zA.length):∀ (q:Nat) {v:Vec},V (suf (exx D x m T) (k + 1)) v → (iter q (sig (suf (exx D x m T) (k + 1)) (lvl (exx D x m T) k)) v).take (x.zA.length - (k + 1)) = iter q (sig (suf x (k + 1)) (lvl x k)) (v.take (x.zA.length - (k + 1)))
 | 0,_,_ => rfl
 | q + 1,v,hv => by
  have:=zNp hk q (zE0 h hE hT hk hv)
  rw [zIB h hE hT hk hv] at this
  exact this
theorem zSJ {k:Nat} (hk:k ≤ x.zA.length):(zeros (suf (exx D x m T) k).length).take (x.zA.length - k) = zeros (suf x k).length:=by
 rw [zBU h hE hT hk,List.take_left' (zS _),xI]
theorem zXc {k:Nat} (hk:k ≤ x.zA.length) {c:Vec} (hc:V (suf (exx D x m T) k) c) (q:Nat):(pw (mul (suf (exx D x m T) k)) (zeros (suf (exx D x m T) k).length) c q).take (x.zA.length - k) = pw (mul (suf x k)) (zeros (suf x k).length) (c.take (x.zA.length - k)) q:=by
 have ok:=zBs h hE hT (k:=k) (by omega)
 have:=zGC (S:=V (suf (exx D x m T) k)) (n:=mul (suf x k)) (·.take (x.zA.length - k)) (fun a b => xJ ok) (fun a b => zGG h hE hT hk) [c] [(q:Int)] (zeros (suf (exx D x m T) k).length) (fun a ha => by rw [List.mem_singleton.1 ha];exact hc) (wH ok)
 simp only [List.map_cons,List.map_nil,img,Int.toNat_natCast] at this
 rw [zSJ h hE hT hk] at this
 exact this
theorem zIC {k:Nat} (hk:k ≤ x.zA.length) {a b:Vec} (ha:V (suf (exx D x m T) k) a) (hb:V (suf (exx D x m T) k) b) (e:a.take (x.zA.length - k) = b.take (x.zA.length - k)):∃ r,zKA ⟨x,m,T⟩ (prE x k a) (prE x k b) = some r ∧ Row m.Prime D r ∧ (r = zeros D ↔ a = b):=by
 have h7:=hE.m.p.pos
 have h3:=hE.m.d3
 obtain ⟨y,u,rfl,hy,hu,hpr,hyl⟩:=prV h hE hT hk ha
 obtain ⟨z,v,rfl,hz,hv,hpr2,hzl⟩:=prV h hE hT hk hb
 rw [List.take_left' hyl,List.take_left' hzl] at e
 subst e
 unfold zKA
 rw [hpr,hpr2]
 dsimp only
 rw [zD (by omega) (by omega),bs,vT hE.m.p hu hv (by omega) (by omega),bs,zBc]
 refine ⟨_,rfl,jD hE.m.p,?_⟩
 rw [List.append_cancel_left_eq,← zNR (p:=m.Prime) hu hv]
 constructor
 ·intro g j hj;rw [g,uD]
 ·intro g
  rw [vJ (zD7 (p:=m.Prime) (r:=u) (s:=v) (k:=-1)),show zeros D = mkv D fun _ => 0 from tL D]
  exact zY fun j hj => g j hj
section
variable {k:Nat} (hk:k < x.zA.length) (hc:LC x k)
 include hk
theorem zQ3 {j:Nat} (h1:k + 1 ≤ j) (h2:j < x.zA.length):((lvl (exx D x m T) k).cs.getD (j - (k + 1)) []).take (x.zA.length - (k + 1)) = (lvl x k).cs.getD (j - (k + 1)) []:=by
 rw [zUd h hE hT hk h1 h2,List.take_left' (sG h (by omega) (jC h hk h1 h2).2.2)]
theorem zLL {j:Nat} (h1:k ≤ j) (h2:j < x.zA.length):(((exx D x m T).zU.getD j []).drop (k + 1)).take (x.zA.length - (k + 1)) = (x.zU.getD j []).drop (k + 1):=by
 have t1:=(h.tl j h2).1.1.1
 rw [zLJ h hE hT h1 h2,List.take_left' (by rw [List.length_drop];omega)]
theorem zVk {i j:Nat} (h1:k + 1 ≤ i) (h2:i < j) (h3:j < x.zA.length):((((exx D x m T).zB.getD i []).getD (j - (i + 1)) []).drop (k + 1)).take (x.zA.length - (k + 1)) = ((x.zB.getD i []).getD (j - (i + 1)) []).drop (k + 1):=by
 rw [zLK h hE hT (by omega) h2 h3,List.take_left' (sG h (by omega) (zPS h hk h1 h2 h3).2.2)]
theorem zVl {j:Nat} (h1:k + 1 ≤ j) (h2:j < x.zA.length):wJ ((exx D x m T).zA.length - (k + 1)) (j - (k + 1)) = wJ (x.zA.length - (k + 1)) (j - (k + 1)) ++ zeros D:=by
 rw [uL h hE hT,jV (by omega),jV (by omega),List.append_assoc,List.cons_append]
 simp only [zeros,List.replicate_append_replicate]
 rw [show x.zA.length + D - (k + 1) - (j - (k + 1) + 1) = x.zA.length - (k + 1) - (j - (k + 1) + 1) + D from by omega]
 include hc
theorem zXJ {j:Nat} (h1:k + 1 ≤ j) (h2:j < x.zA.length) {L0 L:Mx} {N:Nat} {C:Prop} (hL:GR m.Prime D L N C) (hN:N ≤ 1000) {f:Mx → Option (Mx × Int ⊕ Mx)}:∃ L',((zK9 ⟨x,m,T⟩).bind fun r2 =>
  (zH (zO0 ⟨x,m,T⟩ (k:Int) (L0,(j:Int))) (r2.x,r2.v,0)).bind fun r8 =>
  (zLX ⟨x,m,T⟩ (j:Int)).bind fun r9 =>
  (f_f ⟨x,m,T⟩ (k:Int) r9).bind fun r10 =>
  (zKA ⟨x,m,T⟩ (zE.mk r8.1 r8.2) r10).bind fun r11 =>
  (xQ L [r11]).bind f) = f L' ∧ GR m.Prime D L' (N + 1) (C ∧ c1E (exx D x m T) k j):=by
 have ok:=zBs h hE hT (k:=k + 1) (by omega)
 have hn:=hE.hn
 have hp:=(h.os.2 j h2).pos
 have hz:=wH ok
 obtain ⟨c1,c2⟩:=zDJ h hE hT (k:=k) (j:=j) (by omega) h2
 obtain ⟨p1,p2⟩:=zI9 h hE hT (k:=k) (j:=j) (by omega) h2
 have hA:=zGF h hE hT (k:=k + 1) (by omega)
 have hI:=zAk h hE hT hk
 have hlp:zH (zO0 ⟨x,m,T⟩ (k:Int) (L0,(j:Int))) ((prE x (k + 1) (zeros (suf (exx D x m T) (k + 1)).length)).x,(prE x (k + 1) (zeros (suf (exx D x m T) (k + 1)).length)).v,0) = some ((prE x (k + 1) (pw (mul (suf (exx D x m T) (k + 1))) (zeros (suf (exx D x m T) (k + 1)).length) ((lvl (exx D x m T) k).cs.getD (j - (k + 1)) []) (at0 x.zA j).toNat)).x,(prE x (k + 1) (pw (mul (suf (exx D x m T) (k + 1))) (zeros (suf (exx D x m T) (k + 1)).length) ((lvl (exx D x m T) k).cs.getD (j - (k + 1)) []) (at0 x.zA j).toNat)).v) :=
  zBk (S:=V (suf (exx D x m T) (k + 1))) (fun w => (prE x (k + 1) w).x) (fun w => (prE x (k + 1) w).v) (fun w => mul (suf (exx D x m T) (k + 1)) w ((lvl (exx D x m T) k).cs.getD (j - (k + 1)) [])) (at0 x.zA j) (by omega) (fun w hw => xJ ok hw c2) (fun w q hw hq => by
   unfold zO0
   dsimp only
   rw [yF h2,bs,decide_eq_true hq,zJ,zD (by omega) (by omega),bs,c1,bs,cs,show (zE.mk (prE x (k + 1) w).x (prE x (k + 1) w).v) = prE x (k + 1) w from rfl,hA w _ hw c2,bs,zD (by omega) (by omega),bs,cs]) (fun w hw => by
   unfold zO0
   dsimp only
   rw [yF h2,bs,decide_eq_false (by omega),zF]) hz
 have hpw:V (suf (exx D x m T) (k + 1)) (pw (mul (suf (exx D x m T) (k + 1))) (zeros (suf (exx D x m T) (k + 1)).length) ((lvl (exx D x m T) k).cs.getD (j - (k + 1)) []) (at0 x.zA j).toNat):=wZ (fun w hw => xJ ok hw c2) _ hz
 obtain ⟨r,r1,r2,r3⟩:=zIC h hE hT (k:=k + 1) (by omega) hpw (zE0 h hE hT hk p2) (by
  rw [zXc h hE hT (by omega) c2,zIB h hE hT hk p2,zQ3 h hE hT hk h1 h2,zLL h hE hT hk (by omega) h2]
  exact hc.c1 j h1 h2)
 have hll:=hL.len
 refine ⟨L ++ [r],?_,hL.app (GR.one r2 (r3.trans ?_))⟩
 ·rw [zIA h hE hT (k:=k + 1) (by omega) (by omega),bs,hlp,bs,p1,bs,hI _ p2,bs]
  dsimp only
  rw [r1,bs,yM (by simp;omega),bs]
 ·unfold c1E;rw [zCp h hE hT h2]
theorem zXK {j:Nat} (h1:k + 1 ≤ j) (h2:j < x.zA.length) {L0 L:Mx} {N:Nat} {C:Prop} (hL:GR m.Prime D L N C) (hN:N ≤ 1000):∃ L',zH (zO1 ⟨x,m,T⟩ (k:Int) (L0,(j:Int))) (L,((j + 1:Nat):Int)) = some L' ∧ GR m.Prime D L' (N + (x.zA.length - (j + 1))) (C ∧ ∀ j2,j + 1 ≤ j2 → j2 < x.zA.length → c2E (exx D x m T) k j j2):=by
 have ok:=zBs h hE hT (k:=k + 1) (by omega)
 have hn:=hE.hn
 have hA:=zGF h hE hT (k:=k + 1) (by omega)
 have hI:=zAk h hE hT hk
 refine vQ (fun i (s:Mx × Int) => s.2 = ((j + 1 + i:Nat):Int) ∧ GR m.Prime D s.1 (N + i) (C ∧ ∀ j2,j + 1 ≤ j2 → j2 < j + 1 + i → c2E (exx D x m T) k j j2)) (x.zA.length - (j + 1)) (fun i s hi ⟨hs,hg⟩ => ?_) (fun s ⟨hs,hg⟩ => ?_) ⟨rfl,hL.to (by omega) ⟨fun g => ⟨g,fun j2 a b => by omega⟩,fun g => g.1⟩⟩
 ·left
  obtain ⟨L1,s2⟩:=s
  dsimp only at hs hg
  subst hs
  have g2:j + 1 + i < x.zA.length:=by omega
  obtain ⟨a1,a2⟩:=zDJ h hE hT (k:=k) (j:=j) (by omega) h2
  obtain ⟨b1,b2⟩:=zDJ h hE hT (k:=k) (j:=j + 1 + i) (by omega) g2
  obtain ⟨d1,d2⟩:=zNo h hE hT (k:=k) (i:=j) (j:=j + 1 + i) (by omega) (by omega) g2
  have hs:=zE0 h hE hT hk d2
  obtain ⟨r,r1,r2,r3⟩:=zIC h hE hT (k:=k + 1) (by omega) (xJ ok b2 a2) (xJ ok a2 hs) (by
   rw [zGG h hE hT (by omega) b2 a2,zGG h hE hT (by omega) a2 hs,zIB h hE hT hk d2,zQ3 h hE hT hk h1 h2,zQ3 h hE hT hk (by omega) g2,zVk h hE hT hk h1 (by omega) g2]
   exact hc.c2 j h1 h2 (j + 1 + i) (by omega) g2)
  have hll:=hg.len
  refine ⟨(L1 ++ [r],((j + 1 + i + 1:Nat):Int)),?_,rfl,(hg.app (GR.one r2 r3)).to (by omega) ?_⟩
  ·unfold zO1
   dsimp only
   rw [decide_eq_true (by omega),zJ,a1,bs,b1,bs,d1,bs,hI _ d2,bs,zD (by omega) (by omega),bs,cs,hA _ _ b2 a2,bs,bs,hA _ _ a2 hs,bs,r1,bs,yM (by simp;omega),bs,zD (by omega) (by omega),bs,cs]
  ·constructor
   ·rintro ⟨⟨g1,g3⟩,g4⟩
    refine ⟨g1,fun j2 e1 e2 => ?_⟩
    rcases Nat.lt_or_ge j2 (j + 1 + i) with e | e
    ·exact g3 j2 e1 e
    ·obtain rfl:j2 = j + 1 + i:=by omega
     exact g4
   ·rintro ⟨g1,g3⟩
    exact ⟨⟨g1,fun j2 e1 e2 => g3 j2 e1 (by omega)⟩,g3 (j + 1 + i) (by omega) (by omega)⟩
 ·obtain ⟨L1,s2⟩:=s
  dsimp only at hs hg
  subst hs
  refine ⟨L1,?_,hg.to (Nat.le_refl _) ?_⟩
  ·unfold zO1
   dsimp only
   rw [decide_eq_false (by omega),zF]
  ·rw [show j + 1 + (x.zA.length - (j + 1)) = x.zA.length from by omega]
theorem zXL:∃ L',zH (zRN ⟨x,m,T⟩ (k:Int)) ([],((k + 1:Nat):Int)) = some L' ∧ GR m.Prime D L' 100 (∀ j,k + 1 ≤ j → j < x.zA.length → c1E (exx D x m T) k j ∧ ∀ j2,j + 1 ≤ j2 → j2 < x.zA.length → c2E (exx D x m T) k j j2):=by
 have hn:=hE.hn
 refine vQ (fun i (s:Mx × Int) => s.2 = ((k + 1 + i:Nat):Int) ∧ GR m.Prime D s.1 (7 * i) (∀ j,k + 1 ≤ j → j < k + 1 + i → c1E (exx D x m T) k j ∧ ∀ j2,j + 1 ≤ j2 → j2 < x.zA.length → c2E (exx D x m T) k j j2)) (x.zA.length - (k + 1)) (fun i s hi ⟨hs,hg⟩ => ?_) (fun s ⟨hs,hg⟩ => ?_) ⟨rfl,(GR.nil (N:=0)).to (by omega) ⟨fun _ j a b => by omega,fun _ => trivial⟩⟩
 ·left
  obtain ⟨L1,s2⟩:=s
  dsimp only at hs hg
  subst hs
  have g2:k + 1 + i < x.zA.length:=by omega
  obtain ⟨L2,e2,hg2⟩:=zXJ h hE hT hk hc (j:=k + 1 + i) (by omega) g2 (L0:=L1) hg (by omega) (f:=fun v12 => (rng (((k + 1 + i:Nat):Int) + 1)).bind fun v13 =>
   (zH (zO1 ⟨x,m,T⟩ (k:Int) (L1,((k + 1 + i:Nat):Int))) (v12,v13)).bind fun r25 =>
   (rng (((k + 1 + i:Nat):Int) + 1)).bind fun v26 => some (.inl (r25,v26)))
  obtain ⟨L3,e3,hg3⟩:=zXK h hE hT hk hc (j:=k + 1 + i) (by omega) g2 (L0:=L1) hg2 (by omega)
  refine ⟨(L3,((k + 1 + i + 1:Nat):Int)),?_,rfl,hg3.to (by omega) ?_⟩
  ·unfold zRN
   dsimp only
   rw [decide_eq_true (by omega),zJ,e2,zD (by omega) (by omega),bs,cs,e3,bs,bs]
  ·constructor
   ·rintro ⟨⟨g1,g3⟩,g4⟩ j e1 e2
    rcases Nat.lt_or_ge j (k + 1 + i) with e | e
    ·exact g1 j e1 e
    ·obtain rfl:j = k + 1 + i:=by omega
     exact ⟨g3,g4⟩
   ·intro g
    have:=g (k + 1 + i) (by omega) (by omega)
    exact ⟨⟨fun j e1 e2 => g j e1 (by omega),this.1⟩,this.2⟩
 ·obtain ⟨L1,s2⟩:=s
  dsimp only at hs hg
  subst hs
  refine ⟨L1,?_,hg.to (by omega) ?_⟩
  ·unfold zRN
   dsimp only
   rw [decide_eq_false (by omega),zF]
  ·rw [show k + 1 + (x.zA.length - (k + 1)) = x.zA.length from by omega]
theorem zQ4 {j:Nat} (h1:k + 1 ≤ j) (h2:j < x.zA.length):∃ r,zK9 ⟨x,m,T⟩ = some r ∧ ixO r.x (j:Int) = some 0 ∧ r.x.set j 1 = (prE x (k + 1) (wJ (x.zA.length - (k + 1)) (j - (k + 1)) ++ zeros D)).x ∧ r.v = (prE x (k + 1) (wJ (x.zA.length - (k + 1)) (j - (k + 1)) ++ zeros D)).v:=by
 have _:=hc
 have hn:=hE.hn
 have hul:(wJ (x.zA.length - (k + 1)) (j - (k + 1))).length = x.zA.length - (k + 1):=by rw [jH,zZ]
 refine ⟨_,zIA h hE hT (k:=k + 1) (by omega) (by omega),?_,?_,?_⟩
 ·rw [zBU h hE hT (by omega),tQ (zS _)]
  dsimp only
  simp only [fv,zeros,List.replicate_append_replicate]
  rw [vA,List.getElem?_replicate,if_pos (by omega)]
 ·rw [zBU h hE hT (by omega),tQ (zS _),tQ hul]
  dsimp only
  have e1:fv (k + 1) (zeros (x.zA.length - (k + 1))) = zeros j ++ 0 :: zeros (x.zA.length - (k + 1) - (j - (k + 1) + 1)):=by
   simp only [fv,zeros]
   rw [← List.replicate_succ,List.replicate_append_replicate,List.replicate_append_replicate]
   congr 1;omega
  rw [e1,zC9,fv,jV (by omega),← List.append_assoc]
  simp only [zeros,List.replicate_append_replicate]
  rw [show k + 1 + (j - (k + 1)) = j from by omega]
 ·rw [zBU h hE hT (by omega),tQ (zS _),tQ hul]
theorem zXM {L:Mx} {N:Nat} {C:Prop} (hL:GR m.Prime D L N C) (hN:N ≤ 1000):∃ L',zH (zO2 ⟨x,m,T⟩ (k:Int) (prE x (k + 1) (((exx D x m T).zU.getD k []).drop (k + 1)))) (L,((k + 1:Nat):Int)) = some L' ∧ GR m.Prime D L' (N + (x.zA.length - (k + 1))) (C ∧ ∀ j,k + 1 ≤ j → j < x.zA.length → c4E (exx D x m T) k j):=by
 have hn:=hE.hn
 have hpk:=(h.os.2 k hk).pos
 have h7:=hE.m.p.pos
 have ok:=zBs h hE hT (k:=k + 1) (by omega)
 have hA:=zGF h hE hT (k:=k + 1) (by omega)
 have hI:=zAk h hE hT hk
 obtain ⟨p1,p2⟩:=zI9 h hE hT (k:=k) (j:=k) (Nat.le_refl k) hk
 change V (suf (exx D x m T) (k + 1)) (lvl (exx D x m T) k).w at p2
 change ∃ L',zH (zO2 ⟨x,m,T⟩ (k:Int) (prE x (k + 1) (lvl (exx D x m T) k).w)) (L,((k + 1:Nat):Int)) = some L' ∧ _
 have htw:(lvl (exx D x m T) k).w.take (x.zA.length - (k + 1)) = (lvl x k).w:=zLL h hE hT hk (Nat.le_refl k) hk
 have ho:(lvl (exx D x m T) k).o = at0 x.zA k:=zG9 h hE hT hk
 refine vQ (fun i (s:Mx × Int) => s.2 = ((k + 1 + i:Nat):Int) ∧ GR m.Prime D s.1 (N + i) (C ∧ ∀ j,k + 1 ≤ j → j < k + 1 + i → c4E (exx D x m T) k j)) (x.zA.length - (k + 1)) (fun i s hi ⟨hs,hg⟩ => ?_) (fun s ⟨hs,hg⟩ => ?_) ⟨rfl,hL.to (by omega) ⟨fun g => ⟨g,fun j2 a b => by omega⟩,fun g => g.1⟩⟩
 ·left
  obtain ⟨L1,s2⟩:=s
  dsimp only at hs hg
  subst hs
  have g2:k + 1 + i < x.zA.length:=by omega
  obtain ⟨r33,z1,z2,z3,z4⟩:=zQ4 h hE hT hk hc (j:=k + 1 + i) (by omega) g2
  have hue:=zVl h hE hT hk (j:=k + 1 + i) (by omega) g2
  have hux:V (suf x (k + 1)) (wJ (x.zA.length - (k + 1)) (k + 1 + i - (k + 1))):=by
   have:=zCV (h.okAt (k:=k + 1) (by omega)) (j:=k + 1 + i - (k + 1)) (by rw [xI];omega)
   rwa [xI] at this
  have hul:=sG h (by omega) hux
  have huV:V (suf (exx D x m T) (k + 1)) (wJ (x.zA.length - (k + 1)) (k + 1 + i - (k + 1)) ++ zeros D):=(zCD h hE hT (x.zA.length - (k + 1)) (k + 1) (by omega) _).2 ⟨_,_,rfl,hux,sC (by omega)⟩
  have hit:V (suf (exx D x m T) (k + 1)) (iter (at0 x.zA k).toNat (sig (suf (exx D x m T) (k + 1)) (lvl (exx D x m T) k)) (wJ (x.zA.length - (k + 1)) (k + 1 + i - (k + 1)) ++ zeros D)):=wZ (fun w hw => zE0 h hE hT hk hw) _ huV
  have hlp:zH (zRO ⟨x,m,T⟩ (k:Int)) ((prE x (k + 1) (wJ (x.zA.length - (k + 1)) (k + 1 + i - (k + 1)) ++ zeros D)).x,(prE x (k + 1) (wJ (x.zA.length - (k + 1)) (k + 1 + i - (k + 1)) ++ zeros D)).v,0) = some ((prE x (k + 1) (iter (at0 x.zA k).toNat (sig (suf (exx D x m T) (k + 1)) (lvl (exx D x m T) k)) (wJ (x.zA.length - (k + 1)) (k + 1 + i - (k + 1)) ++ zeros D))).x,(prE x (k + 1) (iter (at0 x.zA k).toNat (sig (suf (exx D x m T) (k + 1)) (lvl (exx D x m T) k)) (wJ (x.zA.length - (k + 1)) (k + 1 + i - (k + 1)) ++ zeros D))).v) :=
   zBk (S:=V (suf (exx D x m T) (k + 1))) (fun w => (prE x (k + 1) w).x) (fun w => (prE x (k + 1) w).v) (sig (suf (exx D x m T) (k + 1)) (lvl (exx D x m T) k)) (at0 x.zA k) (by omega) (fun w hw => zE0 h hE hT hk hw) (fun w q hw hq => by
    unfold zRO
    dsimp only
    rw [yF hk,bs,decide_eq_true hq,zJ,show (zE.mk (prE x (k + 1) w).x (prE x (k + 1) w).v) = prE x (k + 1) w from rfl,hI w hw,bs,zD (by omega) (by omega),bs,cs]) (fun w hw => by
    unfold zRO
    dsimp only
    rw [yF hk,bs,decide_eq_false (by omega),zF]) huV
  obtain ⟨r,r1,r2,r3⟩:=zIC h hE hT (k:=k + 1) (by omega) (xJ ok p2 hit) (xJ ok huV p2) (by
   rw [zGG h hE hT (by omega) p2 hit,zGG h hE hT (by omega) huV p2,zNp h hE hT hk _ huV,htw,List.take_left' hul]
   exact hc.c4 (k + 1 + i) (by omega) g2)
  have hll:=hg.len
  refine ⟨(L1 ++ [r],((k + 1 + i + 1:Nat):Int)),?_,rfl,(hg.app (GR.one r2 r3)).to (by omega) ?_⟩
  ·unfold zO2
   dsimp only
   rw [decide_eq_true (by omega),zJ,z1,bs,z2,bs,Int.toNat_natCast,z3,z4,hlp,bs,zD (by omega) (by omega),bs,cs]
   dsimp only
   have e1:=hA _ _ p2 hit
   have e2:=hA _ _ huV p2
   rw [show ∀ w,(zE.mk (prE x (k + 1) w).x (prE x (k + 1) w).v) = prE x (k + 1) w from fun _ => rfl,show ∀ w,(zE.mk (prE x (k + 1) w).x (prE x (k + 1) w).v) = prE x (k + 1) w from fun _ => rfl,e1,bs,bs,e2,bs,r1,bs,yM (by simp;omega),bs,zD (by omega) (by omega),bs,cs]
  ·have e4:c4E (exx D x m T) k (k + 1 + i) ↔ mul (suf (exx D x m T) (k + 1)) (lvl (exx D x m T) k).w (iter (at0 x.zA k).toNat (sig (suf (exx D x m T) (k + 1)) (lvl (exx D x m T) k)) (wJ (x.zA.length - (k + 1)) (k + 1 + i - (k + 1)) ++ zeros D)) = mul (suf (exx D x m T) (k + 1)) (wJ (x.zA.length - (k + 1)) (k + 1 + i - (k + 1)) ++ zeros D) (lvl (exx D x m T) k).w:=by
    unfold c4E;rw [hue,ho]
   rw [← e4]
   constructor
   ·rintro ⟨⟨g1,g3⟩,g4⟩
    refine ⟨g1,fun j2 e1 e2 => ?_⟩
    rcases Nat.lt_or_ge j2 (k + 1 + i) with e | e
    ·exact g3 j2 e1 e
    ·obtain rfl:j2 = k + 1 + i:=by omega
     exact g4
   ·rintro ⟨g1,g3⟩
    exact ⟨⟨g1,fun j2 e1 e2 => g3 j2 e1 (by omega)⟩,g3 (k + 1 + i) (by omega) (by omega)⟩
 ·obtain ⟨L1,s2⟩:=s
  dsimp only at hs hg
  subst hs
  refine ⟨L1,?_,hg.to (Nat.le_refl _) ?_⟩
  ·unfold zO2
   dsimp only
   rw [decide_eq_false (by omega),zF]
  ·rw [show k + 1 + (x.zA.length - (k + 1)) = x.zA.length from by omega]
theorem zVm:∃ L,f_h ⟨x,m,T⟩ (k:Int) = some L ∧ GR m.Prime D L 120 (LCn x (exx D x m T) k):=by
 have hn:=hE.hn
 have hI:=zAk h hE hT hk
 obtain ⟨p1,p2⟩:=zI9 h hE hT (k:=k) (j:=k) (Nat.le_refl k) hk
 obtain ⟨L1,e1,g1⟩:=zXL h hE hT hk hc
 have hs:=zE0 h hE hT hk p2
 obtain ⟨r,r1,r2,r3⟩:=zIC h hE hT (k:=k + 1) (by omega) hs p2 (by
  rw [zIB h hE hT hk p2,zLL h hE hT hk (Nat.le_refl k) hk]
  exact hc.c3)
 obtain ⟨L2,e2,g2⟩:=zXM h hE hT hk hc (g1.app (GR.one r2 r3)) (by omega)
 have hll:=g1.len
 refine ⟨L2,?_,g2.to (by omega) ?_⟩
 ·unfold f_h
  rw [zD (by omega) (by omega),bs,cs,e1,bs,p1,bs,hI _ p2,bs,r1,bs,yM (by simp;omega),bs,bs,e2,bs]
 ·constructor
  ·rintro ⟨⟨a1,a2⟩,a3⟩
   exact ⟨fun j b1 b2 => (a1 j b1 b2).1,fun i b1 b2 j b3 b4 => (a1 i b1 b2).2 j b3 b4,a2,a3⟩
  ·intro a
   exact ⟨⟨fun j b1 b2 => ⟨a.c1 j b1 b2,fun j2 b3 b4 => a.c2 j b1 b2 j2 b3 b4⟩,a.c3⟩,a.c4⟩
end
theorem zNq (hx:vC (suf x 0)) (hr:zGT x m D):IsB (zRP x m T) (vC (suf (exx D x m T) 0)):=by
 have hn:=hE.hn
 have h3:=hE.m.d3
 have hlc:∀ k,k < x.zA.length → LC x k:=fun k hk => ((zAE h hk).1 (zCj hx k)).2
 have hgaps:∃ L,zTr ⟨x,m,T⟩ = some L ∧ GR m.Prime D L 1000 (∀ k,k < x.zA.length → LCn x (exx D x m T) k):=by
  obtain ⟨L,e,g⟩:=vQ (body:=zKB ⟨x,m,T⟩) (Q:=fun L => GR m.Prime D L 1000 (∀ k,k < x.zA.length → LCn x (exx D x m T) k)) (fun i (s:Mx × Int) => s.2 = (i:Int) ∧ GR m.Prime D s.1 (120 * i) (∀ k,k < i → LCn x (exx D x m T) k)) x.zA.length (fun i s hi ⟨hs,hg⟩ => by
   left
   obtain ⟨L1,s2⟩:=s
   dsimp only at hs hg
   subst hs
   obtain ⟨L2,e2,g2⟩:=zVm h hE hT hi (hlc i hi)
   have l1:=hg.len
   have l2:=g2.len
   refine ⟨(L1 ++ L2,((i + 1:Nat):Int)),?_,rfl,(hg.app g2).to (by omega) ?_⟩
   ·unfold zKB
    dsimp only
    rw [yQ hi,zJ,e2,bs,yM (by omega),bs,zD (by omega) (by omega),bs,cs]
   ·constructor
    ·rintro ⟨a1,a2⟩ k hk
     rcases Nat.lt_or_ge k i with e | e
     ·exact a1 k e
     ·obtain rfl:k = i:=by omega
      exact a2
    ·exact fun a => ⟨fun k hk => a k (by omega),a i (by omega)⟩) (fun s ⟨hs,hg⟩ => by
   obtain ⟨L1,s2⟩:=s
   dsimp only at hs hg
   subst hs
   refine ⟨L1,?_,hg.to (by omega) Iff.rfl⟩
   unfold zKB
   dsimp only
   rw [xD,zF]) (s:=([],0)) ⟨rfl,(GR.nil (N:=0)).to (by omega) ⟨fun _ k hk => by omega,fun _ => trivial⟩⟩
  exact ⟨L,by unfold zTr;rw [e,bs],g⟩
 obtain ⟨L,e,g⟩:=hgaps
 have hll:=g.len
 unfold zRP
 rw [e,bs]
 refine (tU (body:=zKC L) L.length (fun i => ∀ j,j < (L.getD i []).length → at0 (L.getD i []) j = 0) rfl (fun i hi _ => ?_) ?_).iff ?_
 ·have hrow:=g.row (L.getD i []) (by rw [List.getD_eq_getElem?_getD,List.getElem?_eq_getElem hi];exact List.getElem_mem hi)
  unfold zKC
  rw [yQ hi,zJ,yD [] hi,bs]
  rcases zCm (v:=L.getD i []) (by rw [hrow.1];omega) with ⟨z1,z2⟩ | ⟨z1,z2⟩
  ·left
   rw [z1,bs,Bool.not_true,zF,zD (by omega) (by omega),bs,cs]
   exact ⟨rfl,z2⟩
  ·right
   rw [z1,bs,Bool.not_false,zJ]
   exact ⟨rfl,z2⟩
 ·unfold zKC
  rw [xD,zF]
 ·rw [zSH h hE hT hr,← g.iff]
  constructor
  ·intro a r hr
   obtain ⟨i,hi,rfl⟩:=List.mem_iff_getElem.1 hr
   have a:=a i hi
   rw [List.getD_eq_getElem?_getD,List.getElem?_eq_getElem hi] at a
   have hrow:=g.row _ hr
   rw [vJ hrow.1,show zeros D = mkv D fun _ => 0 from tL D]
   exact zY fun j hj => a j (by show j < (L[i]).length;rw [hrow.1];exact hj)
  ·intro a i hi j _
   have:=a (L.getD i []) (by rw [List.getD_eq_getElem?_getD,List.getElem?_eq_getElem hi];exact List.getElem_mem hi)
   rw [this,uD]
end
end Go.Pl

namespace Go.Pl
open Go Go.Ab Go.Wk Go.Pc
theorem zCx {x:SPr} (h:Pres x):∃ s:Nat,f_N x = some (s:Int) ∧ (s = 0 ↔ vC (suf x 0)):=by
 have h6:=h.os.1
 unfold f_N
 obtain ⟨r,r1,r2⟩:=vQ (body:=zKu x) (Q:=fun r => ∃ s:Nat,r = (s:Int) ∧ vC (suf x s) ∧ (s = 0 ∨ ¬ vC (suf x (s - 1)))) (fun i s => i ≤ x.zA.length ∧ s = ((x.zA.length - i:Nat):Int) ∧ vC (suf x (x.zA.length - i))) x.zA.length (fun i s hi ⟨_,hs,hcs⟩ => by
   subst hs
   have hk:x.zA.length - i - 1 < x.zA.length:=by omega
   have e9:x.zA.length - (i + 1) = x.zA.length - i - 1:=by omega
   rw [e9]
   have e8:i + 1 ≤ x.zA.length:=by omega
   rw [show x.zA.length - i = x.zA.length - i - 1 + 1 from by omega] at hcs ⊢
   have hlev:=zGn h hk hcs
   have hiff:=zAE h hk
   generalize x.zA.length - i - 1 = k at *
   unfold zKu
   rw [decide_eq_true (by omega),zJ,zD (by omega) (by omega),bs,show (((k + 1:Nat):Int) - 1) = (k:Int) from by omega]
   rcases hlev with ⟨g1,g2⟩ | ⟨r,g1,g2,g3⟩
   ·left
    rw [g1,bs]
    simp only [beq_self_eq_true,Bool.and_true]
    rw [zJ,bs]
    exact ⟨_,rfl,e8,rfl,hiff.2 ⟨hcs,g2⟩⟩
   ·right
    rw [g1,bs,show (r.Kind == 0) = false from by simpa using g2,Bool.false_and,zF]
    refine ⟨_,rfl,k + 1,rfl,hcs,.inr fun q => g3 (hiff.1 q).2⟩) (fun s ⟨_,hs,hcs⟩ => by
   rw [Nat.sub_self] at hs hcs
   subst hs
   unfold zKu
   rw [show decide (((0:Nat):Int) > 0) = false from rfl,zF]
   exact ⟨_,rfl,0,rfl,hcs,.inl rfl⟩) (s:=(x.zA.length:Int)) ⟨by omega,by rw [Nat.sub_zero],by rw [Nat.sub_zero,vY (by omega)];simp only [vC]⟩
 obtain ⟨s,rfl,hcs,hs⟩:=r2
 rw [r1,bs]
 refine ⟨s,rfl,fun g => by subst g;exact hcs,fun g => ?_⟩
 rcases hs with hs | hs
 ·exact hs
 ·exact absurd (zCj g _) hs
section
variable {x:SPr} {m:zC} {T:Mx} {D:Nat} (hx:zGi x) (hm:MOk x.zA.length m D) (hT:T.length ≤ 1048576)
 include hx hm hT
def jX (x:SPr) (m:zC) (D:Nat) (T:Mx):Prop:=T.length = base x.zA.length x.zA.length ∧ zXb m D T
theorem zAl:IsB (zRL x m T) (jX x m D T):=by
 have h6:=hx.n6
 unfold zRL
 rw [zL4 rfl h6,bs]
 by_cases g:T.length = base x.zA.length x.zA.length
 ·rw [show ((T.length:Int) == ((base x.zA.length x.zA.length:Nat):Int)) = true from by simp [g],zJ]
  exact (IsB.b (zI6 hm (by omega) hT)).iff ⟨fun q => ⟨g,q⟩,fun q => q.2⟩
 ·rw [show ((T.length:Int) == ((base x.zA.length x.zA.length:Nat):Int)) = false from by simp;omega,zF]
  exact .inr ⟨rfl,fun q => g q.1⟩
theorem zKo:IsB (zTs x m T) (jX x m D T):=by
 have h6:=hx.n6
 have h3:=hm.d3
 unfold zTs
 rw [zL5 rfl h6,bs]
 by_cases g:T.length = base x.zA.length x.zA.length
 ·rw [show ((T.length:Int) == ((base x.zA.length x.zA.length:Nat):Int)) = true from by simp [g],zJ]
  exact (IsB.b (zNS hm.p hm.d (by omega) hT)).iff ⟨fun q => ⟨g,q⟩,fun q => q.2⟩
 ·rw [show ((T.length:Int) == ((base x.zA.length x.zA.length:Nat):Int)) = false from by simp;omega,zF]
  exact .inr ⟨rfl,fun q => g q.1⟩
 omit hT in
theorem zVn (ht:jX x m D T):zG0 x.zA.length D x m T:=by
  have h3:=hm.d3
  exact zG0.of hx hm ht.1 (zL3 fun i hi => by have:=(ht.2 i hi).1;omega)
 omit hT in
theorem zSK (ht:jX x m D T):IsB (zTt x m T) (vC (suf (exx D x m T) 0)):=by
  have hE:=zVn hx hm ht
  unfold zTt
  rw [zQh hE,bs]
  obtain ⟨s,s1,s2⟩:=zCx (zDH hx.toPres hE ht.2)
  rw [s1,bs]
  refine (IsB.of_bool ?_).iff s2
  simp
end
end Go.Pl

namespace Go.Pl
open Go Go.Ab Go.Wk Go.Pc
def Coc (x:SPr) (m:zC) (D:Nat) (T:Mx):Prop:=jX x m D T ∧ vC (suf (exx D x m T) 0)
section
variable {x:SPr} {m:zC} {A B:Mx} {L:List Mx}
theorem zOh (hx:zBG x) (hm:zGa m) (hA:A.length ≤ 1048576) (hB:B.length ≤ 1048576) (hl:L.length ≤ 1000) (hL:∀ t,t ∈ L ↔ t = A ∨ t = B):∃ c:Int,zT1 x m A B = some c ∧ f_M x m L = some c ∧ (c = 0 → zAZ x ∧ ∃ D,MOk x.zA.length m D ∧ zGT x m D ∧ Coc x m D A ∧ Coc x m D B):=by
 have hxl:x.zA.length ≤ 1048576:=hx.1
 have hml:=S3.len hm
 unfold zT1 f_M
 rcases (zGU (m:=m) hxl).both (zGV (m:=m) hxl hml) with ⟨s1,i1,hM⟩ | ⟨s1,i1,hM⟩
 ·obtain ⟨hc,D,hD,hr⟩:=hM
  have hmem:∀ i,i < L.length → L.getD i [] = A ∨ L.getD i [] = B:=fun i hi => (hL _).1 (by rw [List.getD_eq_getElem?_getD,List.getElem?_eq_getElem hi];exact List.getElem_mem hi)
  have hlen:∀ i,i < L.length → (L.getD i []).length ≤ 1048576:=fun i hi => by rcases hmem i hi with e | e <;> rw [e] <;> assumption
  have hall:∀ (P:Mx → Prop),(∀ i,0 ≤ i → i < L.length → P (L.getD i [])) ↔ P A ∧ P B:=fun P => by
   constructor
   ·intro g
    have key:∀ t,t ∈ L → P t:=fun t ht => by
     obtain ⟨i,hi,rfl⟩:=List.mem_iff_getElem.1 ht
     have:=g i (Nat.zero_le _) hi
     rwa [List.getD_eq_getElem?_getD,List.getElem?_eq_getElem hi] at this
    exact ⟨key A ((hL A).2 (.inl rfl)),key B ((hL B).2 (.inr rfl))⟩
   ·rintro ⟨g1,g2⟩ i _ hi
    rcases hmem i hi with e | e <;> rw [e] <;> assumption
  have hle:∀ i:Nat,i < L.length → ((i:Nat):Int) < (L.length:Int):=fun i hi => by omega
  simp only [s1,i1,bs,Bool.not_true,zF]
  have c1:=chk (body:=zRU x m L) L.length 0 (Nat.zero_le _) (fun i => jX x m D (L.getD i [])) (fun _ => (1:Int)) (fun i _ hi _ => by
   unfold zRU
   rw [yQ hi,zJ,yD [] hi,bs]
   rcases zKo hc.2.2 hD (hlen i hi) with ⟨z1,z2⟩ | ⟨z1,z2⟩
   ·left
    rw [z1,bs,Bool.not_true,zF,zD (by omega) (by omega),bs,cs]
    exact ⟨rfl,z2⟩
   ·right
    rw [z1,bs,Bool.not_false,zJ]
    exact ⟨rfl,z2⟩) (by
   unfold zRU
   rw [xD,zF])
  rw [show ((0:Nat):Int) = 0 from rfl] at c1
  have hAB:(∀ i,0 ≤ i → i < L.length → jX x m D (L.getD i [])) ↔ _:=hall (jX x m D)
  rcases c1 with ⟨c1,c2⟩ | ⟨i,_,hi,c1,c2⟩
  ·obtain ⟨tA,tB⟩:=hAB.1 c2
   rw [c1,bs]
   simp only
   rcases zAl hc.2.2 hD hA with ⟨z1,_⟩ | ⟨_,z2⟩
   rcases zAl hc.2.2 hD hB with ⟨y1,_⟩ | ⟨_,y2⟩
   ·simp only [z1,y1,bs,Bool.not_true,zF]
    have c3:=chk (body:=zRV x m L) L.length 0 (Nat.zero_le _) (fun i => vC (suf (exx D x m (L.getD i [])) 0)) (fun _ => (5:Int)) (fun i _ hi _ => by
     unfold zRV
     rw [yQ hi,zJ,yD [] hi,bs]
     rcases zSK hc.2.2 hD (c2 i (Nat.zero_le _) hi) with ⟨z1,z2⟩ | ⟨z1,z2⟩
     ·left
      rw [z1,bs,Bool.not_true,zF,zD (by omega) (by omega),bs,cs]
      exact ⟨rfl,z2⟩
     ·right
      rw [z1,bs,Bool.not_false,zJ]
      exact ⟨rfl,z2⟩) (by
     unfold zRV
     rw [xD,zF])
    rw [show ((0:Nat):Int) = 0 from rfl] at c3
    have hCC:(∀ i,0 ≤ i → i < L.length → vC (suf (exx D x m (L.getD i [])) 0)) ↔ _:=hall (fun t => vC (suf (exx D x m t) 0))
    have sA:=zNq hc.1 (zVn hc.2.2 hD tA) tA.2 hc.2.1 hr
    have sB:=zNq hc.1 (zVn hc.2.2 hD tB) tB.2 hc.2.1 hr
    rcases c3 with ⟨c3,c4⟩ | ⟨i,_,hi,c3,c4⟩
    ·obtain ⟨kA,kB⟩:=hCC.1 c4
     rcases sA with ⟨z3,_⟩ | ⟨_,z3⟩
     rcases sB with ⟨y3,_⟩ | ⟨_,y3⟩
     ·rw [z3,bs,Bool.not_true,zF,y3,bs,Bool.not_true,zF,c3,bs]
      exact ⟨0,rfl,rfl,fun _ => ⟨hc,D,hD,hr,⟨tA,kA⟩,tB,kB⟩⟩
     ·exact absurd kB y3
     ·exact absurd kA z3
    ·rw [c3,bs]
     refine ⟨5,?_,rfl,fun e => absurd e (by decide)⟩
     rcases sA with ⟨z3,z4⟩ | ⟨z3,z4⟩
     ·rcases sB with ⟨y3,y4⟩ | ⟨y3,y4⟩
      ·exact absurd (hCC.2 ⟨z4,y4⟩ i (Nat.zero_le _) hi) c4
      ·rw [z3,bs,Bool.not_true,zF,y3,bs,Bool.not_false,zJ]
     ·rw [z3,bs,Bool.not_false,zJ]
   ·exact absurd tB y2
   ·exact absurd tA z2
  ·rw [c1,bs]
   refine ⟨1,?_,rfl,fun e => absurd e (by decide)⟩
   rcases zAl hc.2.2 hD hA with ⟨z1,z2⟩ | ⟨z1,z2⟩
   ·rcases zAl hc.2.2 hD hB with ⟨y1,y2⟩ | ⟨y1,y2⟩
    ·exact absurd (hAB.2 ⟨z2,y2⟩ i (Nat.zero_le _) hi) c2
    ·rw [z1,bs,Bool.not_true,zF,y1,bs,Bool.not_false,zJ]
   ·rw [z1,bs,Bool.not_false,zJ]
 ·simp only [s1,i1,bs,Bool.not_false,zJ]
  exact ⟨1,rfl,rfl,fun e => absurd e (by decide)⟩
end
end Go.Pl

namespace Go.Pl
open Go Go.Ab Go.Wk Go.Pc
theorem zQ5 {x:SPr} (h:Pres x) (h6:x.zA.length ≤ 6):(wE x).length = base x.zA.length x.zA.length:=by
 have h1:=zOa h
 have key:∀ n:Nat,n < 7 → 2 * base n n = n * (n + 1):=by decide
 have h2:=key x.zA.length (by omega)
 omega
abbrev zDK (x:SPr) (m:zC) (D:Nat):Mx:=zKd (x.zA.length * D) (fun k => dfc m D (uv x.zA.length D k)) (wE x)
section
variable {x:SPr} {m:zC} {D:Nat} (hx:zGi x) (hD:MOk x.zA.length m D)
 include hx hD
theorem zGH {T:Mx} (ht:jX x m D T):Row m.Prime (base x.zA.length x.zA.length * D) T.flatten ∧ f_V T = some T.flatten ∧ f_r T = some T.flatten:=by
 have h6:=hx.n6
 have h3:=hD.d3
 have hb:=sV x.zA.length (by omega)
 have hrD:base x.zA.length x.zA.length * D ≤ 21 * 3:=Nat.mul_le_mul hb.2.1 h3
 have h:=zQf (p:=m.Prime) (D:=D) (xs:=T) fun r hr => by
  obtain ⟨i,hi,rfl⟩:=List.mem_iff_getElem.1 hr
  have:=ht.2 i hi
  rwa [List.getD_eq_getElem?_getD,List.getElem?_eq_getElem hi] at this
 rw [ht.1] at h
 have hl:=ht.1
 exact ⟨h,zHH (by omega) (by rw [h.1];omega),zAf (by omega) (by rw [h.1];omega)⟩
end
end Go.Pl

namespace Go.Pl
open Go Go.Ab Go.Wk Go.Pc
section
variable {p:Int} (hp:Prime p) {c N:Nat} (hcN:c + N ≤ 100000) {A:Mx}
 include hp hcN
theorem zQ6 (hr:∀ i,i < N → Row p c (A.getD i [])) (hl:A.length = N) {b:List Int} (hb:Row p c b) {r:List Int} {ok:Bool} (q:f_P p A (c:Int) b = some (r,ok)):ok = true ↔ Sp p c A b:=by
 have h7:=hp.pos
 obtain ⟨W,pv,t,h,h2,h3⟩:=Nul.get hp hcN hr hl
 have hy:=zG6 hp hcN h hb t
 have hlr:=zSC (by omega) h.row h.red h.sp h.le h.lo h.hi
 have hls:=zUZ (by omega) h.row h.red h.sp h.le h.lo h.hi h.len
 have hll:(lft c t W).length = t:=xX
 have e:∀ i,i ≤ t → (sy p c N W pv b i).take c = cl p c (lft c t W) pv b i:=by
  intro i
  induction i with
  | zero =>
   intro _
   show (b ++ List.replicate N 0).take c = b
   exact List.take_left' hb.1
  | succ i ih =>
   intro hi
   have ih:=ih (by omega)
   have hlo:=h.lo i (by omega)
   show (wY p (c + N) (sy p c N W pv b i) (p - at0 (sy p c N W pv b i) (pv i)) (W.getD i [])).take c = wY p c (cl p c (lft c t W) pv b i) (p - at0 (cl p c (lft c t W) pv b i) (pv i)) ((lft c t W).getD i [])
   have h1:∀ j,j < c → at0 (cl p c (lft c t W) pv b i) j = at0 (sy p c N W pv b i) j:=fun j hj => by rw [← ih,jG hj]
   have hlen:((wY p (c + N) (sy p c N W pv b i) (p - at0 (sy p c N W pv b i) (pv i)) (W.getD i [])).take c).length = c:=by rw [List.length_take,zD7];omega
   rw [vJ hlen]
   refine zY fun j hj => ?_
   rw [jG hj,wY,yE (by omega),h1 j hj,h1 _ hlo]
   have h4:at0 ((lft c t W).getD i []) j = at0 (W.getD i []) j:=zDF (by omega) hj
   rw [h4]
 have hz:=zS9 hp (by omega) hlr hb
 rw [hll] at hz
 have e1:(∀ i,i < ((sy p c N W pv b t).take c).length → at0 ((sy p c N W pv b t).take c) i = 0) ↔ Sp p c A b:=by
  rw [← hls.iff,← hz,e t (Nat.le_refl _)]
  have:(cl p c (lft c t W) pv b t).length = c:=(zBR hp (by omega) hlr hb t).1
  rw [this]
 rw [zDc hp hcN h h2 hb] at q
 have htl:((sy p c N W pv b t).take c).length = c:=by rw [List.length_take,hy.1];omega
 rcases zCm (v:=(sy p c N W pv b t).take c) (by omega) with ⟨z1,z2⟩ | ⟨z1,z2⟩
 ·rw [z1,bs,Bool.not_true,zF] at q
  have:=Option.some.inj q
  rw [← (Prod.mk.inj this).2]
  exact ⟨fun _ => e1.1 z2,fun _ => rfl⟩
 ·rw [z1,bs,Bool.not_false,zJ] at q
  have:=Option.some.inj q
  rw [← (Prod.mk.inj this).2]
  exact ⟨fun g => absurd g (by decide),fun g => absurd (e1.2 g) z2⟩
theorem zOi (hr:∀ i,i < N → Row p c (A.getD i [])) (hl:A.length = N) {b:List Int} (hb:Row p c b) {r:List Int} (q:f_P p A (c:Int) b = some (r,true)):r.length = N:=by
 have h7:=hp.pos
 obtain ⟨W,pv,t,h,h2,h3⟩:=Nul.get hp hcN hr hl
 have hy:=zG6 hp hcN h hb t
 have hK:=h.nred hp hcN
 have hx:=zLA hp hcN h (b:=b)
 have htl:((sy p c N W pv b t).take c).length = c:=by rw [List.length_take,hy.1];omega
 rw [zDc hp hcN h h2 hb] at q
 rcases zCm (v:=(sy p c N W pv b t).take c) (by omega) with ⟨z1,z2⟩ | ⟨z1,z2⟩
 ·rw [z1,bs,Bool.not_true,zF] at q
  have:=Option.some.inj q
  rw [← (Prod.mk.inj this).1]
  exact (zBR hp (by omega) hK hx _).1
 ·rw [z1,bs,Bool.not_false,zJ] at q
  have:=Option.some.inj q
  exact absurd (Prod.mk.inj this).2 (by decide)
end
def ngv (p:Int) (c:Nat) (v:List Int):List Int:=wY p c (zeros c) (-1) v
theorem zVo {p:Int} {c:Nat} {A:Mx} {v:List Int}:Sp p c A (ngv p c v) ↔ Sp p c A v:=by
 have hz:Sp p c A (zeros c):=zAg fun j _ => by rw [uD];simp
 constructor
 ·intro g
  refine sU (k:=-1) hz g fun j hj => ?_
  rw [ngv,wY,yE hj,uD,Int.zero_add,Int.zero_add,Int.mul_emod,Int.emod_emod,← Int.mul_emod]
  congr 1;omega
 ·intro g
  refine sU (k:=-1) hz g fun j hj => ?_
  rw [ngv,wY,yE hj,Int.emod_emod]
section
variable {x:SPr} {m:zC} {D:Nat} (hx:zGi x) (hD:MOk x.zA.length m D)
 include hx hD
theorem zCs {i:Nat} (hi:i < x.zA.length * D):Row m.Prime (base x.zA.length x.zA.length * D) ((zDK x m D).getD i []):=by
 have hl:=zQ5 hx.toPres hx.n6
 rw [← hl]
 exact zOb (zVb hx.toPres hD) (wE x) i hi
theorem zUf:base x.zA.length x.zA.length * D ≤ 63 ∧ x.zA.length * D ≤ 18:=by
 have h6:=hx.n6
 have hb:=sV x.zA.length (by omega)
 have hrD:base x.zA.length x.zA.length * D ≤ 21 * 3:=Nat.mul_le_mul hb.2.1 hD.d3
 have hnd:x.zA.length * D ≤ 6 * 3:=Nat.mul_le_mul h6 hD.d3
 omega
theorem zGI {v:List Int} (hv:Row m.Prime (base x.zA.length x.zA.length * D) v):∃ u ok,f_P m.Prime (zDK x m D) ((base x.zA.length x.zA.length * D:Nat):Int) (ngv m.Prime (base x.zA.length x.zA.length * D) v) = some (u,ok) ∧
  (ok = true ↔ Sp m.Prime (base x.zA.length x.zA.length * D) (zDK x m D) v) ∧ zT4 x m v = some (if ok then zEy x.zA.length D u else [],ok) ∧ (ok = true → f_Q u m.Dim = some (zEy x.zA.length D u)):=by
 have h7:=hD.p.pos
 have h1:=hD.d1
 have h3:=hD.d3
 obtain ⟨hc,hn⟩:=zUf hx hD
 have hw:Row m.Prime (base x.zA.length x.zA.length * D) (ngv m.Prime (base x.zA.length x.zA.length * D) v):=jD hD.p
 have hdl:(zDK x m D).length = x.zA.length * D:=xX
 obtain ⟨u,ok,s1,s2,s3⟩:=zLC hD.p (c:=base x.zA.length x.zA.length * D) (N:=x.zA.length * D) (by omega) (A:=zDK x m D) (fun i hi => zCs hx hD hi) hdl hw
 have hok:=zQ6 hD.p (c:=base x.zA.length x.zA.length * D) (N:=x.zA.length * D) (by omega) (A:=zDK x m D) (fun i hi => zCs hx hD hi) hdl hw s1
 rw [zVo] at hok
 have hul:ok = true → u.length = x.zA.length * D:=fun g => by subst g;exact zOi hD.p (by omega) (fun i hi => zCs hx hD hi) hdl hw s1
 refine ⟨u,ok,s1,hok,?_,fun g => by rw [hD.d,zKe h1 (by omega) (hul g) (by omega)]⟩
 unfold zT4 zV5
 by_cases g:x.zA.length = 0
 ·have hdn:zDK x m D = []:=List.eq_nil_of_length_eq_zero (by rw [hdl,g,Nat.zero_mul])
  have hb0:base x.zA.length x.zA.length * D = 0:=by rw [g];show 0 * D = 0;omega
  have hk:ok = true:=hok.2 (zAg fun j hj => by omega)
  have hu:u = []:=List.eq_nil_of_length_eq_zero (by rw [hul hk,g,Nat.zero_mul])
  rw [show ((x.zA.length:Int) == 0) = true from by simp [g],zJ,hk,if_pos rfl,g,hu]
  rfl
 ·have hz:Row m.Prime (base x.zA.length x.zA.length * D) (List.replicate v.length (0:Int)):=by rw [hv.1];exact sC (by omega)
  have hpos:0 < x.zA.length * D:=Nat.mul_pos (by omega) (by omega)
  have h0:ixO (zDK x m D) 0 = some ((zDK x m D).getD 0 []):=yD (i:=0) [] (by omega)
  have hvl:=hv.1
  rw [show ((x.zA.length:Int) == 0) = false from by simp [g],zF,yT (by omega),bs,qI hD.p hz hv (by omega) (by omega),bs,zES hx.toPres hD,bs,h0,bs,bs,(zCs hx hD (i:=0) hpos).1,hvl,show wY m.Prime (base x.zA.length x.zA.length * D) (List.replicate (base x.zA.length x.zA.length * D) 0) (-1) v = ngv m.Prime (base x.zA.length x.zA.length * D) v from rfl,s2,bs]
  cases ok with
  | false => rfl
  | true =>
   rw [Bool.not_true,zF,hD.d,zG4 h1 (hul rfl) (by omega),bs];rfl
end
end Go.Pl

namespace Go.Pl
open Go Go.Ab Go.Wk Go.Pc
theorem zCy {x:SPr} {m:zC} {A B:Mx} (hx:zBG x) (hm:zGa m) (hA:S2 A) (hB:S2 B):∃ g k,zRW x m A B = some (g,k) ∧ zO8 x m A B = some (g,k) ∧ S2 g:=by
 have hAl:A.length ≤ 1048576:=hA.len
 have hBl:B.length ≤ 1048576:=hB.len
 have hnil:S2 ([]:Mx):=by simp [S2,c2,sm]
 obtain ⟨c,e1,e2,e3⟩:=zOh (L:=[A,B]) hx hm hAl hBl (by simp) (fun t => by simp)
 unfold zRW zO8
 rw [e1,e2,bs,bs]
 by_cases g:c = 0
 ·obtain ⟨hc,D,hD,hr,kA,kB⟩:=e3 g
  have h7:=hD.p.pos
  have h6:=hc.1.os.1
  have h3:=hD.d3
  obtain ⟨a1,a2,a3⟩:=zGH hc.2.2 hD kA.1
  obtain ⟨b1,b2,b3⟩:=zGH hc.2.2 hD kB.1
  have hle:=zUf hc.2.2 hD
  have hv:Row m.Prime (base x.zA.length x.zA.length * D) (wY m.Prime (base x.zA.length x.zA.length * D) B.flatten (-1) A.flatten):=jD hD.p
  obtain ⟨u,ok,s1,_,s3,s4⟩:=zGI hc.2.2 hD hv
  have hng:wY m.Prime (base x.zA.length x.zA.length * D) A.flatten (-1) B.flatten = ngv m.Prime (base x.zA.length x.zA.length * D) (wY m.Prime (base x.zA.length x.zA.length * D) B.flatten (-1) A.flatten):=by
   refine zY fun j hj => ?_
   rw [uD,wY,yE hj,Int.zero_add,Int.mul_emod,Int.emod_emod,← Int.mul_emod]
   congr 1;omega
  have hal:(wY m.Prime (base x.zA.length x.zA.length * D) A.flatten (-1) B.flatten).length = base x.zA.length x.zA.length * D:=zD7
  subst g
  unfold zV8 zV7
  rw [show ((0:Int) != 0) = false from rfl,zF,zF,a2,bs,zD (by omega) (by omega),bs,b2,bs,vT hD.p a1 b1 (by omega) (by omega),bs,zBc,zKf hc.1 hD,bs,hal,hng,s1,bs,b3,bs,a3,bs,qI hD.p b1 a1 (by omega) (by omega),bs,bs,s3,bs]
  cases ok with
  | false => exact ⟨_,_,rfl,rfl,hnil⟩
  | true =>
   rw [Bool.not_true,zF,s4 rfl,bs,bs,Bool.not_true,zF,zF]
   exact ⟨_,_,rfl,rfl,zOd h6 h3⟩
 ·rw [show (c != 0) = true from by simpa using g,zJ,zJ]
  exact ⟨_,_,rfl,rfl,hnil⟩
theorem zDL (x0:SPr) (x1:zC) (x2:Mx) (x3:Mx) (v0:zMU x0) (v1:zSz x1) (v2:VL (VL VI) x2) (v3:VL (VL VI) x3)
  (h:zBG x0 → zGa x1 → S2 x2 → S2 x3 → ∃ g k,zRW x0 x1 x2 x3 = some (g,k) ∧ zO8 x0 x1 x2 x3 = some (g,k) ∧ S2 g):zRX x0 x1 x2 x3 = some true:=by
 unfold zRX
 rw [zGb v0 (by decide) (by decide),bs]
 rcases zFb (c:=zJ7 x0) (b:=1048576) (by decide) (by decide) with e | ⟨e,a0,b0,w0⟩ <;> rw [e]
 ·rfl
 rw [zF,zPM v1 a0 b0,bs]
 rcases zFb (c:=zPL x1) a0 b0 with e | ⟨e,a1,b1,w1⟩ <;> rw [e]
 ·rfl
 rw [zF,zCh v2 a1 b1,bs]
 rcases zFb (c:=c2 x2) a1 b1 with e | ⟨e,a2,b2,w2⟩ <;> rw [e]
 ·rfl
 rw [zF,zCh v3 a2 b2,bs]
 rcases zFb (c:=c2 x3) a2 b2 with e | ⟨e,a3,b3,w3⟩ <;> rw [e]
 ·rfl
 have s0:zBG x0:=zBG.of w0
 have s1:zGa x1:=zGa.of w1
 have s2:S2 x2:=w2
 have s3:S2 x3:=w3
 obtain ⟨g,k,hs,hi,sg⟩:=h s0 s1 s2 s3
 have t0:=zNh s0
 have q1:=zLg (x:=x1.zI)
 have w1':=w1
 simp only [zPL] at w1'
 have q2:=zGe (x:=x2)
 have q3:=zGe (x:=x3)
 have qg:=zGe (x:=g)
 have sg':=sg
 simp only [S2] at sg'
 rw [zF,zGc s0,bs,zPN s1,bs,zCi s2,bs,zCi s3,bs]
 simp only [bs]
 rw [hs,bs,hi,bs]
 simp only
 rw [jY sg,bs]
 simp only [beq_self_eq_true,Bool.not_true,zF,bne_self_eq_false]
 rw [zGd s0,bs,Bool.not_true,zF,zPO s1,bs,Bool.not_true,zF,jY s2,bs,beq_self_eq_true,Bool.not_true,zF,jY s3,bs,beq_self_eq_true,Bool.not_true,zF,zCw s0 (by decide) (by decide),bs]
 simp only
 rw [zLh s1 (by omega) (by omega),bs]
 simp only
 rw [jA s2 (by omega) (by omega),bs]
 simp only
 rw [jA s3 (by omega) (by omega),bs]
 simp only
 rw [decide_eq_false (by omega),zF,bs,Bool.not_true,zF]
 rw [jA sg (by decide) (by omega),bs]
 simp only
 rw [zJ6 sg (by decide) (by omega),bs,decide_eq_false (by omega),zF,bne_self_eq_false,zF,bs]
 simp only
 rw [jY sg,bs,beq_self_eq_true,Bool.not_true,zF,bne_self_eq_false,zF,bs,decide_eq_false (by omega),zF,bne_self_eq_false,zF]
theorem zCz (x0:SPr) (x1:zC) (x2:Mx) (x3:Mx) (v0:zMU x0) (v1:zSz x1) (v2:VL (VL VI) x2) (v3:VL (VL VI) x3):zRX x0 x1 x2 x3 = some true :=
 zDL x0 x1 x2 x3 v0 v1 v2 v3 zCy
end Go.Pl
