/- The program and the reference return the same extensions by tails, for all arguments (FnExactExtensionOf). This file is a part of the proof. -/
import Derived.Test.YtdcfglaicpidkaaGreatPlA
namespace Go.Pl
open Go Go.Ab Go.Wk Go.Pc
theorem mkv_drop {N c:Nat} {f:Nat → Int}:(mkv N f).drop c = mkv (N - c) fun i => f (c + i):=by
 have hl:((mkv N f).drop c).length = N - c:=by rw [List.length_drop,mkv_length]
 rw [mkv_eq hl]
 exact mkv_congr fun j hj => by rw [at0_drop,mkv_at (by omega)]
theorem unit_mkv {n j:Nat}:unit n j = mkv n fun i => if i = j then 1 else 0:=by
 rw [unit,show zeros n = List.replicate n (0:Int) from rfl,mkv_zero,mkv_set]
theorem at0_zeros {n i:Nat}:at0 (zeros n) i = 0:=by
 rcases Nat.lt_or_ge i n with g | g
 ·simp [zeros,at0,List.getD_eq_getElem?_getD,g]
 ·simp [zeros,at0,List.getD_eq_getElem?_getD,g]
section
variable {D:Nat} {x:SPr} {m:SModule} {T:Mx} (h:Pres x) (hE:ExOk x.Orders.length D x m T) (hT:∀ i,i < T.length → Row m.Prime D (T.getD i []))
 include h hE hT
abbrev exx (D:Nat) (x:SPr) (m:SModule) (T:Mx):SPr:=ext x.Orders.length D x m T
theorem ex_len:(exx D x m T).Orders.length = x.Orders.length + D:=by
 have _:=h;have _:=hE;have _:=hT
 simp [exx,ext]
theorem ex_ord1 {i:Nat} (hi:i < x.Orders.length):at0 (exx D x m T).Orders i = at0 x.Orders i:=by
 have _:=h;have _:=hE;have _:=hT
 show at0 (x.Orders ++ List.replicate D m.Prime) i = _
 rw [at0_app,if_pos hi]
theorem ex_ord2 {i:Nat} (hi:x.Orders.length ≤ i) (h2:i < x.Orders.length + D):at0 (exx D x m T).Orders i = m.Prime:=by
 have _:=h;have _:=hE;have _:=hT
 show at0 (x.Orders ++ List.replicate D m.Prime) i = _
 rw [at0_app,if_neg (by omega)]
 simp [at0,List.getD_eq_getElem?_getD,show i - x.Orders.length < D by omega]
theorem ex_exp {v t:List Int} {i:Nat} (hv:v.length = x.Orders.length) (hr:∀ j,j < x.Orders.length → 0 ≤ at0 v j ∧ at0 v j ≤ at0 x.Orders j - 1) (hz:∀ j,j ≤ i → j < x.Orders.length → at0 v j = 0) (ht:Row m.Prime D t) (hi:i < x.Orders.length):Exp (exx D x m T).Orders (v ++ t) i:=by
 have hl:=ex_len h hE hT
 refine ⟨⟨by rw [List.length_append,hv,ht.1,hl],fun j hj => ?_⟩,fun j hj => ?_⟩
 ·rw [List.length_append,hv,ht.1] at hj
  rw [at0_app,hv]
  split
  ·next g => rw [ex_ord1 h hE hT g];exact hr j g
  ·next g => rw [ex_ord2 h hE hT (by omega) hj];exact ht.2 _ (by omega)
 ·rw [at0_app,if_pos (by omega)];exact hz j hj (by omega)
theorem tail_row (i:Nat) (hi:i < base x.Orders.length x.Orders.length):Row m.Prime D (T.getD i []):=by
 have _:=h
 exact hT i (by rw [hE.t];exact hi)
theorem ex_pres:Pres (exx D x m T):=by
 have hn:=hE.hn
 have h3:=hE.m.d3
 have h7:=hE.m.p.pos
 have hl:=ex_len h hE hT
 have hb:=base_big x.Orders.length (by omega)
 refine ⟨⟨by rw [hl];omega,fun i hi => ?_⟩,by rw [hl];exact gl_len,by rw [hl];exact gl_len,fun i hi => ?_⟩
 ·rw [hl] at hi
  rcases Nat.lt_or_ge i x.Orders.length with g | g
  ·rw [ex_ord1 h hE hT g];exact h.os.2 i g
  ·rw [ex_ord2 h hE hT g hi];exact hE.m.p
 ·rw [hl] at hi
  have hP:(exx D x m T).Powers.getD i [] = exP x.Orders.length D x T i:=gl_getD hi
  have hC:(exx D x m T).Conjugates.getD i [] = exC x.Orders.length D x m T i:=by
   show (gl (x.Orders.length + D) (exC x.Orders.length D x m T)).getD i [] = _
   simp [gl,List.getD_eq_getElem?_getD,hi]
  refine ⟨?_,?_,?_⟩
  ·rw [hP,exP]
   rcases Nat.lt_or_ge i x.Orders.length with g | g
   ·rw [if_pos g]
    obtain ⟨t1,_,_⟩:=h.tl i g
    exact ex_exp h hE hT t1.1.1 (fun j hj => t1.1.2 j (by rw [t1.1.1];exact hj)) (fun j hj _ => t1.2 j hj) (tail_row h hE hT i (by omega)) g
   ·rw [if_neg (by omega)]
    have hz:∀ j,at0 (List.replicate (x.Orders.length + D) (0:Int)) j = 0:=fun j => at0_zeros
    refine ⟨⟨by rw [hl,List.length_replicate],fun j hj => ?_⟩,fun j _ => hz j⟩
    rw [List.length_replicate] at hj
    rw [hz]
    rcases Nat.lt_or_ge j x.Orders.length with g2 | g2
    ·rw [ex_ord1 h hE hT g2];have:=(h.os.2 j g2).pos;omega
    ·rw [ex_ord2 h hE hT g2 hj];omega
  ·rw [hC,exC,hl]
   split
   ·rw [gl_len];omega
   ·rw [unC,gl_len];omega
  ·rw [hC,exC]
   split
   ·next g =>
    intro j hj
    rw [gl_len] at hj
    rw [gl_getD hj,exF]
    split
    ·next g2 =>
     have hcl:=hE.cl i g
     have hbl:=base_le x.Orders.length (by omega) i g
     obtain ⟨_,_,t3⟩:=h.tl i g
     have t:=t3 j (by omega)
     exact ex_exp h hE hT t.1.1 (fun q hq => t.1.2 q (by rw [t.1.1];exact hq)) (fun q hq _ => t.2 q hq) (tail_row h hE hT _ (by omega)) g
    ·next g2 =>
     have hz:∀ j,at0 (List.replicate x.Orders.length (0:Int)) j = 0:=fun j => at0_zeros
     refine ex_exp h hE hT (by simp) (fun q hq => ?_) (fun q _ _ => hz q) ((hE.m.mat i g).2 _ (by omega)) g
     rw [hz];have:=(h.os.2 q hq).pos;omega
   ·next g =>
    intro j hj
    rw [unC,gl_len] at hj
    rw [unC,gl_getD hj]
    refine ⟨⟨by rw [hl];exact mkv_length _ _,fun q hq => ?_⟩,fun q hq => ?_⟩
    ·rw [unitv,mkv_length] at hq
     rw [unitv,mkv_at hq]
     rcases Nat.lt_or_ge q x.Orders.length with g2 | g2
     ·rw [ex_ord1 h hE hT g2];have:=(h.os.2 q g2).pos;split <;> omega
     ·rw [ex_ord2 h hE hT g2 hq];split <;> omega
    ·rw [unitv,mkv_at (by omega),if_neg (by omega)]
theorem exl_o {k:Nat} (hk:k < x.Orders.length):(lvl (exx D x m T) k).o = at0 x.Orders k:=ex_ord1 h hE hT hk
theorem exl_w {k:Nat} (hk:k < x.Orders.length):(lvl (exx D x m T) k).w = (lvl x k).w ++ T.getD k []:=by
 have t1:=(h.tl k hk).1.1.1
 have _:=hE;have _:=hT
 show ((exx D x m T).Powers.getD k []).drop (k + 1) = _
 have hP:(exx D x m T).Powers.getD k [] = exP x.Orders.length D x T k:=gl_getD (by omega)
 rw [hP,exP,if_pos hk,List.drop_append_of_le_length (by omega)]
 rfl
def eC1 (x:SPr) (T:Mx) (k:Nat):List Vec:=gl (x.Orders.length - 1 - k) fun j => (lvl x k).cs.getD j [] ++ T.getD (base x.Orders.length k + j) []
def eC2 (x:SPr) (m:SModule) (D k:Nat):List Vec:=((gl D fun j => (m.Actions.getD k []).getD j []).map fun r => zeros (x.Orders.length - 1 - k) ++ r)
theorem exl_cs {k:Nat} (hk:k < x.Orders.length):(lvl (exx D x m T) k).cs = eC1 x T k ++ eC2 x m D k:=by
 have hcl:=hE.cl k hk
 have _:=hT
 show ((exx D x m T).Conjugates.getD k []).map (·.drop (k + 1)) = _
 have hC:(exx D x m T).Conjugates.getD k [] = exC x.Orders.length D x m T k:=by
  show (gl (x.Orders.length + D) (exC x.Orders.length D x m T)).getD k [] = _
  simp [gl,List.getD_eq_getElem?_getD,show k < x.Orders.length + D by omega]
 rw [hC,exC,if_pos hk]
 apply List.ext_getElem?
 intro j
 by_cases hj:j < x.Orders.length + D - 1 - k
 ·have e1:((gl (x.Orders.length + D - 1 - k) (exF x.Orders.length x m T k)).map (·.drop (k + 1)))[j]? = some ((exF x.Orders.length x m T k j).drop (k + 1)):=by simp [gl,hj]
  rw [e1,exF]
  by_cases g:j < x.Orders.length - 1 - k
  ·rw [if_pos g,List.getElem?_append_left (by rw [eC1,gl_len];exact g)]
   have t:=(h.tl k hk).2.2 j (by omega)
   rw [List.drop_append_of_le_length (by have:=t.1.1;omega)]
   have e2:(eC1 x T k)[j]? = some ((lvl x k).cs.getD j [] ++ T.getD (base x.Orders.length k + j) []):=by simp [eC1,gl,g]
   rw [e2]
   congr 2
   simp only [lvl,List.getD_eq_getElem?_getD,List.getElem?_map]
   rw [List.getElem?_eq_getElem (l:=x.Conjugates[k]?.getD []) (by rw [List.getD_eq_getElem?_getD] at hcl;omega)]
   rfl
  ·rw [if_neg g,List.getElem?_append_right (by rw [eC1,gl_len];omega),eC1,gl_len]
   have e2:(eC2 x m D k)[j - (x.Orders.length - 1 - k)]? = some (zeros (x.Orders.length - 1 - k) ++ (m.Actions.getD k []).getD (j - (x.Orders.length - 1 - k)) []):=by
    simp [eC2,gl,show j - (x.Orders.length - 1 - k) < D by omega]
   rw [e2,List.drop_append_of_le_length (by simp;omega),List.drop_replicate,show x.Orders.length - (k + 1) = x.Orders.length - 1 - k from by omega]
   rfl
 ·rw [List.getElem?_eq_none (by simp [gl];omega),List.getElem?_eq_none (by simp [eC1,eC2,gl];omega)]
end
def tlv (p:Int):Nat → Pcp
 | 0 => []
 | d + 1 => ⟨p,zeros d,units d⟩ :: tlv p d
theorem tlv_len {p:Int}:∀ d,(tlv p d).length = d
 | 0 => rfl
 | d + 1 => by simp [tlv,tlv_len d]
theorem V_tlv {p:Int}:∀ (d:Nat) (v:Vec),V (tlv p d) v ↔ Row p d v
 | 0,v => by
  constructor
  ·intro h
   obtain rfl:v = []:=h
   exact ⟨rfl,fun i hi => by omega⟩
  ·intro h
   have:=List.eq_nil_of_length_eq_zero h.1
   subst this;exact rfl
 | d + 1,v => by
  cases v with
  | nil => exact ⟨fun h => h.elim,fun h => by have:=h.1;simp at this⟩
  | cons a v =>
   show ((0 ≤ a ∧ a < p) ∧ V (tlv p d) v) ↔ _
   rw [V_tlv d v]
   constructor
   ·rintro ⟨⟨h0,h1⟩,h2⟩
    refine ⟨by simp [h2.1],fun i hi => ?_⟩
    cases i with
    | zero => simp only [at0,List.getD_cons_zero];omega
    | succ i => have:=h2.2 i (by omega);simpa [at0] using this
   ·intro h
    have h0:=h.2 0 (by omega)
    simp only [at0,List.getD_cons_zero] at h0
    refine ⟨⟨h0.1,by omega⟩,by have:=h.1;simpa using this,fun i hi => ?_⟩
    have:=h.2 (i + 1) (by omega)
    simpa [at0] using this
abbrev adv (p:Int) (D:Nat) (u v:List Int):List Int:=mkv D fun j => (at0 u j + at0 v j) % p
theorem adv_row {p:Int} {D:Nat} {u v:List Int} (hp:0 < p):Row p D (adv p D u v):=by
 refine ⟨mkv_length _ _,fun j hj => ?_⟩
 rw [mkv_at hj]
 have e1:=Int.emod_nonneg (at0 u j + at0 v j) (show p ≠ 0 by omega)
 have e2:=Int.emod_lt_of_pos (at0 u j + at0 v j) hp
 omega
theorem iter_adv {p:Int} {D:Nat} {c:List Int} (hp:0 < p):∀ (k:Nat) (acc:List Int),Row p D acc → iter k (fun w => adv p D w c) acc = mkv D fun j => (at0 acc j + (k:Int) * at0 c j) % p
 | 0,acc,ha => by
  show acc = _
  conv => lhs;rw [mkv_eq ha.1]
  refine mkv_congr fun j hj => ?_
  have:=ha.2 j hj
  rw [Int.natCast_zero,Int.zero_mul,Int.add_zero,Int.emod_eq_of_lt this.1 (by omega)]
 | k + 1,acc,ha => by
  show iter k (fun w => adv p D w c) (adv p D acc c) = _
  rw [iter_adv hp k _ (adv_row hp)]
  refine mkv_congr fun j hj => ?_
  rw [mkv_at hj,Int.add_emod,Int.emod_emod,← Int.add_emod,← cs,Int.add_mul]
  congr 1;omega
theorem S_cons {f:Nat → Int} {n:Nat}:S (n + 1) f = f 0 + S n fun i => f (i + 1):=by
 rw [Nat.add_comm,S_shift 1 n]
 simp only [S]
 rw [Int.zero_add]
 congr 1
 exact S_congr fun i _ => by rw [Nat.add_comm]
theorem img_adv {p:Int} {D:Nat} (hp:0 < p):∀ (cs:List Vec) (v acc:Vec),v.length = cs.length → (∀ i,i < v.length → 0 ≤ at0 v i) → Row p D acc → img (adv p D) cs v acc = mkv D fun j => (at0 acc j + S cs.length fun k => at0 v k * ent cs k j) % p
 | [],v,acc,hl,_,ha => by
  show acc = _
  conv => lhs;rw [mkv_eq ha.1]
  refine mkv_congr fun j hj => ?_
  have:=ha.2 j hj
  simp only [List.length_nil,S]
  rw [Int.add_zero,Int.emod_eq_of_lt this.1 (by omega)]
 | c :: cs,[],acc,hl,_,_ => by simp at hl
 | c :: cs,a :: v,acc,hl,hv,ha => by
  have h0:=hv 0 (by simp)
  simp only [at0,List.getD_cons_zero] at h0
  have hrow:Row p D (iter a.toNat (fun w => adv p D w c) acc):=iter_in (S:=Row p D) (fun _ _ => adv_row hp) _ ha
  show img (adv p D) cs v (iter a.toNat (fun w => adv p D w c) acc) = _
  rw [img_adv hp cs v _ (by simpa using hl) (fun i hi => by have:=hv (i + 1) (by simpa using hi);simpa [at0] using this) hrow,iter_adv hp _ _ ha]
  refine mkv_congr fun j hj => ?_
  rw [mkv_at hj,List.length_cons,S_cons,Int.add_emod,Int.emod_emod,← Int.add_emod,Int.toNat_of_nonneg h0,Int.add_assoc]
  rfl
theorem img_congr {α:Type} {S:α → Prop} {m m':α → α → α} (hm:∀ a b,S a → S b → m a b = m' a b) (hc:∀ a b,S a → S b → S (m' a b)):∀ (cs:List α) (v:Vec) (acc:α),(∀ c ∈ cs,S c) → S acc → img m cs v acc = img m' cs v acc
 | [],_,_,_,_ => by simp [img]
 | c :: cs,[],_,_,_ => by simp [img]
 | c :: cs,a :: v,acc,h1,h2 => by
  have hcS:=h1 c (by simp)
  have e:∀ k acc,S acc → iter k (fun w => m w c) acc = iter k (fun w => m' w c) acc ∧ S (iter k (fun w => m' w c) acc):=by
   intro k
   induction k with
   | zero => intro acc ha;exact ⟨rfl,ha⟩
   | succ k ih =>
    intro acc ha
    show iter k (fun w => m w c) (m acc c) = iter k (fun w => m' w c) (m' acc c) ∧ _
    rw [hm acc c ha hcS]
    exact ih _ (hc _ _ ha hcS)
  show img m cs v (iter a.toNat (fun w => m w c) acc) = img m' cs v (iter a.toNat (fun w => m' w c) acc)
  rw [(e _ _ h2).1]
  exact img_congr hm hc cs v _ (fun c hc => h1 c (by simp [hc])) (e _ _ h2).2
theorem units_ent {d k j:Nat} (hk:k < d) (hj:j < d):ent (units d) k j = if j = k then 1 else 0:=by
 have e:(units d).getD k [] = unit d k:=by simp [units,List.getD_eq_getElem?_getD,hk]
 rw [ent,e,unit_mkv,mkv_at hj]
theorem zero_row {p:Int} {D:Nat} (hp:0 < p):Row p D (zeros D):=z0_row hp
theorem tlv_mul {p:Int} (hp:2 ≤ p):∀ (d:Nat) (u v:Vec),Row p d u → Row p d v → mul (tlv p d) u v = adv p d u v
 | 0,u,v,hu,_ => by
  have:=List.eq_nil_of_length_eq_zero hu.1
  subst this
  rfl
 | d + 1,u,v,hu,hv => by
  have ih:=tlv_mul hp d
  have hu':=(V_tlv (d + 1) u).2 hu
  have hv':=(V_tlv (d + 1) v).2 hv
  cases u with
  | nil => exact hu'.elim
  | cons a u =>
   cases v with
   | nil => exact hv'.elim
   | cons b v =>
    obtain ⟨⟨a0,a1⟩,hu2⟩:=hu'
    obtain ⟨⟨b0,b1⟩,hv2⟩:=hv'
    have hu3:=(V_tlv d u).1 hu2
    have hv3:=(V_tlv d v).1 hv2
    change a < p at a1
    change b < p at b1
    have hsig:∀ w,Row p d w → sig (tlv p d) ⟨p,zeros d,units d⟩ w = w:=fun w hw => by
     have hur:∀ c ∈ units d,Row p d c:=fun c hc => by
      obtain ⟨k,hk,rfl⟩:=List.mem_map.1 hc
      rw [unit_mkv]
      exact ⟨mkv_length _ _,fun j hj => by rw [mkv_at hj];split <;> omega⟩
     unfold sig
     rw [tlv_len,img_congr (S:=Row p d) (m':=adv p d) (fun a b ha hb => ih a b ha hb) (fun _ _ _ _ => adv_row (by omega)) (units d) w _ hur (zero_row (by omega)),img_adv (by omega) (units d) w _ (by rw [hw.1];simp [units]) (fun i hi => (hw.2 i (by rw [← hw.1];exact hi)).1) (zero_row (by omega))]
     conv => rhs;rw [mkv_eq hw.1]
     refine mkv_congr fun j hj => ?_
     have hul:(units d).length = d:=by simp [units]
     have:=hw.2 j hj
     rw [hul,at0_zeros,Int.zero_add,S_one (k:=j) hj (fun k hk hne => by rw [units_ent hk hj,if_neg (Ne.symm hne),Int.mul_zero]),units_ent hj hj,if_pos rfl,Int.mul_one,Int.emod_eq_of_lt this.1 (by omega)]
    have hit:∀ k,iter k (sig (tlv p d) ⟨p,zeros d,units d⟩) u = u:=fun k => iter_fix (hsig u hu3) k
    show mul (⟨p,zeros d,units d⟩ :: tlv p d) (a :: u) (b :: v) = _
    rw [mul_cons,hit,ih u v hu3 hv3]
    have hz:adv p d (zeros d) (adv p d u v) = adv p d u v:=by
     refine mkv_congr fun j hj => ?_
     rw [mkv_at hj,at0_zeros,Int.zero_add,Int.emod_emod]
    rw [ih _ _ (zero_row (by omega)) (adv_row (by omega)),hz]
    have hcons:adv p (d + 1) (a :: u) (b :: v) = (a + b) % p :: adv p d u v:=by
     simp only [adv,mkv,List.range_succ_eq_map,List.map_cons,List.map_map]
     congr 1
    rw [hcons]
    split
    ·next g =>
     have g:a + b ≥ p:=g
     have e:(a + b) % p = a + b - p:=by
      rw [show a + b = (a + b - p) + p from by omega,Int.add_emod_right,Int.emod_eq_of_lt (by omega) (by omega)]
      omega
     exact congrArg (· :: _) e.symm
    ·next g =>
     have g:¬ a + b ≥ p:=g
     congr 1
     exact (Int.emod_eq_of_lt (by omega) (by omega)).symm
end Go.Pl

namespace Go.Pl
open Go Go.Ab Go.Wk Go.Pc
theorem img_app {α:Type} {m:α → α → α}:∀ (c1:List α) (y:Vec) (c2:List α) (u:Vec) (acc:α),c1.length = y.length → img m (c1 ++ c2) (y ++ u) acc = img m c2 u (img m c1 y acc)
 | [],[],_,_,_,_ => by cases ‹List α› <;> rfl
 | [],_ :: _,_,_,_,h => by simp at h
 | _ :: _,[],_,_,_,h => by simp at h
 | c :: c1,a :: y,c2,u,acc,h => img_app c1 y c2 u _ (by simpa using h)
theorem img_proj {α β:Type} {S:α → Prop} {m:α → α → α} {n:β → β → β} (φ:α → β) (hS:∀ a b,S a → S b → S (m a b)) (hm:∀ a b,S a → S b → φ (m a b) = n (φ a) (φ b)):∀ (cs:List α) (v:Vec) (a:α),(∀ c ∈ cs,S c) → S a → φ (img m cs v a) = img n (cs.map φ) v (φ a)
 | [],v,a,_,_ => by cases v <;> rfl
 | _ :: _,[],_,_,_ => rfl
 | c :: cs,t :: v,a,hc,ha => by
  have hcS:=hc c (by simp)
  have e:∀ k a,S a → φ (iter k (fun w => m w c) a) = iter k (fun w => n w (φ c)) (φ a) ∧ S (iter k (fun w => m w c) a):=by
   intro k
   induction k with
   | zero => intro a ha;exact ⟨rfl,ha⟩
   | succ k ih =>
    intro a ha
    have:=ih (m a c) (hS _ _ ha hcS)
    rw [hm a c ha hcS] at this
    exact this
  show φ (img m cs v (iter t.toNat (fun w => m w c) a)) = img n (cs.map φ) v (iter t.toNat (fun w => n w (φ c)) (φ a))
  rw [← (e _ a ha).1]
  exact img_proj φ hS hm cs v _ (fun c h => hc c (by simp [h])) (e _ a ha).2
theorem rowM_idM {p:Int} {D:Nat} {r:List Int} (hr:Row p D r):rowM p D r (idM D) = r:=by
 conv => rhs;rw [mkv_eq hr.1]
 refine mkv_congr fun j hj => ?_
 have:=hr.2 j hj
 have e:∀ l,l < D → ent (idM D) l j = if j = l then 1 else 0:=fun l hl => by rw [ent,idM_get hl,mkv_at hj]
 rw [S_one (k:=j) hj (fun k hk hne => by rw [e k hk,if_neg (Ne.symm hne),Int.mul_zero]),e j hj,if_pos rfl,Int.mul_one,mod_small this]
theorem rowM_PM {p:Int} {D:Nat} {r:List Int} {A B:Mx} (hA:A.length = D):rowM p D (rowM p D r A) B = rowM p D r (PM p D A B):=by
 refine mkv_congr fun j hj => ?_
 have e1:S D (fun l => at0 (rowM p D r A) l * ent B l j) % p = S D (fun l => S D (fun i => at0 r i * ent A i l) * ent B l j) % p:=S_mod fun l hl => by
  rw [rowM,mkv_at hl,Int.mul_emod,Int.emod_emod,← Int.mul_emod]
 have e2:S D (fun l => at0 r l * ent (PM p D A B) l j) % p = S D (fun i => at0 r i * S D (fun l => ent A i l * ent B l j)) % p:=S_mod fun l hl => by
  rw [PM_ent hA hl hj,Int.mul_emod,Int.emod_emod,← Int.mul_emod]
 rw [e1,e2]
 congr 1
 have e3:S D (fun l => S D (fun i => at0 r i * ent A i l) * ent B l j) = S D (fun l => S D (fun i => at0 r i * ent A i l * ent B l j)):=S_congr fun l _ => (S_mul _ _).symm
 rw [e3,S_swap]
 refine S_congr fun i _ => ?_
 rw [← S_mul']
 exact S_congr fun l _ => by rw [Int.mul_assoc]
theorem adv_zero_l {p:Int} {D:Nat} {v:List Int} (hv:Row p D v):adv p D (zeros D) v = v:=by
 conv => rhs;rw [mkv_eq hv.1]
 refine mkv_congr fun j hj => ?_
 rw [at0_zeros,Int.zero_add,mod_small (hv.2 j hj)]
theorem adv_rowM {p:Int} {D:Nat} {acc v:List Int} {A:Mx} (hl:A.length = D):(mkv D fun j => (at0 acc j + S A.length fun k => at0 v k * ent A k j) % p) = adv p D acc (rowM p D v A):=by
 refine mkv_congr fun j hj => ?_
 rw [rowM,mkv_at hj,hl,Int.add_emod_emod]
theorem adv_comm {p:Int} {D:Nat} {u v:List Int}:adv p D u v = adv p D v u:=mkv_congr fun j _ => by rw [Int.add_comm]
section
variable {D:Nat} {x:SPr} {m:SModule} {T:Mx} (h:Pres x) (hE:ExOk x.Orders.length D x m T) (hT:∀ i,i < T.length → Row m.Prime D (T.getD i []))
 include h hE hT
theorem suf_tlv:∀ (d k:Nat),x.Orders.length ≤ k → k + d = x.Orders.length + D → suf (exx D x m T) k = tlv m.Prime d
 | 0,k,hk,hd => by rw [suf_nil (by rw [ex_len h hE hT];omega)];rfl
 | d + 1,k,hk,hd => by
  have hl:=ex_len h hE hT
  rw [suf_cons (by omega),suf_tlv d (k + 1) (by omega) (by omega),tlv]
  congr 1
  have hP:(exx D x m T).Powers.getD k [] = exP x.Orders.length D x T k:=gl_getD (by omega)
  have hC:(exx D x m T).Conjugates.getD k [] = exC x.Orders.length D x m T k:=by
   show (gl (x.Orders.length + D) (exC x.Orders.length D x m T)).getD k [] = _
   simp [gl,List.getD_eq_getElem?_getD,show k < x.Orders.length + D by omega]
  unfold lvl
  rw [hP,hC,exP,exC,if_neg (by omega),if_neg (by omega),ex_ord2 h hE hT hk (by omega),List.drop_replicate,show x.Orders.length + D - (k + 1) = d from by omega]
  congr 1
  rw [unC,units,gl,List.map_map,show x.Orders.length + D - 1 - k = d from by omega]
  refine List.map_congr_left fun j hj => ?_
  have hj:=List.mem_range.1 hj
  show (unitv (x.Orders.length + D) (k + 1 + j)).drop (k + 1) = unit d j
  rw [unitv,mkv_drop,unit_mkv,show x.Orders.length + D - (k + 1) = d from by omega]
  refine mkv_congr fun i _ => ?_
  by_cases g:i = j
  ·rw [if_pos g,if_pos (by omega)]
  ·rw [if_neg g,if_neg (by omega)]
theorem V_ext:∀ (d k:Nat),k + d = x.Orders.length → ∀ v,V (suf (exx D x m T) k) v ↔ ∃ y u,v = y ++ u ∧ V (suf x k) y ∧ Row m.Prime D u
 | 0,k,hk,v => by
  rw [suf_tlv h hE hT D k (by omega) (by omega),V_tlv,suf_nil (x:=x) (k:=k) (by omega)]
  constructor
  ·intro g;exact ⟨[],v,rfl,rfl,g⟩
  ·rintro ⟨y,u,rfl,hy,hu⟩
   obtain rfl:y = []:=hy
   exact hu
 | d + 1,k,hk,v => by
  have hl:=ex_len h hE hT
  have ih:=V_ext d (k + 1) (by omega)
  rw [suf_cons (x:=exx D x m T) (by omega),suf_cons (x:=x) (by omega)]
  cases v with
  | nil =>
   refine ⟨fun g => g.elim,?_⟩
   rintro ⟨y,u,e,hy,hu⟩
   cases y with
   | nil => exact hy.elim
   | cons a y => simp at e
  | cons a v =>
   show ((0 ≤ a ∧ a < (lvl (exx D x m T) k).o) ∧ V (suf (exx D x m T) (k + 1)) v) ↔ _
   rw [exl_o h hE hT (by omega),ih v]
   constructor
   ·rintro ⟨g,y,u,rfl,hy,hu⟩
    exact ⟨a :: y,u,rfl,⟨g,hy⟩,hu⟩
   ·rintro ⟨y,u,e,hy,hu⟩
    cases y with
    | nil => exact hy.elim
    | cons b y =>
     simp only [List.cons_append,List.cons.injEq] at e
     obtain ⟨rfl,rfl⟩:=e
     exact ⟨hy.1,y,u,rfl,hy.2,hu⟩
theorem ex_R1:∀ (d k:Nat),k + d = x.Orders.length → ∀ y u r,V (suf x k) y → Row m.Prime D u → Row m.Prime D r → mul (suf (exx D x m T) k) (y ++ u) (zeros d ++ r) = y ++ adv m.Prime D u r
 | 0,k,hk,y,u,r,hy,hu,hr => by
  have hp:=hE.m.p.pos
  rw [suf_nil (x:=x) (k:=k) (by omega)] at hy
  obtain rfl:y = []:=hy
  rw [suf_tlv h hE hT D k (by omega) (by omega)]
  exact tlv_mul (by omega) D u r hu hr
 | d + 1,k,hk,y,u,r,hy,hu,hr => by
  have hl:=ex_len h hE hT
  rw [suf_cons (x:=x) (by omega)] at hy
  cases y with
  | nil => exact hy.elim
  | cons a y =>
   obtain ⟨⟨a0,a1⟩,hy⟩:=hy
   change a < at0 x.Orders k at a1
   rw [suf_cons (x:=exx D x m T) (by omega)]
   show mul _ (a :: (y ++ u)) (0 :: (zeros d ++ r)) = _
   rw [mul_cons,exl_o h hE hT (by omega),if_neg (by omega)]
   show (a + 0) :: mul _ (y ++ u) (zeros d ++ r) = _
   rw [ex_R1 d (k + 1) (by omega) y u r hy hu hr,Int.add_zero];rfl
theorem ex_ok {k:Nat} (hk:k ≤ x.Orders.length + D):Pc.Ok (suf (exx D x m T) k):=(ex_pres h hE hT).okAt (by rw [ex_len h hE hT];exact hk)
theorem img_R1 {d k:Nat} (hk:k + d = x.Orders.length):∀ (rs:List Vec) (v:Vec) (y u:Vec),(∀ r ∈ rs,Row m.Prime D r) → V (suf x k) y → Row m.Prime D u → img (mul (suf (exx D x m T) k)) (rs.map fun r => zeros d ++ r) v (y ++ u) = y ++ img (adv m.Prime D) rs v u
 | [],v,y,u,_,_,_ => by cases v <;> rfl
 | _ :: _,[],_,_,_,_,_ => rfl
 | c :: rs,t :: v,y,u,hr,hy,hu => by
  have hp:=hE.m.p.pos
  have hc:=hr c (by simp)
  have e:∀ q u,Row m.Prime D u → iter q (fun w => mul (suf (exx D x m T) k) w (zeros d ++ c)) (y ++ u) = y ++ iter q (fun w => adv m.Prime D w c) u:=by
   intro q
   induction q with
   | zero => intro u _;rfl
   | succ q ih =>
    intro u hu
    show iter q _ (mul _ (y ++ u) (zeros d ++ c)) = _
    rw [ex_R1 h hE hT d k hk y u c hy hu hc,ih _ (adv_row (by omega))]
    rfl
  show img _ (rs.map fun r => zeros d ++ r) v (iter t.toNat (fun w => mul (suf (exx D x m T) k) w (zeros d ++ c)) (y ++ u)) = _
  rw [e _ _ hu,img_R1 hk rs v y _ (fun r h => hr r (by simp [h])) hy (iter_in (S:=Row m.Prime D) (fun _ _ => adv_row (by omega)) _ hu)]
  rfl
theorem gl_act {k:Nat} (hk:k < x.Orders.length):(gl D fun j => (m.Actions.getD k []).getD j []) = m.Actions.getD k []:=by
 have _:=h;have _:=hT
 have hl:=(hE.m.mat k hk).1
 apply List.ext_getElem?
 intro j
 simp only [gl,List.getElem?_map]
 by_cases g:j < D
 ·rw [List.getElem?_range g,Option.map_some,List.getD_eq_getElem?_getD (i:=j),List.getElem?_eq_getElem (by omega)];rfl
 ·rw [List.getElem?_eq_none (by simp;omega),List.getElem?_eq_none (by omega)];rfl
def sgG (D:Nat) (x:SPr) (m:SModule) (T:Mx) (k:Nat) (y:Vec):Vec:=img (mul (suf (exx D x m T) (k + 1))) (eC1 x T k) y (zeros (suf (exx D x m T) (k + 1)).length)
theorem eC1_len {k:Nat}:(eC1 x T k).length = x.Orders.length - 1 - k:=by have _:=h;have _:=hE;have _:=hT;rw [eC1,gl_len]
theorem eC1_V {k:Nat} (hk:k < x.Orders.length):∀ c ∈ eC1 x T k,V (suf (exx D x m T) (k + 1)) c:=by
 intro c hc
 have ok:=ex_ok h hE hT (k:=k) (by omega)
 rw [suf_cons (by rw [ex_len h hE hT];omega)] at ok
 exact ok.2.2.2.1 c (by rw [exl_cs h hE hT hk];exact List.mem_append_left _ hc)
theorem zs_len {k:Nat} (hk:k ≤ x.Orders.length):zeros (suf (exx D x m T) k).length = zeros (x.Orders.length - k) ++ zeros D:=by
 rw [suf_length,ex_len h hE hT]
 simp only [zeros,List.replicate_append_replicate];congr 1;omega
theorem sgG_V {k:Nat} (hk:k < x.Orders.length) {y:Vec}:V (suf (exx D x m T) (k + 1)) (sgG D x m T k y):=by
 have ok:=ex_ok h hE hT (k:=k + 1) (by omega)
 exact img_in' (mul_in ok) _ _ (eC1_V h hE hT hk) (V_zeros ok)
theorem ex_sig {k:Nat} (hk:k < x.Orders.length) {y u:Vec} (hy:V (suf x (k + 1)) y) (hu:Row m.Prime D u) :
  sig (suf (exx D x m T) (k + 1)) (lvl (exx D x m T) k) (y ++ u) = (sgG D x m T k y).take (x.Orders.length - (k + 1)) ++ adv m.Prime D ((sgG D x m T k y).drop (x.Orders.length - (k + 1))) (rowM m.Prime D u (m.Actions.getD k [])):=by
 have hp:=hE.m.p.pos
 have hA:=hE.m.mat k hk
 have hyl:=V_len h (by omega) hy
 unfold sig
 rw [exl_cs h hE hT hk,img_app _ _ _ _ _ (by rw [eC1_len h hE hT];omega)]
 show img _ (eC2 x m D k) u (sgG D x m T k y) = _
 obtain ⟨y1,u1,e,hy1,hu1⟩:=(V_ext h hE hT (x.Orders.length - (k + 1)) (k + 1) (by omega) _).1 (sgG_V h hE hT hk (y:=y))
 have hy1l:=V_len h (by omega) hy1
 rw [e,eC2,gl_act h hE hT hk,show x.Orders.length - 1 - k = x.Orders.length - (k + 1) from by omega,img_R1 h hE hT (by omega) _ _ _ _ (fun r hr => ?_) hy1 hu1,img_adv (by omega) _ _ _ (by rw [hA.1,hu.1]) (fun i hi => (hu.2 i (by rw [← hu.1];exact hi)).1) hu1,adv_rowM hA.1,List.take_left' hy1l,List.drop_left' hy1l]
 obtain ⟨j,hj,rfl⟩:=List.mem_iff_getElem.1 hr
 have hAl:=hA.1
 have:=hA.2 j (by omega)
 rwa [List.getD_eq_getElem?_getD,List.getElem?_eq_getElem hj] at this
theorem ex_sig0 {k:Nat} (hk:k < x.Orders.length) {u:Vec} (hu:Row m.Prime D u) :
  sig (suf (exx D x m T) (k + 1)) (lvl (exx D x m T) k) (zeros (x.Orders.length - (k + 1)) ++ u) = zeros (x.Orders.length - (k + 1)) ++ rowM m.Prime D u (m.Actions.getD k []):=by
 have hp:=hE.m.p.pos
 have ok:=h.okAt (k:=k + 1) (by omega)
 have hz:=V_zeros ok
 rw [suf_length] at hz
 have e:sgG D x m T k (zeros (x.Orders.length - (k + 1))) = zeros (x.Orders.length - (k + 1)) ++ zeros D:=by
  unfold sgG
  rw [img_zeros,zs_len h hE hT (by omega)]
 rw [ex_sig h hE hT hk hz hu,e,List.take_left' (zeros_length _),List.drop_left' (zeros_length _),adv_zero_l (rowM_row (by omega))]
theorem ex_iter0 {k:Nat} (hk:k < x.Orders.length):∀ (q:Nat) {u:Vec},Row m.Prime D u →
  iter q (sig (suf (exx D x m T) (k + 1)) (lvl (exx D x m T) k)) (zeros (x.Orders.length - (k + 1)) ++ u) = zeros (x.Orders.length - (k + 1)) ++ iter q (fun u => rowM m.Prime D u (m.Actions.getD k [])) u
 | 0,u,_ => rfl
 | q + 1,u,hu => by
  have hp:=hE.m.p.pos
  show iter q _ (sig _ _ _) = _
  rw [ex_sig0 h hE hT hk hu,ex_iter0 hk q (rowM_row (by omega))]
  rfl
end
end Go.Pl

namespace Go.Pl
open Go Go.Ab Go.Wk Go.Pc
theorem iter_rowM {p:Int} {D:Nat} {A:Mx} (hA:Mat p D A) (hp:2 ≤ p) {r:List Int} (hr:Row p D r):∀ q,iter q (fun u => rowM p D u A) r = rowM p D r (pw (PM p D) (idM D) A q)
 | 0 => (rowM_idM hr).symm
 | q + 1 => by
  have hm:Mat p D (pw (PM p D) (idM D) A q):=iter_in (S:=Mat p D) (fun _ hB => PM_mat (by omega) hB.1) q (idM_mat hp)
  unfold pw at *
  rw [iter_succ,iter_succ,iter_rowM hA hp hr q]
  exact rowM_PM hm.1
theorem pw_adv {p:Int} {D:Nat} (hp:0 < p) {r:List Int}:iter p.toNat (fun w => adv p D w r) (zeros D) = zeros D:=by
 rw [iter_adv hp _ _ (zero_row hp)]
 rw [show zeros D = mkv D fun _ => 0 from mkv_zero D]
 refine mkv_congr fun j hj => ?_
 rw [mkv_at hj,Int.toNat_of_nonneg (by omega),Int.zero_add,Int.mul_emod_right]
theorem rowM_zeros {p:Int} {D:Nat} {A:Mx}:rowM p D (zeros D) A = zeros D:=by
 rw [show zeros D = mkv D fun _ => 0 from mkv_zero D]
 refine mkv_congr fun j hj => ?_
 rw [S_congr (g:=fun _ => 0) fun l hl => by rw [mkv_at hl,Int.zero_mul],S_zero,Int.zero_emod]
theorem rowM_unit {p:Int} {D q:Nat} {A:Mx} (hq:q < D) (hA:Mat p D A):rowM p D (unit D q) A = A.getD q []:=by
 have hr:=hA.2 q hq
 conv => rhs;rw [mkv_eq hr.1]
 refine mkv_congr fun j hj => ?_
 rw [unit_mkv,S_one (k:=q) hq (fun i hi hne => by rw [mkv_at hi,if_neg hne,Int.zero_mul]),mkv_at hq,if_pos rfl,Int.one_mul,mod_small (hr.2 j hj)]
theorem unit_row' {p:Int} {D q:Nat} (hp:2 ≤ p):Row p D (unit D q):=by
 rw [unit_mkv]
 exact ⟨mkv_length _ _,fun j hj => by rw [mkv_at hj];split <;> omega⟩
theorem unit_app {N D q:Nat} (hq:q < D):unit (N + D) (N + q) = zeros N ++ unit D q:=by
 rw [unit_eq (by omega),unit_eq hq,← List.append_assoc]
 simp only [zeros,List.replicate_append_replicate]
 rw [show N + D - (N + q + 1) = D - (q + 1) from by omega]
def aM (m:SModule) (D k:Nat) (v:Vec):Mx:=img (PM m.Prime D) (m.Actions.drop k) v (idM D)
section
variable {D:Nat} {x:SPr} {m:SModule} {T:Mx} (h:Pres x) (hE:ExOk x.Orders.length D x m T) (hT:∀ i,i < T.length → Row m.Prime D (T.getD i []))
 include h hE hT
theorem eC1_take {k:Nat} (hk:k < x.Orders.length):(eC1 x T k).map (·.take (x.Orders.length - (k + 1))) = (lvl x k).cs:=by
 have _:=hE;have _:=hT
 have hcl:=cs_length h hk
 apply List.ext_getElem?
 intro j
 by_cases g:j < x.Orders.length - (k + 1)
 ·obtain ⟨c,_,_,c3,c4⟩:=conj_at h hk g
  have hl:=V_len h (by omega) c3
  have e1:((eC1 x T k).map (·.take (x.Orders.length - (k + 1))))[j]? = some (((lvl x k).cs.getD j [] ++ T.getD (base x.Orders.length k + j) []).take (x.Orders.length - (k + 1))):=by simp [eC1,gl,show j < x.Orders.length - 1 - k by omega]
  rw [e1,c4,List.take_left' hl,List.getElem?_eq_getElem (by omega)]
  rw [List.getD_eq_getElem?_getD,List.getElem?_eq_getElem (by omega)] at c4
  exact congrArg some c4.symm
 ·rw [List.getElem?_eq_none (by simp [eC1,gl];omega),List.getElem?_eq_none (by omega)]
theorem act_drop {k:Nat} (hk:k < x.Orders.length):m.Actions.drop k = m.Actions.getD k [] :: m.Actions.drop (k + 1):=by
 have _:=h;have _:=hT
 have hl:=hE.m.len
 rw [List.drop_eq_getElem_cons (by omega),List.getD_eq_getElem?_getD,List.getElem?_eq_getElem (by omega)];rfl
theorem aM_cons {k:Nat} (hk:k < x.Orders.length) {b:Int} {y:Vec}:aM m D k (b :: y) = PM m.Prime D (pw (PM m.Prime D) (idM D) (m.Actions.getD k []) b.toNat) (aM m D (k + 1) y):=by
 have M:=mon_mat hE.m
 unfold aM
 rw [act_drop h hE hT hk]
 refine img_cons M (hE.m.mat k hk) fun c hc => ?_
 obtain ⟨i,hi,rfl⟩:=List.mem_iff_getElem.1 (List.mem_of_mem_drop hc)
 have:=hE.m.mat i (by rw [← hE.m.len];exact hi)
 rwa [List.getD_eq_getElem?_getD,List.getElem?_eq_getElem hi] at this
theorem pwM {k q:Nat} (hk:k < x.Orders.length):Mat m.Prime D (pw (PM m.Prime D) (idM D) (m.Actions.getD k []) q):=by
 have _:=h;have _:=hT;have _:=hk
 have hp:=hE.m.p.pos
 exact iter_in (S:=Mat m.Prime D) (fun _ hB => PM_mat (by omega) hB.1) q (idM_mat (by omega))
theorem ex_L1:∀ (d k:Nat),k + d = x.Orders.length → ∀ r y v,Row m.Prime D r → V (suf x k) y → Row m.Prime D v → mul (suf (exx D x m T) k) (zeros d ++ r) (y ++ v) = y ++ adv m.Prime D (rowM m.Prime D r (aM m D k y)) v
 | 0,k,hk,r,y,v,hr,hy,hv => by
  have hp:=hE.m.p.pos
  rw [suf_nil (x:=x) (k:=k) (by omega)] at hy
  obtain rfl:y = []:=hy
  rw [suf_tlv h hE hT D k (by omega) (by omega)]
  have e:aM m D k [] = idM D:=by unfold aM;cases m.Actions.drop k <;> rfl
  rw [e,rowM_idM hr]
  exact tlv_mul (by omega) D r v hr hv
 | d + 1,k,hk,r,y,v,hr,hy,hv => by
  have hl:=ex_len h hE hT
  have hp:=hE.m.p.pos
  have hA:=hE.m.mat k (by omega)
  rw [suf_cons (x:=x) (by omega)] at hy
  cases y with
  | nil => exact hy.elim
  | cons b y =>
   obtain ⟨⟨b0,b1⟩,hy⟩:=hy
   change b < at0 x.Orders k at b1
   rw [suf_cons (x:=exx D x m T) (by omega)]
   show mul _ (0 :: (zeros d ++ r)) (b :: (y ++ v)) = _
   have e:=ex_iter0 h hE hT (k:=k) (by omega) b.toNat hr
   rw [show x.Orders.length - (k + 1) = d from by omega] at e
   rw [mul_cons,exl_o h hE hT (by omega),if_neg (by omega),e,iter_rowM hA (by omega) hr,ex_L1 d (k + 1) (by omega) _ y v (rowM_row (by omega)) hy hv,Int.zero_add,aM_cons h hE hT (by omega),← rowM_PM (pwM h hE hT (by omega)).1]
   rfl
theorem sig_proj {k:Nat} (hk:k < x.Orders.length) (ih:∀ a b,V (suf (exx D x m T) (k + 1)) a → V (suf (exx D x m T) (k + 1)) b → (mul (suf (exx D x m T) (k + 1)) a b).take (x.Orders.length - (k + 1)) = mul (suf x (k + 1)) (a.take (x.Orders.length - (k + 1))) (b.take (x.Orders.length - (k + 1)))) {v:Vec} (hv:V (suf (exx D x m T) (k + 1)) v) :
  (sig (suf (exx D x m T) (k + 1)) (lvl (exx D x m T) k) v).take (x.Orders.length - (k + 1)) = sig (suf x (k + 1)) (lvl x k) (v.take (x.Orders.length - (k + 1))):=by
 have ok:=ex_ok h hE hT (k:=k + 1) (by omega)
 obtain ⟨y,u,rfl,hy,hu⟩:=(V_ext h hE hT (x.Orders.length - (k + 1)) (k + 1) (by omega) _).1 hv
 have hyl:=V_len h (by omega) hy
 obtain ⟨y1,u1,e,hy1,hu1⟩:=(V_ext h hE hT (x.Orders.length - (k + 1)) (k + 1) (by omega) _).1 (sgG_V h hE hT hk (y:=y))
 have hy1l:=V_len h (by omega) hy1
 rw [ex_sig h hE hT hk hy hu,List.take_left' (by rw [e,List.take_left' hy1l,hy1l]),List.take_left' hyl]
 unfold sgG sig
 rw [img_proj (S:=V (suf (exx D x m T) (k + 1))) (n:=mul (suf x (k + 1))) (·.take (x.Orders.length - (k + 1))) (fun a b => mul_in ok) ih _ _ _ (eC1_V h hE hT hk) (V_zeros ok),eC1_take h hE hT hk,zs_len h hE hT (by omega),List.take_left' (zeros_length _),suf_length]
theorem ex_proj:∀ (d k:Nat),k + d = x.Orders.length → ∀ a b,V (suf (exx D x m T) k) a → V (suf (exx D x m T) k) b → (mul (suf (exx D x m T) k) a b).take d = mul (suf x k) (a.take d) (b.take d)
 | 0,k,hk,a,b,_,_ => by
  rw [suf_nil (x:=x) (by omega),List.take_zero];rfl
 | d + 1,k,hk,a,b,ha,hb => by
  have hl:=ex_len h hE hT
  have ih:=ex_proj d (k + 1) (by omega)
  have hd:d = x.Orders.length - (k + 1):=by omega
  have ok:=ex_ok h hE hT (k:=k + 1) (by omega)
  have ok0:=ex_ok h hE hT (k:=k) (by omega)
  rw [hd] at ih
  have hs:=fun v hv => sig_proj h hE hT (k:=k) (by omega) ih (v:=v) hv
  rw [suf_cons (x:=exx D x m T) (by omega)] at ha hb ok0 ⊢
  rw [suf_cons (x:=x) (by omega)]
  cases a with
  | nil => exact ha.elim
  | cons a u =>
  cases b with
  | nil => exact hb.elim
  | cons b v =>
   have hit:∀ q u,V (suf (exx D x m T) (k + 1)) u → (iter q (sig (suf (exx D x m T) (k + 1)) (lvl (exx D x m T) k)) u).take d = iter q (sig (suf x (k + 1)) (lvl x k)) (u.take d) ∧ V (suf (exx D x m T) (k + 1)) (iter q (sig (suf (exx D x m T) (k + 1)) (lvl (exx D x m T) k)) u):=by
    intro q
    induction q with
    | zero => intro u hu;exact ⟨rfl,hu⟩
    | succ q ihq =>
     intro u hu
     have:=ihq _ (sig_in ok0 hu)
     rw [hd,hs u hu] at this
     rw [hd];exact this
   obtain ⟨hi1,hi2⟩:=hit b.toNat u ha.2
   have hm:=mul_in ok hi2 hb.2
   rw [mul_cons,List.take_succ_cons,List.take_succ_cons,mul_cons,exl_o h hE hT (by omega),show (lvl x k).o = at0 x.Orders k from rfl]
   have e1:=ih _ _ hi2 hb.2
   rw [← hd,hi1] at e1
   split
   ·rw [List.take_succ_cons]
    have e2:=ih _ _ ok0.2.1 hm
    rw [← hd,e1] at e2
    rw [e2]
    congr 2
    have ht:=(h.tl k (by omega)).1
    have hw:=exp_V ht (by omega)
    have hwl:(lvl x k).w.length = x.Orders.length - (k + 1):=V_len h (by omega) hw
    rw [exl_w h hE hT (by omega),List.take_left' (by omega)]
   ·rw [List.take_succ_cons,e1]
end
end Go.Pl

namespace Go.Pl
open Go Go.Ab Go.Wk Go.Pc
theorem units_row {p:Int} {d:Nat} (hp:2 ≤ p):∀ c ∈ units d,Row p d c:=fun c hc => by
 obtain ⟨k,_,rfl⟩:=List.mem_map.1 hc
 exact unit_row' hp
theorem tlv_sig {p:Int} (hp:2 ≤ p) {d:Nat} {w:Vec} (hw:Row p d w):sig (tlv p d) ⟨p,zeros d,units d⟩ w = w:=by
 unfold sig
 rw [tlv_len,img_congr (S:=Row p d) (m':=adv p d) (fun a b ha hb => tlv_mul hp d a b ha hb) (fun _ _ _ _ => adv_row (by omega)) (units d) w _ (units_row hp) (zero_row (by omega)),img_adv (by omega) (units d) w _ (by rw [hw.1];simp [units]) (fun i hi => (hw.2 i (by rw [← hw.1];exact hi)).1) (zero_row (by omega))]
 conv => rhs;rw [mkv_eq hw.1]
 refine mkv_congr fun j hj => ?_
 have hul:(units d).length = d:=by simp [units]
 rw [hul,at0_zeros,Int.zero_add,S_one (k:=j) hj (fun k hk hne => by rw [units_ent hk hj,if_neg (Ne.symm hne),Int.mul_zero]),units_ent hj hj,if_pos rfl,Int.mul_one,mod_small (hw.2 j hj)]
structure LCn (x e:SPr) (k:Nat):Prop where
 c1:∀ j,k + 1 ≤ j → j < x.Orders.length → pw (mul (suf e (k + 1))) (zeros (suf e (k + 1)).length) ((lvl e k).cs.getD (j - (k + 1)) []) (at0 e.Orders j).toNat = sig (suf e (k + 1)) (lvl e k) ((e.Powers.getD j []).drop (k + 1))
 c2:∀ i,k + 1 ≤ i → i < x.Orders.length → ∀ j,i + 1 ≤ j → j < x.Orders.length →
  mul (suf e (k + 1)) ((lvl e k).cs.getD (j - (k + 1)) []) ((lvl e k).cs.getD (i - (k + 1)) []) = mul (suf e (k + 1)) ((lvl e k).cs.getD (i - (k + 1)) []) (sig (suf e (k + 1)) (lvl e k) (((e.Conjugates.getD i []).getD (j - (i + 1)) []).drop (k + 1)))
 c3:sig (suf e (k + 1)) (lvl e k) (lvl e k).w = (lvl e k).w
 c4:∀ j,k + 1 ≤ j → j < x.Orders.length → mul (suf e (k + 1)) (lvl e k).w (iter (lvl e k).o.toNat (sig (suf e (k + 1)) (lvl e k)) (unit (e.Orders.length - (k + 1)) (j - (k + 1)))) = mul (suf e (k + 1)) (unit (e.Orders.length - (k + 1)) (j - (k + 1))) (lvl e k).w
section
variable {D:Nat} {x:SPr} {m:SModule} {T:Mx} (h:Pres x) (hE:ExOk x.Orders.length D x m T) (hT:∀ i,i < T.length → Row m.Prime D (T.getD i []))
 include h hE hT
theorem ecs_2 {k j:Nat} (hk:k < x.Orders.length) (hj:x.Orders.length ≤ j) (h2:j < x.Orders.length + D):(lvl (exx D x m T) k).cs.getD (j - (k + 1)) [] = zeros (x.Orders.length - (k + 1)) ++ (m.Actions.getD k []).getD (j - x.Orders.length) []:=by
 rw [exl_cs h hE hT hk,List.getD_eq_getElem?_getD,List.getElem?_append_right (by rw [eC1_len h hE hT];omega),eC1_len h hE hT,eC2]
 simp only [gl,List.getElem?_map]
 rw [List.getElem?_range (by omega),show j - (k + 1) - (x.Orders.length - 1 - k) = j - x.Orders.length from by omega,show x.Orders.length - 1 - k = x.Orders.length - (k + 1) from by omega]
 rfl
theorem ecs_1 {k j:Nat} (hk:k < x.Orders.length) (hj:k + 1 ≤ j) (h2:j < x.Orders.length):(lvl (exx D x m T) k).cs.getD (j - (k + 1)) [] = (lvl x k).cs.getD (j - (k + 1)) [] ++ T.getD (base x.Orders.length k + (j - (k + 1))) []:=by
 rw [exl_cs h hE hT hk,List.getD_eq_getElem?_getD,List.getElem?_append_left (by rw [eC1_len h hE hT];omega),eC1]
 simp only [gl,List.getElem?_map]
 rw [List.getElem?_range (by omega)]
 rfl
theorem T_row {i j:Nat} (hi:i < j) (hj:j < x.Orders.length):Row m.Prime D (T.getD (base x.Orders.length i + (j - (i + 1))) []):=by
 have _:=h
 have hn:=hE.hn
 have hb:=base_le x.Orders.length (by omega) i (by omega)
 exact hT _ (by rw [hE.t];omega)
theorem T_rowp {i:Nat} (hi:i < x.Orders.length):Row m.Prime D (T.getD i []):=by
 have _:=h
 have hn:=hE.hn
 have hb:=base_big x.Orders.length (by omega)
 exact hT _ (by rw [hE.t];omega)
theorem epow_1 {k j:Nat} (hj:k ≤ j) (h2:j < x.Orders.length):((exx D x m T).Powers.getD j []).drop (k + 1) = (x.Powers.getD j []).drop (k + 1) ++ T.getD j []:=by
 have t1:=(h.tl j h2).1.1.1
 have _:=hE;have _:=hT
 have hP:(exx D x m T).Powers.getD j [] = exP x.Orders.length D x T j:=gl_getD (by omega)
 rw [hP,exP,if_pos h2,List.drop_append_of_le_length (by omega)]
theorem epow_2 {k j:Nat} (hk:k < x.Orders.length) (hj:x.Orders.length ≤ j) (h2:j < x.Orders.length + D):((exx D x m T).Powers.getD j []).drop (k + 1) = zeros (x.Orders.length - (k + 1)) ++ zeros D:=by
 have _:=h;have _:=hE;have _:=hT
 have hP:(exx D x m T).Powers.getD j [] = exP x.Orders.length D x T j:=gl_getD (by omega)
 rw [hP,exP,if_neg (by omega),List.drop_replicate]
 simp only [zeros,List.replicate_append_replicate];congr 1;omega
theorem econ_C {i:Nat} (hi:i < x.Orders.length + D):(exx D x m T).Conjugates.getD i [] = exC x.Orders.length D x m T i:=by
 have _:=h;have _:=hE;have _:=hT
 show (gl (x.Orders.length + D) (exC x.Orders.length D x m T)).getD i [] = _
 simp [gl,List.getD_eq_getElem?_getD,hi]
theorem econ_1 {k i j:Nat} (hk:k ≤ i) (hi:i < j) (hj:j < x.Orders.length):(((exx D x m T).Conjugates.getD i []).getD (j - (i + 1)) []).drop (k + 1) = ((x.Conjugates.getD i []).getD (j - (i + 1)) []).drop (k + 1) ++ T.getD (base x.Orders.length i + (j - (i + 1))) []:=by
 obtain ⟨_,t2,t3⟩:=h.tl i (by omega)
 have t:=(t3 (j - (i + 1)) (by omega)).1.1
 rw [econ_C h hE hT (by omega),exC,if_pos (by omega),gl_getD (by omega),exF,if_pos (by omega),List.drop_append_of_le_length (by omega)]
theorem econ_2 {k i j:Nat} (hk:k < x.Orders.length) (hi:i < x.Orders.length) (hj:x.Orders.length ≤ j) (h2:j < x.Orders.length + D):(((exx D x m T).Conjugates.getD i []).getD (j - (i + 1)) []).drop (k + 1) = zeros (x.Orders.length - (k + 1)) ++ (m.Actions.getD i []).getD (j - x.Orders.length) []:=by
 rw [econ_C h hE hT (by omega),exC,if_pos (by omega),gl_getD (by omega),exF,if_neg (by omega),List.drop_append_of_le_length (by simp;omega),List.drop_replicate,show j - (i + 1) - (x.Orders.length - 1 - i) = j - x.Orders.length from by omega]
 rfl
theorem econ_3 {k i j:Nat} (hk:k < x.Orders.length) (hi:x.Orders.length ≤ i) (hj:i < j) (h2:j < x.Orders.length + D):(((exx D x m T).Conjugates.getD i []).getD (j - (i + 1)) []).drop (k + 1) = zeros (x.Orders.length - (k + 1)) ++ unit D (j - x.Orders.length):=by
 rw [econ_C h hE hT (by omega),exC,if_neg (by omega),unC,gl_getD (by omega),unitv,mkv_drop,← unit_app (by omega),unit_mkv]
 rw [show x.Orders.length + D - (k + 1) = x.Orders.length - (k + 1) + D from by omega]
 refine mkv_congr fun q _ => ?_
 by_cases g:q = x.Orders.length - (k + 1) + (j - x.Orders.length)
 ·rw [if_pos g,if_pos (by omega)]
 ·rw [if_neg g,if_neg (by omega)]
theorem rel_lvl (hr:RelM x m D) {k:Nat} (hk:k < x.Orders.length):pw (PM m.Prime D) (idM D) (m.Actions.getD k []) (at0 x.Orders k).toNat = aM m D (k + 1) (lvl x k).w ∧
  ∀ i,k < i → i < x.Orders.length → PM m.Prime D (m.Actions.getD i []) (m.Actions.getD k []) = PM m.Prime D (m.Actions.getD k []) (aM m D (k + 1) ((lvl x k).cs.getD (i - (k + 1)) [])):=by
 have R:=rel_mat h hE.m hr (x.Orders.length - k) k (by omega)
 rw [suf_cons hk,act_drop h hE hT hk] at R
 obtain ⟨r1,r2,_⟩:=R
 refine ⟨r1,fun i h1 h2 => ?_⟩
 have hcl:=cs_length h hk
 have hl:=hE.m.len
 refine r2 (i - (k + 1)) _ _ ?_ ?_
 ·rw [List.getElem?_drop,show k + 1 + (i - (k + 1)) = i from by omega,List.getD_eq_getElem?_getD,List.getElem?_eq_getElem (by omega)];rfl
 ·rw [List.getD_eq_getElem?_getD,List.getElem?_eq_getElem (by omega)];rfl
theorem zv {k:Nat} (hk:k ≤ x.Orders.length):V (suf x k) (zeros (x.Orders.length - k)):=by
 have _:=hE;have _:=hT
 have:=V_zeros (h.okAt hk)
 rwa [suf_length] at this
theorem lc_all (hr:RelM x m D) {k:Nat} (hk:k < x.Orders.length) (hc:LCn x (exx D x m T) k):LC (exx D x m T) k:=by
 have hp:=hE.m.p.pos
 have hl:=ex_len h hE hT
 have hA:=hE.m.mat k hk
 obtain ⟨r1,r2⟩:=rel_lvl h hE hT hr hk
 have hz:=zv h hE hT (k:=k + 1) (by omega)
 have hD0:Row m.Prime D (zeros D):=zero_row (by omega)
 have hw:=(w_at h hk).2
 refine ⟨fun j h1 h2 => ?_,fun i h1 h2 j h3 h4 => ?_,hc.c3,fun j h1 h2 => ?_⟩
 ·rw [hl] at h2
  rcases Nat.lt_or_ge j x.Orders.length with g | g
  ·exact hc.c1 j h1 g
  ·have hq:=hA.2 (j - x.Orders.length) (by omega)
   rw [ecs_2 h hE hT hk g h2,epow_2 h hE hT hk g h2,ex_sig0 h hE hT hk hD0,rowM_zeros,ex_ord2 h hE hT g h2,zs_len h hE hT (by omega)]
   have e:=img_R1 h hE hT (d:=x.Orders.length - (k + 1)) (k:=k + 1) (by omega) [(m.Actions.getD k []).getD (j - x.Orders.length) []] [m.Prime] _ _ (fun r hr => by rw [List.mem_singleton.1 hr];exact hq) hz hD0
   have e2:iter m.Prime.toNat (fun w => adv m.Prime D w ((m.Actions.getD k []).getD (j - x.Orders.length) [])) (zeros D) = zeros D:=pw_adv (by omega)
   unfold pw
   refine e.trans ?_
   show zeros _ ++ iter m.Prime.toNat (fun w => adv m.Prime D w ((m.Actions.getD k []).getD (j - x.Orders.length) [])) (zeros D) = _
   rw [e2]
 ·rw [hl] at h4
  rcases Nat.lt_or_ge j x.Orders.length with g | g
  ·exact hc.c2 i h1 (by omega) j h3 g
  ·have hq:=hA.2 (j - x.Orders.length) (by omega)
   rw [ecs_2 h hE hT hk g h4]
   rcases Nat.lt_or_ge i x.Orders.length with gi | gi
   ·have hAi:=hE.m.mat i gi
    have hqi:=hAi.2 (j - x.Orders.length) (by omega)
    have hcv:=(conj_at' h hk h1 gi).2.2
    have ht:=T_row h hE hT (i:=k) (j:=i) (by omega) gi
    rw [ecs_1 h hE hT hk h1 gi,econ_2 h hE hT hk gi g h4,ex_sig0 h hE hT hk hqi,ex_L1 h hE hT _ (k + 1) (by omega) _ _ _ hq hcv ht,ex_R1 h hE hT _ (k + 1) (by omega) _ _ _ hcv ht (rowM_row (by omega)),adv_comm]
    congr 2
    rw [← PM_get (by rw [hA.1];omega),← PM_get (by rw [hAi.1];omega),r2 i (by omega) gi]
   ·have hqi:=hA.2 (i - x.Orders.length) (by omega)
    rw [ecs_2 h hE hT hk gi (by omega),econ_3 h hE hT hk gi (by omega) h4,ex_sig0 h hE hT hk (unit_row' (by omega)),rowM_unit (by omega) hA,ex_R1 h hE hT _ (k + 1) (by omega) _ _ _ hz hq hqi,ex_R1 h hE hT _ (k + 1) (by omega) _ _ _ hz hqi hq,adv_comm]
 ·rw [hl] at h2 ⊢
  rcases Nat.lt_or_ge j x.Orders.length with g | g
  ·have:=hc.c4 j h1 g
   rwa [hl] at this
  ·have ht:=T_rowp h hE hT hk
   have hu:Row m.Prime D (unit D (j - x.Orders.length)):=unit_row' (by omega)
   rw [show x.Orders.length + D - (k + 1) = x.Orders.length - (k + 1) + D from by omega,show j - (k + 1) = x.Orders.length - (k + 1) + (j - x.Orders.length) from by omega,unit_app (by omega),exl_o h hE hT hk,ex_iter0 h hE hT hk _ hu,exl_w h hE hT hk,iter_rowM hA (by omega) hu,r1,ex_L1 h hE hT _ (k + 1) (by omega) _ _ _ hu hw ht,ex_R1 h hE hT _ (k + 1) (by omega) _ _ _ hw ht (rowM_row (by omega)),adv_comm]
theorem lc_mod {k:Nat} (hk:x.Orders.length ≤ k) (h2:k < x.Orders.length + D):LC (exx D x m T) k:=by
 have hp:=hE.m.p.pos
 have hl:=ex_len h hE hT
 have hs:=suf_tlv h hE hT (x.Orders.length + D - (k + 1)) (k + 1) (by omega) (by omega)
 have hL:=suf_tlv h hE hT (x.Orders.length + D - (k + 1) + 1) k (by omega) (by omega)
 rw [suf_cons (by omega),hs,tlv] at hL
 have hlv:lvl (exx D x m T) k = ⟨m.Prime,zeros (x.Orders.length + D - (k + 1)),units (x.Orders.length + D - (k + 1))⟩:=(List.cons.inj hL).1
 generalize hd:x.Orders.length + D - (k + 1) = d at *
 have hsig:∀ w,Row m.Prime d w → sig (tlv m.Prime d) ⟨m.Prime,zeros d,units d⟩ w = w:=fun w hw => tlv_sig (by omega) hw
 have hzr:Row m.Prime d (zeros d):=zero_row (by omega)
 have hum:∀ j,(units d).getD j [] = if j < d then unit d j else []:=fun j => by
  by_cases g:j < d
  ·rw [if_pos g,units_getD g]
  ·rw [if_neg g,List.getD_eq_getElem?_getD,List.getElem?_eq_none (by simp [units];omega)];rfl
 refine ⟨fun j h1 h3 => ?_,fun i h1 h3 j h4 h5 => ?_,?_,fun j h1 h3 => ?_⟩
 ·rw [hl] at h3
  have hP:(exx D x m T).Powers.getD j [] = exP x.Orders.length D x T j:=gl_getD (by omega)
  rw [hs,hlv,ex_ord2 h hE hT (by omega) h3,hP,exP,if_neg (by omega),List.drop_replicate,hd]
  show pw (mul (tlv m.Prime d)) (zeros (tlv m.Prime d).length) ((units d).getD (j - (k + 1)) []) m.Prime.toNat = sig (tlv m.Prime d) ⟨m.Prime,zeros d,units d⟩ (zeros d)
  rw [hsig _ hzr,hum,if_pos (by omega),tlv_len]
  have e:=img_congr (S:=Row m.Prime d) (m':=adv m.Prime d) (fun a b ha hb => tlv_mul (by omega) d a b ha hb) (fun _ _ _ _ => adv_row (by omega)) [unit d (j - (k + 1))] [m.Prime] (zeros d) (fun c hc => by rw [List.mem_singleton.1 hc];exact unit_row' (by omega)) hzr
  exact e.trans (pw_adv (by omega))
 ·rw [hl] at h3 h5
  rw [hs,hlv,econ_C h hE hT h3,exC,if_neg (by omega),unC,gl_getD (by omega),unitv,mkv_drop,hd]
  have e:(mkv d fun q => if k + 1 + q = i + 1 + (j - (i + 1)) then (1:Int) else 0) = unit d (j - (k + 1)):=by
   rw [unit_mkv]
   refine mkv_congr fun q _ => ?_
   by_cases g:q = j - (k + 1)
   ·rw [if_pos g,if_pos (by omega)]
   ·rw [if_neg g,if_neg (by omega)]
  rw [e,hsig _ (unit_row' (by omega))]
  show mul (tlv m.Prime d) ((units d).getD (j - (k + 1)) []) ((units d).getD (i - (k + 1)) []) = mul (tlv m.Prime d) ((units d).getD (i - (k + 1)) []) (unit d (j - (k + 1)))
  rw [hum,hum,if_pos (by omega),if_pos (by omega),tlv_mul (by omega) d _ _ (unit_row' (by omega)) (unit_row' (by omega)),tlv_mul (by omega) d _ _ (unit_row' (by omega)) (unit_row' (by omega)),adv_comm]
 ·rw [hs,hlv,hsig _ hzr]
 ·rw [hl] at h3 ⊢
  have hu:Row m.Prime d (unit d (j - (k + 1))):=unit_row' (by omega)
  rw [hs,hlv,hd,iter_fix (hsig _ hu),tlv_mul (by omega) d _ _ hzr hu,tlv_mul (by omega) d _ _ hu hzr,adv_comm]
theorem cons_mod:∀ (d k:Nat),x.Orders.length ≤ k → k + d = x.Orders.length + D → Cons (suf (exx D x m T) k)
 | 0,k,hk,hd => by
  rw [suf_nil (by rw [ex_len h hE hT];omega)];simp only [Cons]
 | d + 1,k,hk,hd => (cons_iff (ex_pres h hE hT) (by rw [ex_len h hE hT];omega)).2 ⟨cons_mod d (k + 1) (by omega) (by omega),lc_mod h hE hT hk (by omega)⟩
theorem ex_cons (hr:RelM x m D):Cons (suf (exx D x m T) 0) ↔ ∀ k,k < x.Orders.length → LCn x (exx D x m T) k:=by
 have hl:=ex_len h hE hT
 have key:∀ (d k:Nat),k + d = x.Orders.length → (Cons (suf (exx D x m T) k) ↔ ∀ i,k ≤ i → i < x.Orders.length → LCn x (exx D x m T) i):=by
  intro d
  induction d with
  | zero => intro k hk;exact ⟨fun _ i h1 h2 => by omega,fun _ => cons_mod h hE hT D k (by omega) (by omega)⟩
  | succ d ih =>
   intro k hk
   rw [cons_iff (ex_pres h hE hT) (by omega),ih (k + 1) (by omega)]
   constructor
   ·rintro ⟨g1,g2⟩ i h1 h2
    rcases Nat.lt_or_ge k i with g | g
    ·exact g1 i (by omega) h2
    ·obtain rfl:i = k:=by omega
     exact ⟨fun j a b => g2.c1 j a (by omega),fun i a b j c d => g2.c2 i a (by omega) j c (by omega),g2.c3,fun j a b => g2.c4 j a (by omega)⟩
   ·exact fun g => ⟨fun i h1 h2 => g i (by omega) h2,lc_all h hE hT hr (by omega) (g k (by omega) (by omega))⟩
 have:=key x.Orders.length 0 (by omega)
 rw [this]
 exact ⟨fun g k hk => g k (by omega) hk,fun g k _ hk => g k hk⟩
end
end Go.Pl

namespace Go.Pl
open Go Go.Ab Go.Wk Go.Pc
def prE (x:SPr) (k:Nat) (w:Vec):Sl23Pair:=⟨fv k (w.take (x.Orders.length - k)),w.drop (x.Orders.length - k)⟩
theorem prE_app {x:SPr} {k:Nat} {y u:Vec} (hy:y.length = x.Orders.length - k):prE x k (y ++ u) = ⟨fv k y,u⟩:=by
 rw [prE,List.take_left' hy,List.drop_left' hy]
theorem iter_loop3 {α α' β:Type} {body:α × α' × Int → Option ((α × α' × Int) ⊕ (α × α'))} {S:β → Prop} (e1:β → α) (e2:β → α') (g:β → β) (n:Int) (hn:0 ≤ n) (hS:∀ a,S a → S (g a))
  (h:∀ a (i:Nat),S a → (i:Int) < n → body (e1 a,e2 a,(i:Int)) = some (.inl (e1 (g a),e2 (g a),((i + 1:Nat):Int)))) (he:∀ a,S a → body (e1 a,e2 a,n) = some (.inr (e1 a,e2 a))) {a:β} (ha:S a) :
  loopO body (e1 a,e2 a,0) = some (e1 (iter n.toNat g a),e2 (iter n.toNat g a)):=by
 have hit:∀ k,S (iter k g a):=fun k => iter_in (S:=S) hS k ha
 exact loopO_seq (body:=body) (r:=(e1 (iter n.toNat g a),e2 (iter n.toNat g a))) (fun i => (e1 (iter i g a),e2 (iter i g a),(i:Int))) n.toNat (fun i hi => by
  rw [h _ i (hit i) (by omega),iter_succ]) (by
  rw [show ((n.toNat:Nat):Int) = n from by omega]
  exact he _ (hit _))
section
variable {D:Nat} {x:SPr} {m:SModule} {T:Mx} (h:Pres x) (hE:ExOk x.Orders.length D x m T) (hT:∀ i,i < T.length → Row m.Prime D (T.getD i []))
def FAt2 (D:Nat) (x:SPr) (m:SModule) (T:Mx) (k:Nat) (g:Sl23Rules → Int → Sl23Pair → Sl23Pair → Option Sl23Pair):Prop :=
 ∀ a b,V (suf (exx D x m T) k) a → V (suf (exx D x m T) k) b → g ⟨x,m,T⟩ k (prE x k a) (prE x k b) = some (prE x k (mul (suf (exx D x m T) k) a b))
def FIm2 (D:Nat) (x:SPr) (m:SModule) (T:Mx) (k:Nat) (g:Sl23Rules → Int → Sl23Pair → Option Sl23Pair):Prop :=
 ∀ v,V (suf (exx D x m T) (k + 1)) v → g ⟨x,m,T⟩ k (prE x (k + 1) v) = some (prE x (k + 1) (sig (suf (exx D x m T) (k + 1)) (lvl (exx D x m T) k) v))
 include h hE hT
theorem conj_pr {k i j:Nat} (hk:k ≤ i) (hi:i < j) (hj:j < x.Orders.length):f_spec_l23Conj ⟨x,m,T⟩ (i:Int) (j:Int) = some (prE x (k + 1) ((((exx D x m T).Conjugates.getD i []).getD (j - (i + 1)) []).drop (k + 1))) ∧ V (suf (exx D x m T) (k + 1)) ((((exx D x m T).Conjugates.getD i []).getD (j - (i + 1)) []).drop (k + 1)):=by
 have hn:=hE.hn
 have hb:=base_le x.Orders.length (by omega) i (by omega)
 have ht:=hE.t
 obtain ⟨_,t2,t3⟩:=h.tl i (by omega)
 have tt:=t3 (j - (i + 1)) (by omega)
 obtain ⟨e1,e2⟩:=exp_drop (k:=k + 1) tt (by omega) (by omega)
 have hl:=V_len h (by omega) e2
 have hcl:=h.cl
 have hr:=T_row h hE hT hi hj
 refine ⟨?_,?_⟩
 ·rw [econ_1 h hE hT hk hi hj,prE_app hl,← e1]
  unfold f_spec_l23Conj
  dsimp only
  rw [ixO_d [] (by omega),bs,rng_of (by omega) (by omega),bs,rng_of (by omega) (by omega),bs,show (j:Int) - (i:Int) - 1 = ((j - (i + 1):Nat):Int) from by omega,ixO_d [] (by omega),bs,place_spec x.Orders.length (by omega) j hj i hi,bs,ixO_d [] (by omega),bs,show j - i - 1 = j - (i + 1) from by omega]
 ·rw [econ_1 h hE hT hk hi hj]
  exact (V_ext h hE hT (x.Orders.length - (k + 1)) (k + 1) (by omega) _).2 ⟨_,_,rfl,e2,hr⟩
theorem conj_prk {k j:Nat} (hk:k < j) (hj:j < x.Orders.length):f_spec_l23Conj ⟨x,m,T⟩ (k:Int) (j:Int) = some (prE x (k + 1) ((lvl (exx D x m T) k).cs.getD (j - (k + 1)) [])) ∧ V (suf (exx D x m T) (k + 1)) ((lvl (exx D x m T) k).cs.getD (j - (k + 1)) []):=by
 have e:(lvl (exx D x m T) k).cs.getD (j - (k + 1)) [] = (((exx D x m T).Conjugates.getD k []).getD (j - (k + 1)) []).drop (k + 1):=by
  have hC:((exx D x m T).Conjugates.getD k []).length = x.Orders.length + D - 1 - k:=by rw [econ_C h hE hT (by omega),exC,if_pos (by omega),gl_len]
  simp only [lvl]
  rw [List.getD_eq_getElem?_getD,List.getElem?_map,List.getElem?_eq_getElem (by omega),List.getD_eq_getElem?_getD (l:=(exx D x m T).Conjugates.getD k []),List.getElem?_eq_getElem (by omega)]
  rfl
 rw [e]
 exact conj_pr h hE hT (Nat.le_refl k) hk hj
theorem pow_pr {k j:Nat} (hk:k ≤ j) (hj:j < x.Orders.length):f_spec_l23Power ⟨x,m,T⟩ (j:Int) = some (prE x (k + 1) (((exx D x m T).Powers.getD j []).drop (k + 1))) ∧ V (suf (exx D x m T) (k + 1)) (((exx D x m T).Powers.getD j []).drop (k + 1)):=by
 have hn:=hE.hn
 have hb:=base_big x.Orders.length (by omega)
 have ht:=hE.t
 have hpl:=h.pl
 have t1:=(h.tl j hj).1
 obtain ⟨e1,e2⟩:=exp_drop (k:=k + 1) t1 (by omega) (by omega)
 have hl:=V_len h (by omega) e2
 have hr:=T_rowp h hE hT hj
 refine ⟨?_,?_⟩
 ·rw [epow_1 h hE hT hk hj,prE_app hl,← e1]
  unfold f_spec_l23Power
  dsimp only
  rw [ixO_d [] (by omega),bs,ixO_d [] (by omega),bs]
 ·rw [epow_1 h hE hT hk hj]
  exact (V_ext h hE hT (x.Orders.length - (k + 1)) (k + 1) (by omega) _).2 ⟨_,_,rfl,e2,hr⟩
theorem zero_pr {k:Nat} (hk:k ≤ x.Orders.length) (h0:0 < x.Orders.length):f_spec_l23Zero ⟨x,m,T⟩ = some (prE x k (zeros (suf (exx D x m T) k).length)):=by
 have hn:=hE.hn
 have h3:=hE.m.d3
 have hb:=base_big x.Orders.length (by omega)
 have ht:=hE.t
 have hr:=T_rowp h hE hT h0
 have hrl:=hr.1
 unfold f_spec_l23Zero
 dsimp only
 have e0:ixO T 0 = some (T.getD 0 []):=ixO_d (i:=0) [] (by omega)
 rw [decide_eq_true (by omega),cnd_t,e0,bs,lenOk_nat (by omega),bs,lenOk_nat (by omega),bs,zs_len h hE hT hk,prE_app (zeros_length _),hrl,fv]
 congr 2
 simp only [zeros,List.replicate_append_replicate];congr 1;omega
theorem move_eq {k:Nat} (hk:k < x.Orders.length) {u:Vec} (hu:Row m.Prime D u):f_spec_l23Move m u (k:Int) = some (rowM m.Prime D u (m.Actions.getD k [])):=by
 have _:=h;have _:=hT
 have hn:=hE.hn
 have h3:=hE.m.d3
 have h1:=hE.m.d1
 have hA:=hE.m.mat k hk
 have hul:=hu.1
 have hl:=hE.m.len
 unfold f_spec_l23Move
 have e1:l1_spec_l23Move m u (k:Int) ([],0) = some (.inl (rowM m.Prime D u (m.Actions.getD k []),(D:Int))):=by
  unfold l1_spec_l23Move
  simp only
  rw [decide_eq_true (by omega),cnd_t,hE.m.d,rng_of (by omega) (by omega),bs,Int.zero_add]
  have hsl:sliceO u 0 (D:Int) = some u:=by
   unfold sliceO
   rw [if_pos ⟨by omega,by omega,by omega⟩]
   congr 1
   rw [show ((D:Int)).toNat = D from by omega,show (0:Int).toNat = 0 from rfl,List.drop_zero,List.take_of_length_le (by omega)]
  rw [hsl,bs,ixO_d [] (by omega),bs,times_spec hE.m.p (by omega) hu hA,bs,appO_of (by rw [rowM,mkv_length];simp;omega),bs,bs,List.nil_append]
 have e2:l1_spec_l23Move m u (k:Int) (rowM m.Prime D u (m.Actions.getD k []),(D:Int)) = some (.inr (rowM m.Prime D u (m.Actions.getD k []))):=by
  unfold l1_spec_l23Move
  simp only
  rw [decide_eq_false (by omega),cnd_f]
 rw [loopO_eq,e1]
 simp only
 rw [loopO_eq,e2]
 rfl
theorem add_eq {u v:Vec} (hu:Row m.Prime D u) (hv:Row m.Prime D v):f_spec_l02Add m.Prime u 1 v = some (adv m.Prime D u v):=by
 have _:=h;have _:=hT
 have h3:=hE.m.d3
 rw [l02Add_spec hE.m.p hu hv (by omega) (by omega)]
 congr 1
 exact mkv_congr fun j _ => by rw [Int.one_mul]
theorem prV {k:Nat} (hk:k ≤ x.Orders.length) {w:Vec} (hw:V (suf (exx D x m T) k) w):∃ y u,w = y ++ u ∧ V (suf x k) y ∧ Row m.Prime D u ∧ prE x k w = ⟨fv k y,u⟩ ∧ y.length = x.Orders.length - k:=by
 obtain ⟨y,u,rfl,hy,hu⟩:=(V_ext h hE hT (x.Orders.length - k) k (by omega) _).1 hw
 have hyl:=V_len h hk hy
 exact ⟨y,u,rfl,hy,hu,prE_app hyl,hyl⟩
theorem image2_step {k:Nat} (hk:k < x.Orders.length) {g:Sl23Rules → Int → Sl23Pair → Sl23Pair → Option Sl23Pair} (hg:FAt2 D x m T (k + 1) g):FIm2 D x m T k (b_spec_l23Image g):=by
 intro v hv
 have hn:=hE.hn
 have hp:=hE.m.p.pos
 have ok:=ex_ok h hE hT (k:=k + 1) (by omega)
 have hA:=hE.m.mat k hk
 obtain ⟨y,u,rfl,hy,hu,hpr,hyl⟩:=prV h hE hT (k:=k + 1) (by omega) hv
 obtain ⟨_,hyr⟩:=V_at h.os (x.Orders.length - (k + 1)) (k + 1) y (by omega) hy
 have hcl:=eC1_len h hE hT (k:=k)
 have hcs:=eC1_V h hE hT hk
 have hcg:∀ i,i < x.Orders.length - (k + 1) → (eC1 x T k).getD i [] = (lvl (exx D x m T) k).cs.getD i []:=fun i hi => by
  rw [exl_cs h hE hT hk,List.getD_eq_getElem?_getD,List.getD_eq_getElem?_getD,List.getElem?_append_left (by omega)]
 obtain ⟨A,hAe⟩:∃ A:Nat → Vec,∀ i,A i = img (mul (suf (exx D x m T) (k + 1))) ((eC1 x T k).take i) (y.take i) (zeros (suf (exx D x m T) (k + 1)).length):=⟨_,fun _ => rfl⟩
 have hI:∀ i,V (suf (exx D x m T) (k + 1)) (A i):=fun i => by
  rw [hAe];exact img_in' (mul_in ok) _ _ (fun c hc => hcs c (List.mem_of_mem_take hc)) (V_zeros ok)
 have hA0:A 0 = zeros (suf (exx D x m T) (k + 1)).length:=by rw [hAe];simp only [List.take_zero,img]
 have hAn:A (x.Orders.length - (k + 1)) = sgG D x m T k y:=by
  rw [hAe,List.take_of_length_le (by omega),List.take_of_length_le (by omega)];rfl
 rw [hpr]
 unfold b_spec_l23Image
 dsimp only
 rw [zero_pr h hE hT (k:=k + 1) (by omega) (by omega),bs,rng_of (by omega) (by omega),bs,cs]
 have:=loopO_seq (body:=l2_spec_l23Image g ⟨x,m,T⟩ k ⟨fv (k + 1) y,u⟩) (r:=((prE x (k + 1) (sgG D x m T k y)).x,(prE x (k + 1) (sgG D x m T k y)).v))
  (fun i => ((prE x (k + 1) (A i)).x,(prE x (k + 1) (A i)).v,((k + 1 + i:Nat):Int))) (x.Orders.length - (k + 1)) (fun i hi => by
  have hr:=hyr i hi
  obtain ⟨c1,c2⟩:=conj_prk h hE hT (k:=k) (j:=k + 1 + i) (by omega) (by omega)
  rw [show k + 1 + i - (k + 1) = i from by omega] at c1 c2
  unfold l2_spec_l23Image
  dsimp only
  rw [decide_eq_true (by rw [fv_len h (by omega) hy];omega),cnd_t]
  rw [iter_loop3 (S:=V (suf (exx D x m T) (k + 1))) (fun w => (prE x (k + 1) w).x) (fun w => (prE x (k + 1) w).v) (fun w => mul (suf (exx D x m T) (k + 1)) w ((lvl (exx D x m T) k).cs.getD i [])) (at0 y i) hr.1 (fun w hw => mul_in ok hw c2) (fun w q hw hq => by
   unfold l1_spec_l23Image
   dsimp only
   rw [fv,z_ix (by omega),bs,decide_eq_true hq,cnd_t,rng_of (by omega) (by omega),bs,c1,bs,cs,show (Sl23Pair.mk (prE x (k + 1) w).x (prE x (k + 1) w).v) = prE x (k + 1) w from rfl,hg w _ hw c2,bs,rng_of (by omega) (by omega),bs,cs]) (fun w hw => by
   unfold l1_spec_l23Image
   dsimp only
   rw [fv,z_ix (by omega),bs,decide_eq_false (by omega),cnd_f]) (hI i),bs,rng_of (by omega) (by omega),bs,cs]
  rw [hAe (i + 1),img_take _ _ _ _ (by omega) (by omega),hcg i hi,← hAe]
  rfl) (by
  unfold l2_spec_l23Image
  dsimp only
  rw [decide_eq_false (by rw [fv_len h (by omega) hy];omega),cnd_f,hAn])
 rw [hA0,Nat.add_zero] at this
 rw [this,bs,move_eq h hE hT hk hu,bs]
 obtain ⟨y1,u1,e,hy1,hu1,hpr1,hyl1⟩:=prV h hE hT (k:=k + 1) (by omega) (sgG_V h hE hT hk (y:=y))
 rw [ex_sig h hE hT hk hy hu,hpr1,e,List.take_left' hyl1,List.drop_left' hyl1,prE_app hyl1]
 dsimp only
 rw [add_eq h hE hT hu1 (rowM_row (by omega)),bs]
theorem at2_step {k:Nat} (hk:k < x.Orders.length) {g:Sl23Rules → Int → Sl23Pair → Sl23Pair → Option Sl23Pair} {gi:Sl23Rules → Int → Sl23Pair → Option Sl23Pair} (hg:FAt2 D x m T (k + 1) g) (hi:FIm2 D x m T k gi):FAt2 D x m T k (b_spec_l23At gi g):=by
 intro a b ha hb
 have hn:=hE.hn
 have hl:=ex_len h hE hT
 have hp:=(h.os.2 k hk).pos
 have ok:=ex_ok h hE hT (k:=k + 1) (by omega)
 have ok0:=ex_ok h hE hT (k:=k) (by omega)
 obtain ⟨al,au,rfl,hal,hau,hpa,hall⟩:=prV h hE hT (k:=k) (by omega) ha
 obtain ⟨bl,bu,rfl,hbl,hbu,hpb,hbll⟩:=prV h hE hT (k:=k) (by omega) hb
 rw [hpa,hpb]
 rw [suf_cons (x:=x) hk] at hal hbl
 rw [suf_cons (x:=exx D x m T) (by omega)] at ok0 ⊢
 obtain ⟨a0,a,rfl⟩:∃ a0 a',al = a0 :: a':=by cases al with | nil => exact hal.elim | cons p q => exact ⟨p,q,rfl⟩
 obtain ⟨b0,b,rfl⟩:∃ a0 a',bl = a0 :: a':=by cases bl with | nil => exact hbl.elim | cons p q => exact ⟨p,q,rfl⟩
 obtain ⟨⟨a1,a2⟩,hal⟩:=hal
 obtain ⟨⟨b1,b2⟩,hbl⟩:=hbl
 change a0 < at0 x.Orders k at a2
 change b0 < at0 x.Orders k at b2
 have hal1:=V_len h (by omega) hal
 have hbl1:=V_len h (by omega) hbl
 have hA:=(V_ext h hE hT (x.Orders.length - (k + 1)) (k + 1) (by omega) (a ++ au)).2 ⟨_,_,rfl,hal,hau⟩
 have hB:=(V_ext h hE hT (x.Orders.length - (k + 1)) (k + 1) (by omega) (b ++ bu)).2 ⟨_,_,rfl,hbl,hbu⟩
 have own:∀ u,V (suf x (k + 1)) u → f_spec_l01Own (fv (k + 1) u) = some (fv (k + 1) u):=fun u hu => own_spec (by
  rw [fv_len h (by omega) hu];omega)
 have own':∀ (c:Int) u,V (suf x (k + 1)) u → f_spec_l01Own (fv k (c :: u)) = some (fv k (c :: u)):=fun c u hu => own_spec (by
  have:=V_len h (by omega) hu
  rw [fv,List.length_append,zeros_length,List.length_cons];omega)
 have hsig:∀ u,V (suf (exx D x m T) (k + 1)) u → V (suf (exx D x m T) (k + 1)) (sig (suf (exx D x m T) (k + 1)) (lvl (exx D x m T) k) u):=fun u hu => sig_in ok0 hu
 have hit:V (suf (exx D x m T) (k + 1)) (iter b0.toNat (sig (suf (exx D x m T) (k + 1)) (lvl (exx D x m T) k)) (a ++ au)):=iter_in hsig _ hA
 have ea:(⟨fv (k + 1) a,au⟩:Sl23Pair) = prE x (k + 1) (a ++ au):=(prE_app hal1).symm
 have eb:(⟨fv (k + 1) b,bu⟩:Sl23Pair) = prE x (k + 1) (b ++ bu):=(prE_app hbl1).symm
 unfold b_spec_l23At
 dsimp only
 rw [decide_eq_false (by omega),cnd_f,own' _ _ hal,bs,own' _ _ hbl,bs,z_get,bs,z_get,bs,Int.toNat_natCast,z_set,z_set,z_zero,z_zero]
 have e1:loopO (l1_spec_l23At gi ⟨x,m,T⟩ k ⟨fv k (b0 :: b),bu⟩) (zeros (k + 1) ++ a,au,0) = some ((prE x (k + 1) (iter b0.toNat (sig (suf (exx D x m T) (k + 1)) (lvl (exx D x m T) k)) (a ++ au))).x,(prE x (k + 1) (iter b0.toNat (sig (suf (exx D x m T) (k + 1)) (lvl (exx D x m T) k)) (a ++ au))).v):=by
  have:=iter_loop3 (body:=l1_spec_l23At gi ⟨x,m,T⟩ k ⟨fv k (b0 :: b),bu⟩) (S:=V (suf (exx D x m T) (k + 1))) (fun w => (prE x (k + 1) w).x) (fun w => (prE x (k + 1) w).v) (sig (suf (exx D x m T) (k + 1)) (lvl (exx D x m T) k)) b0 b1 hsig (fun w q hw hq => by
   unfold l1_spec_l23At
   dsimp only
   rw [z_get,bs,decide_eq_true hq,cnd_t,show (Sl23Pair.mk (prE x (k + 1) w).x (prE x (k + 1) w).v) = prE x (k + 1) w from rfl,hi w hw,bs,rng_of (by omega) (by omega),bs,cs]) (fun w hw => by
   unfold l1_spec_l23At
   dsimp only
   rw [z_get,bs,decide_eq_false (by omega),cnd_f]) hA
  rw [← ea] at this
  exact this
 rw [e1,bs,rng_of (by omega) (by omega),bs,cs]
 dsimp only
 rw [show zeros (k + 1) ++ b = fv (k + 1) b from rfl,eb,show (Sl23Pair.mk (prE x (k + 1) (iter b0.toNat (sig (suf (exx D x m T) (k + 1)) (lvl (exx D x m T) k)) (a ++ au))).x (prE x (k + 1) (iter b0.toNat (sig (suf (exx D x m T) (k + 1)) (lvl (exx D x m T) k)) (a ++ au))).v) = prE x (k + 1) (iter b0.toNat (sig (suf (exx D x m T) (k + 1)) (lvl (exx D x m T) k)) (a ++ au)) from rfl,hg _ _ hit hB,bs,bs,bs,rng_of (by omega) (by omega),bs,ixO_at hk,bs]
 have hm:=mul_in ok hit hB
 show _ = some (prE x k (mul _ (a0 :: (a ++ au)) (b0 :: (b ++ bu))))
 rw [mul_cons,exl_o h hE hT hk]
 generalize mul (suf (exx D x m T) (k + 1)) (iter b0.toNat (sig (suf (exx D x m T) (k + 1)) (lvl (exx D x m T) k)) (a ++ au)) (b ++ bu) = r at hm ⊢
 have fin:∀ (c:Int) w,V (suf (exx D x m T) (k + 1)) w → ((f_spec_l01Own (prE x (k + 1) w).x).bind fun r22 => (ixO r22 (k:Int)).bind fun _ => some (Sl23Pair.mk (r22.set k c) (prE x (k + 1) w).v)) = some (prE x k (c :: w)):=fun c w hw => by
  obtain ⟨w1,w2,rfl,h1,h2,h3,h4⟩:=prV h hE hT (k:=k + 1) (by omega) hw
  have e3:prE x k (c :: (w1 ++ w2)) = ⟨fv k (c :: w1),w2⟩:=prE_app (y:=c :: w1) (by rw [List.length_cons];omega)
  rw [h3,e3]
  dsimp only
  rw [own _ h1,bs,fv,← z_zero,z_get,bs,z_set]
 by_cases hge:a0 + b0 ≥ at0 x.Orders k
 ·obtain ⟨p1,p2⟩:=pow_pr h hE hT (k:=k) (j:=k) (Nat.le_refl k) hk
  change V (suf (exx D x m T) (k + 1)) (lvl (exx D x m T) k).w at p2
  rw [decide_eq_true hge,cnd_t,if_pos hge,bs,rng_of (by omega) (by omega),bs,bs,p1,bs]
  have e4:=hg _ _ p2 hm
  rw [show (((exx D x m T).Powers.getD k []).drop (k + 1)) = (lvl (exx D x m T) k).w from rfl,e4,bs]
  exact fin _ _ (mul_in ok p2 hm)
 ·rw [decide_eq_false hge,cnd_f,if_neg hge]
  exact fin _ _ hm
theorem spec2_fuel:∀ (d k:Nat),k + d = x.Orders.length → (∀ q,2 * d + 1 ≤ q → FAt2 D x m T k (fN_spec_l23At q)) ∧ (1 ≤ d → ∀ q,2 * d ≤ q → FIm2 D x m T k (fN_spec_l23Image q))
 | 0,k,hk => by
  refine ⟨fun q hq a b ha hb => ?_,fun h => by omega⟩
  have hn:=hE.hn
  have hp:=hE.m.p.pos
  obtain ⟨q,rfl⟩:∃ m',q = m' + 1:=⟨q - 1,by omega⟩
  rw [suf_tlv h hE hT D k (by omega) (by omega)] at ha hb ⊢
  have ha':=(V_tlv _ _).1 ha
  have hb':=(V_tlv _ _).1 hb
  show b_spec_l23At _ _ ⟨x,m,T⟩ k _ _ = _
  unfold b_spec_l23At
  have e:∀ w:Vec,prE x k w = ⟨zeros k,w⟩:=fun w => by
   rw [prE,show x.Orders.length - k = 0 from by omega,List.take_zero,List.drop_zero,fv,List.append_nil]
  rw [e,e,e]
  dsimp only
  rw [decide_eq_true (by omega),cnd_t,lenOk_nat (by omega),bs,add_eq h hE hT ha' hb',bs,tlv_mul (by omega) D _ _ ha' hb',show x.Orders.length = k from by omega]
  rfl
 | d + 1,k,hk => by
  obtain ⟨h1,h2⟩:=spec2_fuel d (k + 1) (by omega)
  have hI:∀ q,2 * (d + 1) ≤ q → FIm2 D x m T k (fN_spec_l23Image q):=fun q hq => by
   obtain ⟨q,rfl⟩:∃ m',q = m' + 1:=⟨q - 1,by omega⟩
   exact image2_step h hE hT (by omega) (h1 q (by omega))
  refine ⟨fun q hq => ?_,fun _ => hI⟩
  obtain ⟨q,rfl⟩:∃ m',q = m' + 1:=⟨q - 1,by omega⟩
  exact at2_step h hE hT (by omega) (h1 q (by omega)) (hI q (by omega))
theorem spec2_At {k:Nat} (hk:k ≤ x.Orders.length):FAt2 D x m T k f_spec_l23At:=fun a b ha hb =>
 fuelO_of (2 * (x.Orders.length - k) + 1) fun q hq => (spec2_fuel h hE hT (x.Orders.length - k) k (by omega)).1 q hq a b ha hb
theorem spec2_Image {k:Nat} (hk:k < x.Orders.length):FIm2 D x m T k f_spec_l23Image:=fun v hv =>
 fuelO_of (2 * (x.Orders.length - k)) fun q hq => (spec2_fuel h hE hT (x.Orders.length - k) k (by omega)).2 (by omega) q hq v hv
end
end Go.Pl

namespace Go.Pl
open Go Go.Ab Go.Wk Go.Pc
structure GR (p:Int) (D:Nat) (L:Mx) (N:Nat) (C:Prop):Prop where
 len:L.length ≤ N
 row:∀ r ∈ L,Row p D r
 iff:(∀ r ∈ L,r = zeros D) ↔ C
theorem GR.nil {p:Int} {D N:Nat}:GR p D [] N True:=⟨by simp,by simp,by simp⟩
theorem GR.app {p:Int} {D N M:Nat} {L L':Mx} {C C':Prop} (h:GR p D L N C) (h':GR p D L' M C'):GR p D (L ++ L') (N + M) (C ∧ C'):=by
 refine ⟨by have:=h.len;have:=h'.len;rw [List.length_append];omega,fun r hr => ?_,?_⟩
 ·rcases List.mem_append.1 hr with g | g
  ·exact h.row r g
  ·exact h'.row r g
 ·rw [← h.iff,← h'.iff]
  exact ⟨fun g => ⟨fun r hr => g r (List.mem_append_left _ hr),fun r hr => g r (List.mem_append_right _ hr)⟩,fun g r hr => (List.mem_append.1 hr).elim (g.1 r) (g.2 r)⟩
theorem GR.one {p:Int} {D:Nat} {r:List Int} {C:Prop} (hr:Row p D r) (h:r = zeros D ↔ C):GR p D [r] 1 C :=
 ⟨by simp,fun q hq => by rw [List.mem_singleton.1 hq];exact hr,by rw [← h];exact ⟨fun g => g r (by simp),fun g q hq => by rw [List.mem_singleton.1 hq];exact g⟩⟩
theorem GR.to {p:Int} {D N M:Nat} {L:Mx} {C C':Prop} (h:GR p D L N C) (hN:N ≤ M) (hc:C ↔ C'):GR p D L M C':=⟨by have:=h.len;omega,h.row,h.iff.trans hc⟩
def c1E (e:SPr) (k j:Nat):Prop:=pw (mul (suf e (k + 1))) (zeros (suf e (k + 1)).length) ((lvl e k).cs.getD (j - (k + 1)) []) (at0 e.Orders j).toNat = sig (suf e (k + 1)) (lvl e k) ((e.Powers.getD j []).drop (k + 1))
def c2E (e:SPr) (k i j:Nat):Prop:=mul (suf e (k + 1)) ((lvl e k).cs.getD (j - (k + 1)) []) ((lvl e k).cs.getD (i - (k + 1)) []) = mul (suf e (k + 1)) ((lvl e k).cs.getD (i - (k + 1)) []) (sig (suf e (k + 1)) (lvl e k) (((e.Conjugates.getD i []).getD (j - (i + 1)) []).drop (k + 1)))
def c4E (e:SPr) (k j:Nat):Prop:=mul (suf e (k + 1)) (lvl e k).w (iter (lvl e k).o.toNat (sig (suf e (k + 1)) (lvl e k)) (unit (e.Orders.length - (k + 1)) (j - (k + 1)))) = mul (suf e (k + 1)) (unit (e.Orders.length - (k + 1)) (j - (k + 1))) (lvl e k).w
section
variable {D:Nat} {x:SPr} {m:SModule} {T:Mx} (h:Pres x) (hE:ExOk x.Orders.length D x m T) (hT:∀ i,i < T.length → Row m.Prime D (T.getD i []))
 include h hE hT
theorem tk_mul {k:Nat} (hk:k ≤ x.Orders.length) {a b:Vec} (ha:V (suf (exx D x m T) k) a) (hb:V (suf (exx D x m T) k) b):(mul (suf (exx D x m T) k) a b).take (x.Orders.length - k) = mul (suf x k) (a.take (x.Orders.length - k)) (b.take (x.Orders.length - k)):=ex_proj h hE hT _ k (by omega) a b ha hb
theorem tk_sig {k:Nat} (hk:k < x.Orders.length) {v:Vec} (hv:V (suf (exx D x m T) (k + 1)) v):(sig (suf (exx D x m T) (k + 1)) (lvl (exx D x m T) k) v).take (x.Orders.length - (k + 1)) = sig (suf x (k + 1)) (lvl x k) (v.take (x.Orders.length - (k + 1))) :=
 sig_proj h hE hT hk (ex_proj h hE hT _ (k + 1) (by omega)) hv
theorem esig_V {k:Nat} (hk:k < x.Orders.length) {v:Vec} (hv:V (suf (exx D x m T) (k + 1)) v):V (suf (exx D x m T) (k + 1)) (sig (suf (exx D x m T) (k + 1)) (lvl (exx D x m T) k) v):=sig_V (ex_pres h hE hT) (by rw [ex_len h hE hT];omega) hv
theorem tk_iter {k:Nat} (hk:k < x.Orders.length):∀ (q:Nat) {v:Vec},V (suf (exx D x m T) (k + 1)) v → (iter q (sig (suf (exx D x m T) (k + 1)) (lvl (exx D x m T) k)) v).take (x.Orders.length - (k + 1)) = iter q (sig (suf x (k + 1)) (lvl x k)) (v.take (x.Orders.length - (k + 1)))
 | 0,_,_ => rfl
 | q + 1,v,hv => by
  have:=tk_iter hk q (esig_V h hE hT hk hv)
  rw [tk_sig h hE hT hk hv] at this
  exact this
theorem tk_zero {k:Nat} (hk:k ≤ x.Orders.length):(zeros (suf (exx D x m T) k).length).take (x.Orders.length - k) = zeros (suf x k).length:=by
 rw [zs_len h hE hT hk,List.take_left' (zeros_length _),suf_length]
theorem tk_pw {k:Nat} (hk:k ≤ x.Orders.length) {c:Vec} (hc:V (suf (exx D x m T) k) c) (q:Nat):(pw (mul (suf (exx D x m T) k)) (zeros (suf (exx D x m T) k).length) c q).take (x.Orders.length - k) = pw (mul (suf x k)) (zeros (suf x k).length) (c.take (x.Orders.length - k)) q:=by
 have ok:=ex_ok h hE hT (k:=k) (by omega)
 have:=img_proj (S:=V (suf (exx D x m T) k)) (n:=mul (suf x k)) (·.take (x.Orders.length - k)) (fun a b => mul_in ok) (fun a b => tk_mul h hE hT hk) [c] [(q:Int)] (zeros (suf (exx D x m T) k).length) (fun a ha => by rw [List.mem_singleton.1 ha];exact hc) (V_zeros ok)
 simp only [List.map_cons,List.map_nil,img,Int.toNat_natCast] at this
 rw [tk_zero h hE hT hk] at this
 exact this
theorem gap_eq {k:Nat} (hk:k ≤ x.Orders.length) {a b:Vec} (ha:V (suf (exx D x m T) k) a) (hb:V (suf (exx D x m T) k) b) (e:a.take (x.Orders.length - k) = b.take (x.Orders.length - k)):∃ r,f_spec_l23Gap ⟨x,m,T⟩ (prE x k a) (prE x k b) = some r ∧ Row m.Prime D r ∧ (r = zeros D ↔ a = b):=by
 have h7:=hE.m.p.pos
 have h3:=hE.m.d3
 obtain ⟨y,u,rfl,hy,hu,hpr,hyl⟩:=prV h hE hT hk ha
 obtain ⟨z,v,rfl,hz,hv,hpr2,hzl⟩:=prV h hE hT hk hb
 rw [List.take_left' hyl,List.take_left' hzl] at e
 subst e
 unfold f_spec_l23Gap
 rw [hpr,hpr2]
 dsimp only
 rw [rng_of (by omega) (by omega),bs,l02Add_spec hE.m.p hu hv (by omega) (by omega),bs,addM_minus]
 refine ⟨_,rfl,addM_row hE.m.p,?_⟩
 rw [List.append_cancel_left_eq,← addM_zero (p:=m.Prime) hu hv]
 constructor
 ·intro g j hj;rw [g,at0_zeros]
 ·intro g
  rw [mkv_eq (addM_len (p:=m.Prime) (r:=u) (s:=v) (k:=-1)),show zeros D = mkv D fun _ => 0 from mkv_zero D]
  exact mkv_congr fun j hj => g j hj
section
variable {k:Nat} (hk:k < x.Orders.length) (hc:LC x k)
 include hk
theorem tk_cs {j:Nat} (h1:k + 1 ≤ j) (h2:j < x.Orders.length):((lvl (exx D x m T) k).cs.getD (j - (k + 1)) []).take (x.Orders.length - (k + 1)) = (lvl x k).cs.getD (j - (k + 1)) []:=by
 rw [ecs_1 h hE hT hk h1 h2,List.take_left' (V_len h (by omega) (conj_at' h hk h1 h2).2.2)]
theorem tk_pow {j:Nat} (h1:k ≤ j) (h2:j < x.Orders.length):(((exx D x m T).Powers.getD j []).drop (k + 1)).take (x.Orders.length - (k + 1)) = (x.Powers.getD j []).drop (k + 1):=by
 have t1:=(h.tl j h2).1.1.1
 rw [epow_1 h hE hT h1 h2,List.take_left' (by rw [List.length_drop];omega)]
theorem tk_con {i j:Nat} (h1:k + 1 ≤ i) (h2:i < j) (h3:j < x.Orders.length):((((exx D x m T).Conjugates.getD i []).getD (j - (i + 1)) []).drop (k + 1)).take (x.Orders.length - (k + 1)) = ((x.Conjugates.getD i []).getD (j - (i + 1)) []).drop (k + 1):=by
 rw [econ_1 h hE hT (by omega) h2 h3,List.take_left' (V_len h (by omega) (cc_at h hk h1 h2 h3).2.2)]
theorem unit_e {j:Nat} (h1:k + 1 ≤ j) (h2:j < x.Orders.length):unit ((exx D x m T).Orders.length - (k + 1)) (j - (k + 1)) = unit (x.Orders.length - (k + 1)) (j - (k + 1)) ++ zeros D:=by
 rw [ex_len h hE hT,unit_eq (by omega),unit_eq (by omega),List.append_assoc,List.cons_append]
 simp only [zeros,List.replicate_append_replicate]
 rw [show x.Orders.length + D - (k + 1) - (j - (k + 1) + 1) = x.Orders.length - (k + 1) - (j - (k + 1) + 1) + D from by omega]
 include hc
theorem lev1 {j:Nat} (h1:k + 1 ≤ j) (h2:j < x.Orders.length) {L0 L:Mx} {N:Nat} {C:Prop} (hL:GR m.Prime D L N C) (hN:N ≤ 1000) {f:Mx → Option (Mx × Int ⊕ Mx)}:∃ L',((f_spec_l23Zero ⟨x,m,T⟩).bind fun r2 =>
  (loopO (l1_spec_l23Level ⟨x,m,T⟩ (k:Int) (L0,(j:Int))) (r2.x,r2.v,0)).bind fun r8 =>
  (f_spec_l23Power ⟨x,m,T⟩ (j:Int)).bind fun r9 =>
  (f_spec_l23Image ⟨x,m,T⟩ (k:Int) r9).bind fun r10 =>
  (f_spec_l23Gap ⟨x,m,T⟩ (Sl23Pair.mk r8.1 r8.2) r10).bind fun r11 =>
  (appO L [r11]).bind f) = f L' ∧ GR m.Prime D L' (N + 1) (C ∧ c1E (exx D x m T) k j):=by
 have ok:=ex_ok h hE hT (k:=k + 1) (by omega)
 have hn:=hE.hn
 have hp:=(h.os.2 j h2).pos
 have hz:=V_zeros ok
 obtain ⟨c1,c2⟩:=conj_prk h hE hT (k:=k) (j:=j) (by omega) h2
 obtain ⟨p1,p2⟩:=pow_pr h hE hT (k:=k) (j:=j) (by omega) h2
 have hA:=spec2_At h hE hT (k:=k + 1) (by omega)
 have hI:=spec2_Image h hE hT hk
 have hlp:loopO (l1_spec_l23Level ⟨x,m,T⟩ (k:Int) (L0,(j:Int))) ((prE x (k + 1) (zeros (suf (exx D x m T) (k + 1)).length)).x,(prE x (k + 1) (zeros (suf (exx D x m T) (k + 1)).length)).v,0) = some ((prE x (k + 1) (pw (mul (suf (exx D x m T) (k + 1))) (zeros (suf (exx D x m T) (k + 1)).length) ((lvl (exx D x m T) k).cs.getD (j - (k + 1)) []) (at0 x.Orders j).toNat)).x,(prE x (k + 1) (pw (mul (suf (exx D x m T) (k + 1))) (zeros (suf (exx D x m T) (k + 1)).length) ((lvl (exx D x m T) k).cs.getD (j - (k + 1)) []) (at0 x.Orders j).toNat)).v) :=
  iter_loop3 (S:=V (suf (exx D x m T) (k + 1))) (fun w => (prE x (k + 1) w).x) (fun w => (prE x (k + 1) w).v) (fun w => mul (suf (exx D x m T) (k + 1)) w ((lvl (exx D x m T) k).cs.getD (j - (k + 1)) [])) (at0 x.Orders j) (by omega) (fun w hw => mul_in ok hw c2) (fun w q hw hq => by
   unfold l1_spec_l23Level
   dsimp only
   rw [ixO_at h2,bs,decide_eq_true hq,cnd_t,rng_of (by omega) (by omega),bs,c1,bs,cs,show (Sl23Pair.mk (prE x (k + 1) w).x (prE x (k + 1) w).v) = prE x (k + 1) w from rfl,hA w _ hw c2,bs,rng_of (by omega) (by omega),bs,cs]) (fun w hw => by
   unfold l1_spec_l23Level
   dsimp only
   rw [ixO_at h2,bs,decide_eq_false (by omega),cnd_f]) hz
 have hpw:V (suf (exx D x m T) (k + 1)) (pw (mul (suf (exx D x m T) (k + 1))) (zeros (suf (exx D x m T) (k + 1)).length) ((lvl (exx D x m T) k).cs.getD (j - (k + 1)) []) (at0 x.Orders j).toNat):=iter_in (fun w hw => mul_in ok hw c2) _ hz
 obtain ⟨r,r1,r2,r3⟩:=gap_eq h hE hT (k:=k + 1) (by omega) hpw (esig_V h hE hT hk p2) (by
  rw [tk_pw h hE hT (by omega) c2,tk_sig h hE hT hk p2,tk_cs h hE hT hk h1 h2,tk_pow h hE hT hk (by omega) h2]
  exact hc.c1 j h1 h2)
 have hll:=hL.len
 refine ⟨L ++ [r],?_,hL.app (GR.one r2 (r3.trans ?_))⟩
 ·rw [zero_pr h hE hT (k:=k + 1) (by omega) (by omega),bs,hlp,bs,p1,bs,hI _ p2,bs]
  dsimp only
  rw [r1,bs,appO_of (by simp;omega),bs]
 ·unfold c1E;rw [ex_ord1 h hE hT h2]
theorem lev2 {j:Nat} (h1:k + 1 ≤ j) (h2:j < x.Orders.length) {L0 L:Mx} {N:Nat} {C:Prop} (hL:GR m.Prime D L N C) (hN:N ≤ 1000):∃ L',loopO (l2_spec_l23Level ⟨x,m,T⟩ (k:Int) (L0,(j:Int))) (L,((j + 1:Nat):Int)) = some L' ∧ GR m.Prime D L' (N + (x.Orders.length - (j + 1))) (C ∧ ∀ j2,j + 1 ≤ j2 → j2 < x.Orders.length → c2E (exx D x m T) k j j2):=by
 have ok:=ex_ok h hE hT (k:=k + 1) (by omega)
 have hn:=hE.hn
 have hA:=spec2_At h hE hT (k:=k + 1) (by omega)
 have hI:=spec2_Image h hE hT hk
 refine loopO_tot (fun i (s:Mx × Int) => s.2 = ((j + 1 + i:Nat):Int) ∧ GR m.Prime D s.1 (N + i) (C ∧ ∀ j2,j + 1 ≤ j2 → j2 < j + 1 + i → c2E (exx D x m T) k j j2)) (x.Orders.length - (j + 1)) (fun i s hi ⟨hs,hg⟩ => ?_) (fun s ⟨hs,hg⟩ => ?_) ⟨rfl,hL.to (by omega) ⟨fun g => ⟨g,fun j2 a b => by omega⟩,fun g => g.1⟩⟩
 ·left
  obtain ⟨L1,s2⟩:=s
  dsimp only at hs hg
  subst hs
  have g2:j + 1 + i < x.Orders.length:=by omega
  obtain ⟨a1,a2⟩:=conj_prk h hE hT (k:=k) (j:=j) (by omega) h2
  obtain ⟨b1,b2⟩:=conj_prk h hE hT (k:=k) (j:=j + 1 + i) (by omega) g2
  obtain ⟨d1,d2⟩:=conj_pr h hE hT (k:=k) (i:=j) (j:=j + 1 + i) (by omega) (by omega) g2
  have hs:=esig_V h hE hT hk d2
  obtain ⟨r,r1,r2,r3⟩:=gap_eq h hE hT (k:=k + 1) (by omega) (mul_in ok b2 a2) (mul_in ok a2 hs) (by
   rw [tk_mul h hE hT (by omega) b2 a2,tk_mul h hE hT (by omega) a2 hs,tk_sig h hE hT hk d2,tk_cs h hE hT hk h1 h2,tk_cs h hE hT hk (by omega) g2,tk_con h hE hT hk h1 (by omega) g2]
   exact hc.c2 j h1 h2 (j + 1 + i) (by omega) g2)
  have hll:=hg.len
  refine ⟨(L1 ++ [r],((j + 1 + i + 1:Nat):Int)),?_,rfl,(hg.app (GR.one r2 r3)).to (by omega) ?_⟩
  ·unfold l2_spec_l23Level
   dsimp only
   rw [decide_eq_true (by omega),cnd_t,a1,bs,b1,bs,d1,bs,hI _ d2,bs,rng_of (by omega) (by omega),bs,cs,hA _ _ b2 a2,bs,bs,hA _ _ a2 hs,bs,r1,bs,appO_of (by simp;omega),bs,rng_of (by omega) (by omega),bs,cs]
  ·constructor
   ·rintro ⟨⟨g1,g3⟩,g4⟩
    refine ⟨g1,fun j2 e1 e2 => ?_⟩
    rcases Nat.lt_or_ge j2 (j + 1 + i) with e | e
    ·exact g3 j2 e1 e
    ·obtain rfl:j2 = j + 1 + i:=by omega
     exact g4
   ·rintro ⟨g1,g3⟩
    exact ⟨⟨g1,fun j2 e1 e2 => g3 j2 e1 (by omega)⟩,g3 (j + 1 + i) (by omega) (by omega)⟩
 ·obtain ⟨L1,s2⟩:=s
  dsimp only at hs hg
  subst hs
  refine ⟨L1,?_,hg.to (Nat.le_refl _) ?_⟩
  ·unfold l2_spec_l23Level
   dsimp only
   rw [decide_eq_false (by omega),cnd_f]
  ·rw [show j + 1 + (x.Orders.length - (j + 1)) = x.Orders.length from by omega]
theorem lev3:∃ L',loopO (l3_spec_l23Level ⟨x,m,T⟩ (k:Int)) ([],((k + 1:Nat):Int)) = some L' ∧ GR m.Prime D L' 100 (∀ j,k + 1 ≤ j → j < x.Orders.length → c1E (exx D x m T) k j ∧ ∀ j2,j + 1 ≤ j2 → j2 < x.Orders.length → c2E (exx D x m T) k j j2):=by
 have hn:=hE.hn
 refine loopO_tot (fun i (s:Mx × Int) => s.2 = ((k + 1 + i:Nat):Int) ∧ GR m.Prime D s.1 (7 * i) (∀ j,k + 1 ≤ j → j < k + 1 + i → c1E (exx D x m T) k j ∧ ∀ j2,j + 1 ≤ j2 → j2 < x.Orders.length → c2E (exx D x m T) k j j2)) (x.Orders.length - (k + 1)) (fun i s hi ⟨hs,hg⟩ => ?_) (fun s ⟨hs,hg⟩ => ?_) ⟨rfl,(GR.nil (N:=0)).to (by omega) ⟨fun _ j a b => by omega,fun _ => trivial⟩⟩
 ·left
  obtain ⟨L1,s2⟩:=s
  dsimp only at hs hg
  subst hs
  have g2:k + 1 + i < x.Orders.length:=by omega
  obtain ⟨L2,e2,hg2⟩:=lev1 h hE hT hk hc (j:=k + 1 + i) (by omega) g2 (L0:=L1) hg (by omega) (f:=fun v12 => (rng (((k + 1 + i:Nat):Int) + 1)).bind fun v13 =>
   (loopO (l2_spec_l23Level ⟨x,m,T⟩ (k:Int) (L1,((k + 1 + i:Nat):Int))) (v12,v13)).bind fun r25 =>
   (rng (((k + 1 + i:Nat):Int) + 1)).bind fun v26 => some (.inl (r25,v26)))
  obtain ⟨L3,e3,hg3⟩:=lev2 h hE hT hk hc (j:=k + 1 + i) (by omega) g2 (L0:=L1) hg2 (by omega)
  refine ⟨(L3,((k + 1 + i + 1:Nat):Int)),?_,rfl,hg3.to (by omega) ?_⟩
  ·unfold l3_spec_l23Level
   dsimp only
   rw [decide_eq_true (by omega),cnd_t,e2,rng_of (by omega) (by omega),bs,cs,e3,bs,bs]
  ·constructor
   ·rintro ⟨⟨g1,g3⟩,g4⟩ j e1 e2
    rcases Nat.lt_or_ge j (k + 1 + i) with e | e
    ·exact g1 j e1 e
    ·obtain rfl:j = k + 1 + i:=by omega
     exact ⟨g3,g4⟩
   ·intro g
    have:=g (k + 1 + i) (by omega) (by omega)
    exact ⟨⟨fun j e1 e2 => g j e1 (by omega),this.1⟩,this.2⟩
 ·obtain ⟨L1,s2⟩:=s
  dsimp only at hs hg
  subst hs
  refine ⟨L1,?_,hg.to (by omega) ?_⟩
  ·unfold l3_spec_l23Level
   dsimp only
   rw [decide_eq_false (by omega),cnd_f]
  ·rw [show k + 1 + (x.Orders.length - (k + 1)) = x.Orders.length from by omega]
theorem zero_set {j:Nat} (h1:k + 1 ≤ j) (h2:j < x.Orders.length):∃ r,f_spec_l23Zero ⟨x,m,T⟩ = some r ∧ ixO r.x (j:Int) = some 0 ∧ r.x.set j 1 = (prE x (k + 1) (unit (x.Orders.length - (k + 1)) (j - (k + 1)) ++ zeros D)).x ∧ r.v = (prE x (k + 1) (unit (x.Orders.length - (k + 1)) (j - (k + 1)) ++ zeros D)).v:=by
 have _:=hc
 have hn:=hE.hn
 have hul:(unit (x.Orders.length - (k + 1)) (j - (k + 1))).length = x.Orders.length - (k + 1):=by rw [unit_mkv,mkv_length]
 refine ⟨_,zero_pr h hE hT (k:=k + 1) (by omega) (by omega),?_,?_,?_⟩
 ·rw [zs_len h hE hT (by omega),prE_app (zeros_length _)]
  dsimp only
  simp only [fv,zeros,List.replicate_append_replicate]
  rw [ixO_nat,List.getElem?_replicate,if_pos (by omega)]
 ·rw [zs_len h hE hT (by omega),prE_app (zeros_length _),prE_app hul]
  dsimp only
  have e1:fv (k + 1) (zeros (x.Orders.length - (k + 1))) = zeros j ++ 0 :: zeros (x.Orders.length - (k + 1) - (j - (k + 1) + 1)):=by
   simp only [fv,zeros]
   rw [← List.replicate_succ,List.replicate_append_replicate,List.replicate_append_replicate]
   congr 1;omega
  rw [e1,z_set,fv,unit_eq (by omega),← List.append_assoc]
  simp only [zeros,List.replicate_append_replicate]
  rw [show k + 1 + (j - (k + 1)) = j from by omega]
 ·rw [zs_len h hE hT (by omega),prE_app (zeros_length _),prE_app hul]
theorem lev5 {L:Mx} {N:Nat} {C:Prop} (hL:GR m.Prime D L N C) (hN:N ≤ 1000):∃ L',loopO (l5_spec_l23Level ⟨x,m,T⟩ (k:Int) (prE x (k + 1) (((exx D x m T).Powers.getD k []).drop (k + 1)))) (L,((k + 1:Nat):Int)) = some L' ∧ GR m.Prime D L' (N + (x.Orders.length - (k + 1))) (C ∧ ∀ j,k + 1 ≤ j → j < x.Orders.length → c4E (exx D x m T) k j):=by
 have hn:=hE.hn
 have hpk:=(h.os.2 k hk).pos
 have h7:=hE.m.p.pos
 have ok:=ex_ok h hE hT (k:=k + 1) (by omega)
 have hA:=spec2_At h hE hT (k:=k + 1) (by omega)
 have hI:=spec2_Image h hE hT hk
 obtain ⟨p1,p2⟩:=pow_pr h hE hT (k:=k) (j:=k) (Nat.le_refl k) hk
 change V (suf (exx D x m T) (k + 1)) (lvl (exx D x m T) k).w at p2
 change ∃ L',loopO (l5_spec_l23Level ⟨x,m,T⟩ (k:Int) (prE x (k + 1) (lvl (exx D x m T) k).w)) (L,((k + 1:Nat):Int)) = some L' ∧ _
 have htw:(lvl (exx D x m T) k).w.take (x.Orders.length - (k + 1)) = (lvl x k).w:=tk_pow h hE hT hk (Nat.le_refl k) hk
 have ho:(lvl (exx D x m T) k).o = at0 x.Orders k:=exl_o h hE hT hk
 refine loopO_tot (fun i (s:Mx × Int) => s.2 = ((k + 1 + i:Nat):Int) ∧ GR m.Prime D s.1 (N + i) (C ∧ ∀ j,k + 1 ≤ j → j < k + 1 + i → c4E (exx D x m T) k j)) (x.Orders.length - (k + 1)) (fun i s hi ⟨hs,hg⟩ => ?_) (fun s ⟨hs,hg⟩ => ?_) ⟨rfl,hL.to (by omega) ⟨fun g => ⟨g,fun j2 a b => by omega⟩,fun g => g.1⟩⟩
 ·left
  obtain ⟨L1,s2⟩:=s
  dsimp only at hs hg
  subst hs
  have g2:k + 1 + i < x.Orders.length:=by omega
  obtain ⟨r33,z1,z2,z3,z4⟩:=zero_set h hE hT hk hc (j:=k + 1 + i) (by omega) g2
  have hue:=unit_e h hE hT hk (j:=k + 1 + i) (by omega) g2
  have hux:V (suf x (k + 1)) (unit (x.Orders.length - (k + 1)) (k + 1 + i - (k + 1))):=by
   have:=V_unit (h.okAt (k:=k + 1) (by omega)) (j:=k + 1 + i - (k + 1)) (by rw [suf_length];omega)
   rwa [suf_length] at this
  have hul:=V_len h (by omega) hux
  have huV:V (suf (exx D x m T) (k + 1)) (unit (x.Orders.length - (k + 1)) (k + 1 + i - (k + 1)) ++ zeros D):=(V_ext h hE hT (x.Orders.length - (k + 1)) (k + 1) (by omega) _).2 ⟨_,_,rfl,hux,zero_row (by omega)⟩
  have hit:V (suf (exx D x m T) (k + 1)) (iter (at0 x.Orders k).toNat (sig (suf (exx D x m T) (k + 1)) (lvl (exx D x m T) k)) (unit (x.Orders.length - (k + 1)) (k + 1 + i - (k + 1)) ++ zeros D)):=iter_in (fun w hw => esig_V h hE hT hk hw) _ huV
  have hlp:loopO (l4_spec_l23Level ⟨x,m,T⟩ (k:Int)) ((prE x (k + 1) (unit (x.Orders.length - (k + 1)) (k + 1 + i - (k + 1)) ++ zeros D)).x,(prE x (k + 1) (unit (x.Orders.length - (k + 1)) (k + 1 + i - (k + 1)) ++ zeros D)).v,0) = some ((prE x (k + 1) (iter (at0 x.Orders k).toNat (sig (suf (exx D x m T) (k + 1)) (lvl (exx D x m T) k)) (unit (x.Orders.length - (k + 1)) (k + 1 + i - (k + 1)) ++ zeros D))).x,(prE x (k + 1) (iter (at0 x.Orders k).toNat (sig (suf (exx D x m T) (k + 1)) (lvl (exx D x m T) k)) (unit (x.Orders.length - (k + 1)) (k + 1 + i - (k + 1)) ++ zeros D))).v) :=
   iter_loop3 (S:=V (suf (exx D x m T) (k + 1))) (fun w => (prE x (k + 1) w).x) (fun w => (prE x (k + 1) w).v) (sig (suf (exx D x m T) (k + 1)) (lvl (exx D x m T) k)) (at0 x.Orders k) (by omega) (fun w hw => esig_V h hE hT hk hw) (fun w q hw hq => by
    unfold l4_spec_l23Level
    dsimp only
    rw [ixO_at hk,bs,decide_eq_true hq,cnd_t,show (Sl23Pair.mk (prE x (k + 1) w).x (prE x (k + 1) w).v) = prE x (k + 1) w from rfl,hI w hw,bs,rng_of (by omega) (by omega),bs,cs]) (fun w hw => by
    unfold l4_spec_l23Level
    dsimp only
    rw [ixO_at hk,bs,decide_eq_false (by omega),cnd_f]) huV
  obtain ⟨r,r1,r2,r3⟩:=gap_eq h hE hT (k:=k + 1) (by omega) (mul_in ok p2 hit) (mul_in ok huV p2) (by
   rw [tk_mul h hE hT (by omega) p2 hit,tk_mul h hE hT (by omega) huV p2,tk_iter h hE hT hk _ huV,htw,List.take_left' hul]
   exact hc.c4 (k + 1 + i) (by omega) g2)
  have hll:=hg.len
  refine ⟨(L1 ++ [r],((k + 1 + i + 1:Nat):Int)),?_,rfl,(hg.app (GR.one r2 r3)).to (by omega) ?_⟩
  ·unfold l5_spec_l23Level
   dsimp only
   rw [decide_eq_true (by omega),cnd_t,z1,bs,z2,bs,Int.toNat_natCast,z3,z4,hlp,bs,rng_of (by omega) (by omega),bs,cs]
   dsimp only
   have e1:=hA _ _ p2 hit
   have e2:=hA _ _ huV p2
   rw [show ∀ w,(Sl23Pair.mk (prE x (k + 1) w).x (prE x (k + 1) w).v) = prE x (k + 1) w from fun _ => rfl,show ∀ w,(Sl23Pair.mk (prE x (k + 1) w).x (prE x (k + 1) w).v) = prE x (k + 1) w from fun _ => rfl,e1,bs,bs,e2,bs,r1,bs,appO_of (by simp;omega),bs,rng_of (by omega) (by omega),bs,cs]
  ·have e4:c4E (exx D x m T) k (k + 1 + i) ↔ mul (suf (exx D x m T) (k + 1)) (lvl (exx D x m T) k).w (iter (at0 x.Orders k).toNat (sig (suf (exx D x m T) (k + 1)) (lvl (exx D x m T) k)) (unit (x.Orders.length - (k + 1)) (k + 1 + i - (k + 1)) ++ zeros D)) = mul (suf (exx D x m T) (k + 1)) (unit (x.Orders.length - (k + 1)) (k + 1 + i - (k + 1)) ++ zeros D) (lvl (exx D x m T) k).w:=by
    unfold c4E;rw [hue,ho]
   rw [← e4]
   constructor
   ·rintro ⟨⟨g1,g3⟩,g4⟩
    refine ⟨g1,fun j2 e1 e2 => ?_⟩
    rcases Nat.lt_or_ge j2 (k + 1 + i) with e | e
    ·exact g3 j2 e1 e
    ·obtain rfl:j2 = k + 1 + i:=by omega
     exact g4
   ·rintro ⟨g1,g3⟩
    exact ⟨⟨g1,fun j2 e1 e2 => g3 j2 e1 (by omega)⟩,g3 (k + 1 + i) (by omega) (by omega)⟩
 ·obtain ⟨L1,s2⟩:=s
  dsimp only at hs hg
  subst hs
  refine ⟨L1,?_,hg.to (Nat.le_refl _) ?_⟩
  ·unfold l5_spec_l23Level
   dsimp only
   rw [decide_eq_false (by omega),cnd_f]
  ·rw [show k + 1 + (x.Orders.length - (k + 1)) = x.Orders.length from by omega]
theorem level2:∃ L,f_spec_l23Level ⟨x,m,T⟩ (k:Int) = some L ∧ GR m.Prime D L 120 (LCn x (exx D x m T) k):=by
 have hn:=hE.hn
 have hI:=spec2_Image h hE hT hk
 obtain ⟨p1,p2⟩:=pow_pr h hE hT (k:=k) (j:=k) (Nat.le_refl k) hk
 obtain ⟨L1,e1,g1⟩:=lev3 h hE hT hk hc
 have hs:=esig_V h hE hT hk p2
 obtain ⟨r,r1,r2,r3⟩:=gap_eq h hE hT (k:=k + 1) (by omega) hs p2 (by
  rw [tk_sig h hE hT hk p2,tk_pow h hE hT hk (Nat.le_refl k) hk]
  exact hc.c3)
 obtain ⟨L2,e2,g2⟩:=lev5 h hE hT hk hc (g1.app (GR.one r2 r3)) (by omega)
 have hll:=g1.len
 refine ⟨L2,?_,g2.to (by omega) ?_⟩
 ·unfold f_spec_l23Level
  rw [rng_of (by omega) (by omega),bs,cs,e1,bs,p1,bs,hI _ p2,bs,r1,bs,appO_of (by simp;omega),bs,bs,e2,bs]
 ·constructor
  ·rintro ⟨⟨a1,a2⟩,a3⟩
   exact ⟨fun j b1 b2 => (a1 j b1 b2).1,fun i b1 b2 j b3 b4 => (a1 i b1 b2).2 j b3 b4,a2,a3⟩
  ·intro a
   exact ⟨⟨fun j b1 b2 => ⟨a.c1 j b1 b2,fun j2 b3 b4 => a.c2 j b1 b2 j2 b3 b4⟩,a.c3⟩,a.c4⟩
end
theorem is_spec (hx:Cons (suf x 0)) (hr:RelM x m D):IsB (f_spec_l23Is x m T) (Cons (suf (exx D x m T) 0)):=by
 have hn:=hE.hn
 have h3:=hE.m.d3
 have hlc:∀ k,k < x.Orders.length → LC x k:=fun k hk => ((cons_iff h hk).1 (cons_from hx k)).2
 have hgaps:∃ L,f_spec_l23Gaps ⟨x,m,T⟩ = some L ∧ GR m.Prime D L 1000 (∀ k,k < x.Orders.length → LCn x (exx D x m T) k):=by
  obtain ⟨L,e,g⟩:=loopO_tot (body:=l1_spec_l23Gaps ⟨x,m,T⟩) (Q:=fun L => GR m.Prime D L 1000 (∀ k,k < x.Orders.length → LCn x (exx D x m T) k)) (fun i (s:Mx × Int) => s.2 = (i:Int) ∧ GR m.Prime D s.1 (120 * i) (∀ k,k < i → LCn x (exx D x m T) k)) x.Orders.length (fun i s hi ⟨hs,hg⟩ => by
   left
   obtain ⟨L1,s2⟩:=s
   dsimp only at hs hg
   subst hs
   obtain ⟨L2,e2,g2⟩:=level2 h hE hT hi (hlc i hi)
   have l1:=hg.len
   have l2:=g2.len
   refine ⟨(L1 ++ L2,((i + 1:Nat):Int)),?_,rfl,(hg.app g2).to (by omega) ?_⟩
   ·unfold l1_spec_l23Gaps
    dsimp only
    rw [lt_t hi,cnd_t,e2,bs,appO_of (by omega),bs,rng_of (by omega) (by omega),bs,cs]
   ·constructor
    ·rintro ⟨a1,a2⟩ k hk
     rcases Nat.lt_or_ge k i with e | e
     ·exact a1 k e
     ·obtain rfl:k = i:=by omega
      exact a2
    ·exact fun a => ⟨fun k hk => a k (by omega),a i (by omega)⟩) (fun s ⟨hs,hg⟩ => by
   obtain ⟨L1,s2⟩:=s
   dsimp only at hs hg
   subst hs
   refine ⟨L1,?_,hg.to (by omega) Iff.rfl⟩
   unfold l1_spec_l23Gaps
   dsimp only
   rw [lt_f,cnd_f]) (s:=([],0)) ⟨rfl,(GR.nil (N:=0)).to (by omega) ⟨fun _ k hk => by omega,fun _ => trivial⟩⟩
  exact ⟨L,by unfold f_spec_l23Gaps;rw [e,bs],g⟩
 obtain ⟨L,e,g⟩:=hgaps
 have hll:=g.len
 unfold f_spec_l23Is
 rw [e,bs]
 refine (all_fn (body:=l1_spec_l23Is L) L.length (fun i => ∀ j,j < (L.getD i []).length → at0 (L.getD i []) j = 0) rfl (fun i hi _ => ?_) ?_).iff ?_
 ·have hrow:=g.row (L.getD i []) (by rw [List.getD_eq_getElem?_getD,List.getElem?_eq_getElem hi];exact List.getElem_mem hi)
  unfold l1_spec_l23Is
  rw [lt_t hi,cnd_t,ixO_d [] hi,bs]
  rcases zero_spec (v:=L.getD i []) (by rw [hrow.1];omega) with ⟨z1,z2⟩ | ⟨z1,z2⟩
  ·left
   rw [z1,bs,Bool.not_true,cnd_f,rng_of (by omega) (by omega),bs,cs]
   exact ⟨rfl,z2⟩
  ·right
   rw [z1,bs,Bool.not_false,cnd_t]
   exact ⟨rfl,z2⟩
 ·unfold l1_spec_l23Is
  rw [lt_f,cnd_f]
 ·rw [ex_cons h hE hT hr,← g.iff]
  constructor
  ·intro a r hr
   obtain ⟨i,hi,rfl⟩:=List.mem_iff_getElem.1 hr
   have a:=a i hi
   rw [List.getD_eq_getElem?_getD,List.getElem?_eq_getElem hi] at a
   have hrow:=g.row _ hr
   rw [mkv_eq hrow.1,show zeros D = mkv D fun _ => 0 from mkv_zero D]
   exact mkv_congr fun j hj => a j (by show j < (L[i]).length;rw [hrow.1];exact hj)
  ·intro a i hi j _
   have:=a (L.getD i []) (by rw [List.getD_eq_getElem?_getD,List.getElem?_eq_getElem hi];exact List.getElem_mem hi)
   rw [this,at0_zeros]
end
end Go.Pl

namespace Go.Pl
open Go Go.Ab Go.Wk Go.Pc
theorem consistentFrom_impl {x:SPr} (h:Pres x):∃ s:Nat,f_impl_consistentFrom x = some (s:Int) ∧ (s = 0 ↔ Cons (suf x 0)):=by
 have h6:=h.os.1
 unfold f_impl_consistentFrom
 obtain ⟨r,r1,r2⟩:=loopO_tot (body:=l1_impl_consistentFrom x) (Q:=fun r => ∃ s:Nat,r = (s:Int) ∧ Cons (suf x s) ∧ (s = 0 ∨ ¬ Cons (suf x (s - 1)))) (fun i s => i ≤ x.Orders.length ∧ s = ((x.Orders.length - i:Nat):Int) ∧ Cons (suf x (x.Orders.length - i))) x.Orders.length (fun i s hi ⟨_,hs,hcs⟩ => by
   subst hs
   have hk:x.Orders.length - i - 1 < x.Orders.length:=by omega
   have e9:x.Orders.length - (i + 1) = x.Orders.length - i - 1:=by omega
   rw [e9]
   have e8:i + 1 ≤ x.Orders.length:=by omega
   rw [show x.Orders.length - i = x.Orders.length - i - 1 + 1 from by omega] at hcs ⊢
   have hlev:=impl_level h hk hcs
   have hiff:=cons_iff h hk
   generalize x.Orders.length - i - 1 = k at *
   unfold l1_impl_consistentFrom
   rw [decide_eq_true (by omega),cnd_t,rng_of (by omega) (by omega),bs,show (((k + 1:Nat):Int) - 1) = (k:Int) from by omega]
   rcases hlev with ⟨g1,g2⟩ | ⟨r,g1,g2,g3⟩
   ·left
    rw [g1,bs]
    simp only [beq_self_eq_true,Bool.and_true]
    rw [cnd_t,bs]
    exact ⟨_,rfl,e8,rfl,hiff.2 ⟨hcs,g2⟩⟩
   ·right
    rw [g1,bs,show (r.Kind == 0) = false from by simpa using g2,Bool.false_and,cnd_f]
    refine ⟨_,rfl,k + 1,rfl,hcs,.inr fun q => g3 (hiff.1 q).2⟩) (fun s ⟨_,hs,hcs⟩ => by
   rw [Nat.sub_self] at hs hcs
   subst hs
   unfold l1_impl_consistentFrom
   rw [show decide (((0:Nat):Int) > 0) = false from rfl,cnd_f]
   exact ⟨_,rfl,0,rfl,hcs,.inl rfl⟩) (s:=(x.Orders.length:Int)) ⟨by omega,by rw [Nat.sub_zero],by rw [Nat.sub_zero,suf_nil (by omega)];simp only [Cons]⟩
 obtain ⟨s,rfl,hcs,hs⟩:=r2
 rw [r1,bs]
 refine ⟨s,rfl,fun g => by subst g;exact hcs,fun g => ?_⟩
 rcases hs with hs | hs
 ·exact hs
 ·exact absurd (cons_from g _) hs
section
variable {x:SPr} {m:SModule} {T:Mx} {D:Nat} (hx:PresS x) (hm:MOk x.Orders.length m D) (hT:T.length ≤ 1048576)
 include hx hm hT
def TailsOk (x:SPr) (m:SModule) (D:Nat) (T:Mx):Prop:=T.length = base x.Orders.length x.Orders.length ∧ Vecs m D T
theorem tails2_spec:IsB (f_spec_l23Tails x m T) (TailsOk x m D T):=by
 have h6:=hx.n6
 unfold f_spec_l23Tails
 rw [count_spec rfl h6,bs]
 by_cases g:T.length = base x.Orders.length x.Orders.length
 ·rw [show ((T.length:Int) == ((base x.Orders.length x.Orders.length:Nat):Int)) = true from by simp [g],cnd_t]
  exact (IsB.b (vectors_spec hm (by omega) hT)).iff ⟨fun q => ⟨g,q⟩,fun q => q.2⟩
 ·rw [show ((T.length:Int) == ((base x.Orders.length x.Orders.length:Nat):Int)) = false from by simp;omega,cnd_f]
  exact .inr ⟨rfl,fun q => g q.1⟩
theorem tails2_impl:IsB (f_impl_areTails x m T) (TailsOk x m D T):=by
 have h6:=hx.n6
 have h3:=hm.d3
 unfold f_impl_areTails
 rw [count_impl rfl h6,bs]
 by_cases g:T.length = base x.Orders.length x.Orders.length
 ·rw [show ((T.length:Int) == ((base x.Orders.length x.Orders.length:Nat):Int)) = true from by simp [g],cnd_t]
  exact (IsB.b (vecs_impl hm.p hm.d (by omega) hT)).iff ⟨fun q => ⟨g,q⟩,fun q => q.2⟩
 ·rw [show ((T.length:Int) == ((base x.Orders.length x.Orders.length:Nat):Int)) = false from by simp;omega,cnd_f]
  exact .inr ⟨rfl,fun q => g q.1⟩
 omit hT in
theorem exOk (ht:TailsOk x m D T):ExOk x.Orders.length D x m T:=by
  have h3:=hm.d3
  exact ExOk.of hx hm ht.1 (gd_len fun i hi => by have:=(ht.2 i hi).1;omega)
 omit hT in
theorem is_impl (ht:TailsOk x m D T):IsB (f_impl_isCocycle x m T) (Cons (suf (exx D x m T) 0)):=by
  have hE:=exOk hx hm ht
  unfold f_impl_isCocycle
  rw [ext_impl hE,bs]
  obtain ⟨s,s1,s2⟩:=consistentFrom_impl (ex_pres hx.toPres hE ht.2)
  rw [s1,bs]
  refine (IsB.of_bool ?_).iff s2
  simp
end
end Go.Pl

namespace Go.Pl
open Go Go.Ab Go.Wk Go.Pc
def Coc (x:SPr) (m:SModule) (D:Nat) (T:Mx):Prop:=TailsOk x m D T ∧ Cons (suf (exx D x m T) 0)
section
variable {x:SPr} {m:SModule} {A B:Mx} {L:List Mx}
theorem code_both (hx:SPres x) (hm:SMod m) (hA:A.length ≤ 1048576) (hB:B.length ≤ 1048576) (hl:L.length ≤ 1000) (hL:∀ t,t ∈ L ↔ t = A ∨ t = B):∃ c:Int,f_spec_l23Code x m A B = some c ∧ f_impl_cocycleCode x m L = some c ∧ (c = 0 → Consistent x ∧ ∃ D,MOk x.Orders.length m D ∧ RelM x m D ∧ Coc x m D A ∧ Coc x m D B):=by
 have hxl:x.Orders.length ≤ 1048576:=hx.1
 have hml:=S3.len hm
 unfold f_spec_l23Code f_impl_cocycleCode
 rcases (IsModule_spec (m:=m) hxl).both (isModule_impl (m:=m) hxl hml) with ⟨s1,i1,hM⟩ | ⟨s1,i1,hM⟩
 ·obtain ⟨hc,D,hD,hr⟩:=hM
  have hmem:∀ i,i < L.length → L.getD i [] = A ∨ L.getD i [] = B:=fun i hi => (hL _).1 (by rw [List.getD_eq_getElem?_getD,List.getElem?_eq_getElem hi];exact List.getElem_mem hi)
  have hlen:∀ i,i < L.length → (L.getD i []).length ≤ 1048576:=fun i hi => by rcases hmem i hi with e | e <;> rw [e] <;> assumption
  have hall:∀ (P:Mx → Prop),(∀ i,0 ≤ i → i < L.length → P (L.getD i [])) ↔ P A ∧ P B:=fun P => by
   constructor
   ·intro g
    have key:∀ t,t ∈ L → P t:=fun t ht => by
     obtain ⟨i,hi,rfl⟩:=List.mem_iff_getElem.1 ht
     have:=g i (Nat.zero_le _) hi
     rwa [List.getD_eq_getElem?_getD,List.getElem?_eq_getElem hi] at this
    exact ⟨key A ((hL A).2 (.inl rfl)),key B ((hL B).2 (.inr rfl))⟩
   ·rintro ⟨g1,g2⟩ i _ hi
    rcases hmem i hi with e | e <;> rw [e] <;> assumption
  have hle:∀ i:Nat,i < L.length → ((i:Nat):Int) < (L.length:Int):=fun i hi => by omega
  simp only [s1,i1,bs,Bool.not_true,cnd_f]
  have c1:=chk (body:=l1_impl_cocycleCode x m L) L.length 0 (Nat.zero_le _) (fun i => TailsOk x m D (L.getD i [])) (fun _ => (1:Int)) (fun i _ hi _ => by
   unfold l1_impl_cocycleCode
   rw [lt_t hi,cnd_t,ixO_d [] hi,bs]
   rcases tails2_impl hc.2.2 hD (hlen i hi) with ⟨z1,z2⟩ | ⟨z1,z2⟩
   ·left
    rw [z1,bs,Bool.not_true,cnd_f,rng_of (by omega) (by omega),bs,cs]
    exact ⟨rfl,z2⟩
   ·right
    rw [z1,bs,Bool.not_false,cnd_t]
    exact ⟨rfl,z2⟩) (by
   unfold l1_impl_cocycleCode
   rw [lt_f,cnd_f])
  rw [show ((0:Nat):Int) = 0 from rfl] at c1
  have hAB:(∀ i,0 ≤ i → i < L.length → TailsOk x m D (L.getD i [])) ↔ _:=hall (TailsOk x m D)
  rcases c1 with ⟨c1,c2⟩ | ⟨i,_,hi,c1,c2⟩
  ·obtain ⟨tA,tB⟩:=hAB.1 c2
   rw [c1,bs]
   simp only
   rcases tails2_spec hc.2.2 hD hA with ⟨z1,_⟩ | ⟨_,z2⟩
   rcases tails2_spec hc.2.2 hD hB with ⟨y1,_⟩ | ⟨_,y2⟩
   ·simp only [z1,y1,bs,Bool.not_true,cnd_f]
    have c3:=chk (body:=l2_impl_cocycleCode x m L) L.length 0 (Nat.zero_le _) (fun i => Cons (suf (exx D x m (L.getD i [])) 0)) (fun _ => (5:Int)) (fun i _ hi _ => by
     unfold l2_impl_cocycleCode
     rw [lt_t hi,cnd_t,ixO_d [] hi,bs]
     rcases is_impl hc.2.2 hD (c2 i (Nat.zero_le _) hi) with ⟨z1,z2⟩ | ⟨z1,z2⟩
     ·left
      rw [z1,bs,Bool.not_true,cnd_f,rng_of (by omega) (by omega),bs,cs]
      exact ⟨rfl,z2⟩
     ·right
      rw [z1,bs,Bool.not_false,cnd_t]
      exact ⟨rfl,z2⟩) (by
     unfold l2_impl_cocycleCode
     rw [lt_f,cnd_f])
    rw [show ((0:Nat):Int) = 0 from rfl] at c3
    have hCC:(∀ i,0 ≤ i → i < L.length → Cons (suf (exx D x m (L.getD i [])) 0)) ↔ _:=hall (fun t => Cons (suf (exx D x m t) 0))
    have sA:=is_spec hc.1 (exOk hc.2.2 hD tA) tA.2 hc.2.1 hr
    have sB:=is_spec hc.1 (exOk hc.2.2 hD tB) tB.2 hc.2.1 hr
    rcases c3 with ⟨c3,c4⟩ | ⟨i,_,hi,c3,c4⟩
    ·obtain ⟨kA,kB⟩:=hCC.1 c4
     rcases sA with ⟨z3,_⟩ | ⟨_,z3⟩
     rcases sB with ⟨y3,_⟩ | ⟨_,y3⟩
     ·rw [z3,bs,Bool.not_true,cnd_f,y3,bs,Bool.not_true,cnd_f,c3,bs]
      exact ⟨0,rfl,rfl,fun _ => ⟨hc,D,hD,hr,⟨tA,kA⟩,tB,kB⟩⟩
     ·exact absurd kB y3
     ·exact absurd kA z3
    ·rw [c3,bs]
     refine ⟨5,?_,rfl,fun e => absurd e (by decide)⟩
     rcases sA with ⟨z3,z4⟩ | ⟨z3,z4⟩
     ·rcases sB with ⟨y3,y4⟩ | ⟨y3,y4⟩
      ·exact absurd (hCC.2 ⟨z4,y4⟩ i (Nat.zero_le _) hi) c4
      ·rw [z3,bs,Bool.not_true,cnd_f,y3,bs,Bool.not_false,cnd_t]
     ·rw [z3,bs,Bool.not_false,cnd_t]
   ·exact absurd tB y2
   ·exact absurd tA z2
  ·rw [c1,bs]
   refine ⟨1,?_,rfl,fun e => absurd e (by decide)⟩
   rcases tails2_spec hc.2.2 hD hA with ⟨z1,z2⟩ | ⟨z1,z2⟩
   ·rcases tails2_spec hc.2.2 hD hB with ⟨y1,y2⟩ | ⟨y1,y2⟩
    ·exact absurd (hAB.2 ⟨z2,y2⟩ i (Nat.zero_le _) hi) c2
    ·rw [z1,bs,Bool.not_true,cnd_f,y1,bs,Bool.not_false,cnd_t]
   ·rw [z1,bs,Bool.not_false,cnd_t]
 ·simp only [s1,i1,bs,Bool.not_false,cnd_t]
  exact ⟨1,rfl,rfl,fun e => absurd e (by decide)⟩
end
theorem ExtensionOf_agree {x:SPr} {m:SModule} {T:Mx} (hx:SPres x) (hm:SMod m) (hT:S2 T):∃ g k,f_spec_ExtensionOf x m T = some (g,k) ∧ f_impl_ExtensionOf x m T = some (g,k) ∧ SPres g:=by
 have hTl:T.length ≤ 1048576:=hT.len
 have hnil:SPres ⟨[],[],[]⟩:=⟨by simp [S1,c1],by simp [S2,c2,sm],by simp [S3,c3,sm]⟩
 obtain ⟨c,e1,e2,e3⟩:=code_both (L:=[T]) hx hm hTl hTl (by simp) (fun t => by simp)
 unfold f_spec_ExtensionOf f_impl_ExtensionOf
 rw [e1,e2,bs,bs]
 by_cases g:c = 0
 ·obtain ⟨hc,D,hD,hr,kT,_⟩:=e3 g
  obtain ⟨g',k,m1,m2,m3⟩:=made_agree (exOk hc.2.2 hD kT.1)
  subst g
  rw [show ((0:Int) != 0) = false from rfl,cnd_f,cnd_f,m1,m2,bs]
  exact ⟨_,_,rfl,rfl,m3⟩
 ·rw [show (c != 0) = true from by simpa using g,cnd_t,cnd_t]
  exact ⟨_,_,rfl,rfl,hnil⟩
theorem law_ExtensionOf (x0:SPr) (x1:SModule) (x2:Mx) (v0:VPres x0) (v1:VMod x1) (v2:VL (VL VI) x2)
  (h:SPres x0 → SMod x1 → S2 x2 → ∃ g k,f_spec_ExtensionOf x0 x1 x2 = some (g,k) ∧ f_impl_ExtensionOf x0 x1 x2 = some (g,k) ∧ SPres g):f_laws_FnExactExtensionOf x0 x1 x2 = some true:=by
 unfold f_laws_FnExactExtensionOf
 rw [szPresentation v0 (by decide) (by decide),bs]
 rcases sz_case (c:=cPres x0) (b:=1048576) (by decide) (by decide) with e | ⟨e,a0,b0,w0⟩ <;> rw [e]
 ·rfl
 rw [cnd_f,szModule v1 a0 b0,bs]
 rcases sz_case (c:=cMod x1) a0 b0 with e | ⟨e,a1,b1,w1⟩ <;> rw [e]
 ·rfl
 rw [cnd_f,szInt64SS v2 a1 b1,bs]
 rcases sz_case (c:=c2 x2) a1 b1 with e | ⟨e,a2,b2,w2⟩ <;> rw [e]
 ·rfl
 have s0:SPres x0:=SPres.of w0
 have s1:SMod x1:=SMod.of w1
 have s2:S2 x2:=w2
 obtain ⟨g,k,hs,hi,sg⟩:=h s0 s1 s2
 have t0:=totP_le s0
 have q1:=sm3_le (x:=x1.Actions)
 have w1':=w1
 simp only [cMod] at w1'
 have q2:=sm2_le (x:=x2)
 have tg:=totP_le sg
 rw [cnd_f,toPresentation s0,bs,toModule s1,bs,toInt64SS s2,bs]
 simp only [bs]
 rw [hs,bs,hi,bs]
 simp only
 rw [eqPresentation sg,bs]
 simp only [Bool.not_true,cnd_f,bne_self_eq_false]
 rw [eqPresentation s0,bs,Bool.not_true,cnd_f,eqModule s1,bs,Bool.not_true,cnd_f,eqInt64SS s2,bs,beq_self_eq_true,Bool.not_true,cnd_f,markPresentation_eq s0 (by decide) (by decide),bs]
 simp only
 rw [markModule s1 (by omega) (by omega),bs]
 simp only
 rw [markInt64SS s2 (by omega) (by omega),bs]
 simp only
 rw [decide_eq_false (by omega),cnd_f,bs,Bool.not_true,cnd_f]
 rw [markPresentation_eq sg (by decide) (by decide),bs]
 simp only
 rw [heldPresentation sg (by decide) (by decide),bs,decide_eq_false (by omega),cnd_f,bne_self_eq_false,cnd_f,bs]
 simp only
 rw [eqPresentation sg,bs,Bool.not_true,cnd_f,bne_self_eq_false,cnd_f,bs,decide_eq_false (by omega),cnd_f,bne_self_eq_false,cnd_f]
theorem ExtensionOf_plain (x0:SPr) (x1:SModule) (x2:Mx) (v0:VPres x0) (v1:VMod x1) (v2:VL (VL VI) x2):f_laws_FnExactExtensionOf x0 x1 x2 = some true :=
 law_ExtensionOf x0 x1 x2 v0 v1 v2 ExtensionOf_agree
end Go.Pl
