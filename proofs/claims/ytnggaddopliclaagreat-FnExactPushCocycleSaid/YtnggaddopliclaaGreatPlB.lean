/- The program's PushCocycle returns what the reference's returns, for all arguments; no conditions. -/
import Derived.Test.YtnggaddopliclaaGreatPlA
namespace Go.Pl
open Go Go.Ab Go.Wk Go.Pc
theorem zFx {N c:Nat} {f:Nat → Int}:(mkv N f).drop c = mkv (N - c) fun i => f (c + i):=by
 have hl:((mkv N f).drop c).length = N - c:=by rw [List.length_drop,yN]
 rw [tR hl]
 exact yA fun j hj => by rw [zN8,xW (by omega)]
theorem qF {n j:Nat}:wL n j = mkv n fun i => if i = j then 1 else 0:=by
 rw [wL,show zeros n = List.replicate n (0:Int) from rfl,tM,zCL]
theorem tV {n i:Nat}:at0 (zeros n) i = 0:=by
 rcases Nat.lt_or_ge i n with g | g
 ·simp [zeros,at0,List.getD_eq_getElem?_getD,g]
 ·simp [zeros,at0,List.getD_eq_getElem?_getD,g]
theorem zBC.p {x:SPr} (h:zBC x) (hl:x.zA.length ≤ 9):Pres x:=⟨⟨hl,h.os.2⟩,h.pl,h.cl,h.tl⟩
structure ExB (n D:Nat) (x:SPr) (m:zC) (T:Mx):Prop where
 hn:n ≤ 6
 o:x.zA.length = n
 p:x.zR.length = n
 c:x.zB.length = n
 cl:∀ i,i < n → (x.zB.getD i []).length = n - 1 - i
 t:T.length = base n n
 m:zR1 n m D
theorem zGW.b {n D:Nat} {x:SPr} {m:zC} {T:Mx} (h:zGW n D x m T) (hm:MOk n m D):ExB n D x m T:=⟨h.hn,h.o,h.p,h.c,h.cl,h.t,hm.b⟩
section
variable {D:Nat} {x:SPr} {m:zC} {T:Mx} (h:Pres x) (hE:ExB x.zA.length D x m T) (hT:∀ i,i < T.length → Row m.Prime D (T.getD i []))
 include h hE hT
abbrev exx (D:Nat) (x:SPr) (m:zC) (T:Mx):SPr:=ext x.zA.length D x m T
theorem vX:(exx D x m T).zA.length = x.zA.length + D:=by
 have _:=h;have _:=hE;have _:=hT
 simp [exx,ext]
theorem zBt {i:Nat} (hi:i < x.zA.length):at0 (exx D x m T).zA i = at0 x.zA i:=by
 have _:=h;have _:=hE;have _:=hT
 show at0 (x.zA ++ List.replicate D m.Prime) i = _
 rw [zEc,if_pos hi]
theorem zAu {i:Nat} (hi:x.zA.length ≤ i) (h2:i < x.zA.length + D):at0 (exx D x m T).zA i = m.Prime:=by
 have _:=h;have _:=hE;have _:=hT
 show at0 (x.zA ++ List.replicate D m.Prime) i = _
 rw [zEc,if_neg (by omega)]
 simp [at0,List.getD_eq_getElem?_getD,show i - x.zA.length < D by omega]
theorem zJC {v t:List Int} {i:Nat} (hv:v.length = x.zA.length) (hr:∀ j,j < x.zA.length → 0 ≤ at0 v j ∧ at0 v j ≤ at0 x.zA j - 1) (hz:∀ j,j ≤ i → j < x.zA.length → at0 v j = 0) (ht:Row m.Prime D t) (hi:i < x.zA.length):Exp (exx D x m T).zA (v ++ t) i:=by
 have hl:=vX h hE hT
 refine ⟨⟨by rw [List.length_append,hv,ht.1,hl],fun j hj => ?_⟩,fun j hj => ?_⟩
 ·rw [List.length_append,hv,ht.1] at hj
  rw [zEc,hv]
  split
  ·next g => rw [zBt h hE hT g];exact hr j g
  ·next g => rw [zAu h hE hT (by omega) hj];exact ht.2 _ (by omega)
 ·rw [zEc,if_pos (by omega)];exact hz j hj (by omega)
theorem zIy (i:Nat) (hi:i < base x.zA.length x.zA.length):Row m.Prime D (T.getD i []):=by
 have _:=h
 exact hT i (by rw [hE.t];exact hi)
theorem zEd:zBC (exx D x m T):=by
 have hn:=hE.hn
 have h3:=hE.m.d3
 have h7:=hE.m.p.pos
 have hl:=vX h hE hT
 have hb:=qE x.zA.length (by omega)
 refine ⟨⟨trivial,fun i hi => ?_⟩,by rw [hl];exact tA,by rw [hl];exact tA,fun i hi => ?_⟩
 ·rw [hl] at hi
  rcases Nat.lt_or_ge i x.zA.length with g | g
  ·rw [zBt h hE hT g];exact h.os.2 i g
  ·rw [zAu h hE hT g hi];exact hE.m.p
 ·rw [hl] at hi
  have hP:(exx D x m T).zR.getD i [] = exP x.zA.length D x T i:=tQ hi
  have hC:(exx D x m T).zB.getD i [] = exC x.zA.length D x m T i:=by
   show (gl (x.zA.length + D) (exC x.zA.length D x m T)).getD i [] = _
   simp [gl,List.getD_eq_getElem?_getD,hi]
  refine ⟨?_,?_,?_⟩
  ·rw [hP,exP]
   rcases Nat.lt_or_ge i x.zA.length with g | g
   ·rw [if_pos g]
    obtain ⟨t1,_,_⟩:=h.tl i g
    exact zJC h hE hT t1.1.1 (fun j hj => t1.1.2 j (by rw [t1.1.1];exact hj)) (fun j hj _ => t1.2 j hj) (zIy h hE hT i (by omega)) g
   ·rw [if_neg (by omega)]
    have hz:∀ j,at0 (List.replicate (x.zA.length + D) (0:Int)) j = 0:=fun j => tV
    refine ⟨⟨by rw [hl,List.length_replicate],fun j hj => ?_⟩,fun j _ => hz j⟩
    rw [List.length_replicate] at hj
    rw [hz]
    rcases Nat.lt_or_ge j x.zA.length with g2 | g2
    ·rw [zBt h hE hT g2];have:=(h.os.2 j g2).pos;omega
    ·rw [zAu h hE hT g2 hj];omega
  ·rw [hC,exC,hl]
   split
   ·rw [tA];omega
   ·rw [unC,tA];omega
  ·rw [hC,exC]
   split
   ·next g =>
    intro j hj
    rw [tA] at hj
    rw [tQ hj,exF]
    split
    ·next g2 =>
     have hcl:=hE.cl i g
     have hbl:=zEb x.zA.length (by omega) i g
     obtain ⟨_,_,t3⟩:=h.tl i g
     have t:=t3 j (by omega)
     exact zJC h hE hT t.1.1 (fun q hq => t.1.2 q (by rw [t.1.1];exact hq)) (fun q hq _ => t.2 q hq) (zIy h hE hT _ (by omega)) g
    ·next g2 =>
     have hz:∀ j,at0 (List.replicate x.zA.length (0:Int)) j = 0:=fun j => tV
     refine zJC h hE hT (by simp) (fun q hq => ?_) (fun q _ _ => hz q) ((hE.m.mat i g).2 _ (by omega)) g
     rw [hz];have:=(h.os.2 q hq).pos;omega
   ·next g =>
    intro j hj
    rw [unC,tA] at hj
    rw [unC,tQ hj]
    refine ⟨⟨by rw [hl];exact yN _ _,fun q hq => ?_⟩,fun q hq => ?_⟩
    ·rw [zAb,yN] at hq
     rw [zAb,xW hq]
     rcases Nat.lt_or_ge q x.zA.length with g2 | g2
     ·rw [zBt h hE hT g2];have:=(h.os.2 q g2).pos;split <;> omega
     ·rw [zAu h hE hT g2 hq];split <;> omega
    ·rw [zAb,xW (by omega),if_neg (by omega)]
theorem zFy {k:Nat} (hk:k < x.zA.length):(lvl (exx D x m T) k).o = at0 x.zA k:=zBt h hE hT hk
theorem zQE {k:Nat} (hk:k < x.zA.length):(lvl (exx D x m T) k).w = (lvl x k).w ++ T.getD k []:=by
 have t1:=(h.tl k hk).1.1.1
 have _:=hE;have _:=hT
 show ((exx D x m T).zR.getD k []).drop (k + 1) = _
 have hP:(exx D x m T).zR.getD k [] = exP x.zA.length D x T k:=tQ (by omega)
 rw [hP,exP,if_pos hk,List.drop_append_of_le_length (by omega)]
 rfl
def eC1 (x:SPr) (T:Mx) (k:Nat):List Vec:=gl (x.zA.length - 1 - k) fun j => (lvl x k).cs.getD j [] ++ T.getD (base x.zA.length k + j) []
def eC2 (x:SPr) (m:zC) (D k:Nat):List Vec:=((gl D fun j => (m.zE.getD k []).getD j []).map fun r => zeros (x.zA.length - 1 - k) ++ r)
theorem zFz {k:Nat} (hk:k < x.zA.length):(lvl (exx D x m T) k).cs = eC1 x T k ++ eC2 x m D k:=by
 have hcl:=hE.cl k hk
 have _:=hT
 show ((exx D x m T).zB.getD k []).map (·.drop (k + 1)) = _
 have hC:(exx D x m T).zB.getD k [] = exC x.zA.length D x m T k:=by
  show (gl (x.zA.length + D) (exC x.zA.length D x m T)).getD k [] = _
  simp [gl,List.getD_eq_getElem?_getD,show k < x.zA.length + D by omega]
 rw [hC,exC,if_pos hk]
 apply List.ext_getElem?
 intro j
 by_cases hj:j < x.zA.length + D - 1 - k
 ·have e1:((gl (x.zA.length + D - 1 - k) (exF x.zA.length x m T k)).map (·.drop (k + 1)))[j]? = some ((exF x.zA.length x m T k j).drop (k + 1)):=by simp [gl,hj]
  rw [e1,exF]
  by_cases g:j < x.zA.length - 1 - k
  ·rw [if_pos g,List.getElem?_append_left (by rw [eC1,tA];exact g)]
   have t:=(h.tl k hk).2.2 j (by omega)
   rw [List.drop_append_of_le_length (by have:=t.1.1;omega)]
   have e2:(eC1 x T k)[j]? = some ((lvl x k).cs.getD j [] ++ T.getD (base x.zA.length k + j) []):=by simp [eC1,gl,g]
   rw [e2]
   congr 2
   simp only [lvl,List.getD_eq_getElem?_getD,List.getElem?_map]
   rw [List.getElem?_eq_getElem (l:=x.zB[k]?.getD []) (by rw [List.getD_eq_getElem?_getD] at hcl;omega)]
   rfl
  ·rw [if_neg g,List.getElem?_append_right (by rw [eC1,tA];omega),eC1,tA]
   have e2:(eC2 x m D k)[j - (x.zA.length - 1 - k)]? = some (zeros (x.zA.length - 1 - k) ++ (m.zE.getD k []).getD (j - (x.zA.length - 1 - k)) []):=by
    simp [eC2,gl,show j - (x.zA.length - 1 - k) < D by omega]
   rw [e2,List.drop_append_of_le_length (by simp;omega),List.drop_replicate,show x.zA.length - (k + 1) = x.zA.length - 1 - k from by omega]
   rfl
 ·rw [List.getElem?_eq_none (by simp [gl];omega),List.getElem?_eq_none (by simp [eC1,eC2,gl];omega)]
end
def tlv (p:Int):Nat → Pcp
 | 0 => []
 | d + 1 => ⟨p,zeros d,xJ d⟩ :: tlv p d
theorem zEe {p:Int}:∀ d,(tlv p d).length = d
 | 0 => rfl
 | d + 1 => by simp [tlv,zEe d]
theorem zDL {p:Int}:∀ (d:Nat) (v:Vec),V (tlv p d) v ↔ Row p d v
 | 0,v => by
  constructor
  ·intro h
   obtain rfl:v = []:=h
   exact ⟨rfl,fun i hi => by omega⟩
  ·intro h
   have:=List.eq_nil_of_length_eq_zero h.1
   subst this;exact rfl
 | d + 1,v => by
  cases v with
  | nil => exact ⟨fun h => h.elim,fun h => by have:=h.1;simp at this⟩
  | cons a v =>
   show ((0 ≤ a ∧ a < p) ∧ V (tlv p d) v) ↔ _
   rw [zDL d v]
   constructor
   ·rintro ⟨⟨h0,h1⟩,h2⟩
    refine ⟨by simp [h2.1],fun i hi => ?_⟩
    cases i with
    | zero => simp only [at0,List.getD_cons_zero];omega
    | succ i => have:=h2.2 i (by omega);simpa [at0] using this
   ·intro h
    have h0:=h.2 0 (by omega)
    simp only [at0,List.getD_cons_zero] at h0
    refine ⟨⟨h0.1,by omega⟩,by have:=h.1;simpa using this,fun i hi => ?_⟩
    have:=h.2 (i + 1) (by omega)
    simpa [at0] using this
abbrev adv (p:Int) (D:Nat) (u v:List Int):List Int:=mkv D fun j => (at0 u j + at0 v j) % p
theorem jT {p:Int} {D:Nat} {u v:List Int} (hp:0 < p):Row p D (adv p D u v):=by
 refine ⟨yN _ _,fun j hj => ?_⟩
 rw [xW hj]
 have e1:=Int.emod_nonneg (at0 u j + at0 v j) (show p ≠ 0 by omega)
 have e2:=Int.emod_lt_of_pos (at0 u j + at0 v j) hp
 omega
theorem zF0 {p:Int} {D:Nat} {c:List Int} (hp:0 < p):∀ (k:Nat) (acc:List Int),Row p D acc → iter k (fun w => adv p D w c) acc = mkv D fun j => (at0 acc j + (k:Int) * at0 c j) % p
 | 0,acc,ha => by
  show acc = _
  conv => lhs;rw [tR ha.1]
  refine yA fun j hj => ?_
  have:=ha.2 j hj
  rw [Int.natCast_zero,Int.zero_mul,Int.add_zero,Int.emod_eq_of_lt this.1 (by omega)]
 | k + 1,acc,ha => by
  show iter k (fun w => adv p D w c) (adv p D acc c) = _
  rw [zF0 hp k _ (jT hp)]
  refine yA fun j hj => ?_
  rw [xW hj,Int.add_emod,Int.emod_emod,← Int.add_emod,← cs,Int.add_mul]
  congr 1;omega
theorem zR4 {f:Nat → Int} {n:Nat}:S (n + 1) f = f 0 + S n fun i => f (i + 1):=by
 rw [Nat.add_comm,zLa 1 n]
 simp only [S]
 rw [Int.zero_add]
 congr 1
 exact zAs fun i _ => by rw [Nat.add_comm]
theorem zEf {p:Int} {D:Nat} (hp:0 < p):∀ (cs:List Vec) (v acc:Vec),v.length = cs.length → (∀ i,i < v.length → 0 ≤ at0 v i) → Row p D acc → img (adv p D) cs v acc = mkv D fun j => (at0 acc j + S cs.length fun k => at0 v k * ent cs k j) % p
 | [],v,acc,hl,_,ha => by
  show acc = _
  conv => lhs;rw [tR ha.1]
  refine yA fun j hj => ?_
  have:=ha.2 j hj
  simp only [List.length_nil,S]
  rw [Int.add_zero,Int.emod_eq_of_lt this.1 (by omega)]
 | c :: cs,[],acc,hl,_,_ => by simp at hl
 | c :: cs,a :: v,acc,hl,hv,ha => by
  have h0:=hv 0 (by simp)
  simp only [at0,List.getD_cons_zero] at h0
  have hrow:Row p D (iter a.toNat (fun w => adv p D w c) acc):=wU (S:=Row p D) (fun _ _ => jT hp) _ ha
  show img (adv p D) cs v (iter a.toNat (fun w => adv p D w c) acc) = _
  rw [zEf hp cs v _ (by simpa using hl) (fun i hi => by have:=hv (i + 1) (by simpa using hi);simpa [at0] using this) hrow,zF0 hp _ _ ha]
  refine yA fun j hj => ?_
  rw [xW hj,List.length_cons,zR4,Int.add_emod,Int.emod_emod,← Int.add_emod,Int.toNat_of_nonneg h0,Int.add_assoc]
  rfl
theorem zBu {α:Type} {S:α → Prop} {m m':α → α → α} (hm:∀ a b,S a → S b → m a b = m' a b) (hc:∀ a b,S a → S b → S (m' a b)):∀ (cs:List α) (v:Vec) (acc:α),(∀ c ∈ cs,S c) → S acc → img m cs v acc = img m' cs v acc
 | [],_,_,_,_ => by simp [img]
 | c :: cs,[],_,_,_ => by simp [img]
 | c :: cs,a :: v,acc,h1,h2 => by
  have hcS:=h1 c (by simp)
  have e:∀ k acc,S acc → iter k (fun w => m w c) acc = iter k (fun w => m' w c) acc ∧ S (iter k (fun w => m' w c) acc):=by
   intro k
   induction k with
   | zero => intro acc ha;exact ⟨rfl,ha⟩
   | succ k ih =>
    intro acc ha
    show iter k (fun w => m w c) (m acc c) = iter k (fun w => m' w c) (m' acc c) ∧ _
    rw [hm acc c ha hcS]
    exact ih _ (hc _ _ ha hcS)
  show img m cs v (iter a.toNat (fun w => m w c) acc) = img m' cs v (iter a.toNat (fun w => m' w c) acc)
  rw [(e _ _ h2).1]
  exact zBu hm hc cs v _ (fun c hc => h1 c (by simp [hc])) (e _ _ h2).2
theorem zBv {d k j:Nat} (hk:k < d) (hj:j < d):ent (xJ d) k j = if j = k then 1 else 0:=by
 have e:(xJ d).getD k [] = wL d k:=by simp [xJ,List.getD_eq_getElem?_getD,hk]
 rw [ent,e,qF,xW hj]
theorem sB {p:Int} {D:Nat} (hp:0 < p):Row p D (zeros D):=zR3 hp
theorem sW {p:Int} (hp:2 ≤ p):∀ (d:Nat) (u v:Vec),Row p d u → Row p d v → mul (tlv p d) u v = adv p d u v
 | 0,u,v,hu,_ => by
  have:=List.eq_nil_of_length_eq_zero hu.1
  subst this
  rfl
 | d + 1,u,v,hu,hv => by
  have ih:=sW hp d
  have hu':=(zDL (d + 1) u).2 hu
  have hv':=(zDL (d + 1) v).2 hv
  cases u with
  | nil => exact hu'.elim
  | cons a u =>
   cases v with
   | nil => exact hv'.elim
   | cons b v =>
    obtain ⟨⟨a0,a1⟩,hu2⟩:=hu'
    obtain ⟨⟨b0,b1⟩,hv2⟩:=hv'
    have hu3:=(zDL d u).1 hu2
    have hv3:=(zDL d v).1 hv2
    change a < p at a1
    change b < p at b1
    have hsig:∀ w,Row p d w → sig (tlv p d) ⟨p,zeros d,xJ d⟩ w = w:=fun w hw => by
     have hur:∀ c ∈ xJ d,Row p d c:=fun c hc => by
      obtain ⟨k,hk,rfl⟩:=List.mem_map.1 hc
      rw [qF]
      exact ⟨yN _ _,fun j hj => by rw [xW hj];split <;> omega⟩
     unfold sig
     rw [zEe,zBu (S:=Row p d) (m':=adv p d) (fun a b ha hb => ih a b ha hb) (fun _ _ _ _ => jT (by omega)) (xJ d) w _ hur (sB (by omega)),zEf (by omega) (xJ d) w _ (by rw [hw.1];simp [xJ]) (fun i hi => (hw.2 i (by rw [← hw.1];exact hi)).1) (sB (by omega))]
     conv => rhs;rw [tR hw.1]
     refine yA fun j hj => ?_
     have hul:(xJ d).length = d:=by simp [xJ]
     have:=hw.2 j hj
     rw [hul,tV,Int.zero_add,zFl (k:=j) hj (fun k hk hne => by rw [zBv hk hj,if_neg (Ne.symm hne),Int.mul_zero]),zBv hj hj,if_pos rfl,Int.mul_one,Int.emod_eq_of_lt this.1 (by omega)]
    have hit:∀ k,iter k (sig (tlv p d) ⟨p,zeros d,xJ d⟩) u = u:=fun k => zFw (hsig u hu3) k
    show mul (⟨p,zeros d,xJ d⟩ :: tlv p d) (a :: u) (b :: v) = _
    rw [yK,hit,ih u v hu3 hv3]
    have hz:adv p d (zeros d) (adv p d u v) = adv p d u v:=by
     refine yA fun j hj => ?_
     rw [xW hj,tV,Int.zero_add,Int.emod_emod]
    rw [ih _ _ (sB (by omega)) (jT (by omega)),hz]
    have hcons:adv p (d + 1) (a :: u) (b :: v) = (a + b) % p :: adv p d u v:=by
     simp only [adv,mkv,List.range_succ_eq_map,List.map_cons,List.map_map]
     congr 1
    rw [hcons]
    split
    ·next g =>
     have g:a + b ≥ p:=g
     have e:(a + b) % p = a + b - p:=by
      rw [show a + b = (a + b - p) + p from by omega,Int.add_emod_right,Int.emod_eq_of_lt (by omega) (by omega)]
      omega
     exact congrArg (· :: _) e.symm
    ·next g =>
     have g:¬ a + b ≥ p:=g
     congr 1
     exact (Int.emod_eq_of_lt (by omega) (by omega)).symm
end Go.Pl

namespace Go.Pl
open Go Go.Ab Go.Wk Go.Pc
theorem zLc {α:Type} {m:α → α → α}:∀ (c1:List α) (y:Vec) (c2:List α) (u:Vec) (acc:α),c1.length = y.length → img m (c1 ++ c2) (y ++ u) acc = img m c2 u (img m c1 y acc)
 | [],[],_,_,_,_ => by cases ‹List α› <;> rfl
 | [],_ :: _,_,_,_,h => by simp at h
 | _ :: _,[],_,_,_,h => by simp at h
 | c :: c1,a :: y,c2,u,acc,h => zLc c1 y c2 u _ (by simpa using h)
theorem zF1 {α β:Type} {S:α → Prop} {m:α → α → α} {n:β → β → β} (φ:α → β) (hS:∀ a b,S a → S b → S (m a b)) (hm:∀ a b,S a → S b → φ (m a b) = n (φ a) (φ b)):∀ (cs:List α) (v:Vec) (a:α),(∀ c ∈ cs,S c) → S a → φ (img m cs v a) = img n (cs.map φ) v (φ a)
 | [],v,a,_,_ => by cases v <;> rfl
 | _ :: _,[],_,_,_ => rfl
 | c :: cs,t :: v,a,hc,ha => by
  have hcS:=hc c (by simp)
  have e:∀ k a,S a → φ (iter k (fun w => m w c) a) = iter k (fun w => n w (φ c)) (φ a) ∧ S (iter k (fun w => m w c) a):=by
   intro k
   induction k with
   | zero => intro a ha;exact ⟨rfl,ha⟩
   | succ k ih =>
    intro a ha
    have:=ih (m a c) (hS _ _ ha hcS)
    rw [hm a c ha hcS] at this
    exact this
  show φ (img m cs v (iter t.toNat (fun w => m w c) a)) = img n (cs.map φ) v (iter t.toNat (fun w => n w (φ c)) (φ a))
  rw [← (e _ a ha).1]
  exact zF1 φ hS hm cs v _ (fun c h => hc c (by simp [h])) (e _ a ha).2
theorem zIz {p:Int} {D:Nat} {r:List Int} (hr:Row p D r):tF p D r (idM D) = r:=by
 conv => rhs;rw [tR hr.1]
 refine yA fun j hj => ?_
 have:=hr.2 j hj
 have e:∀ l,l < D → ent (idM D) l j = if j = l then 1 else 0:=fun l hl => by rw [ent,zBs hl,xW hj]
 rw [zFl (k:=j) hj (fun k hk hne => by rw [e k hk,if_neg (Ne.symm hne),Int.mul_zero]),e j hj,if_pos rfl,Int.mul_one,qV this]
theorem zLd {p:Int} {D:Nat} {r:List Int} {A B:Mx} (hA:A.length = D):tF p D (tF p D r A) B = tF p D r (PM p D A B):=by
 refine yA fun j hj => ?_
 have e1:S D (fun l => at0 (tF p D r A) l * ent B l j) % p = S D (fun l => S D (fun i => at0 r i * ent A i l) * ent B l j) % p:=zIi fun l hl => by
  rw [tF,xW hl,Int.mul_emod,Int.emod_emod,← Int.mul_emod]
 have e2:S D (fun l => at0 r l * ent (PM p D A B) l j) % p = S D (fun i => at0 r i * S D (fun l => ent A i l * ent B l j)) % p:=zIi fun l hl => by
  rw [zJz hA hl hj,Int.mul_emod,Int.emod_emod,← Int.mul_emod]
 rw [e1,e2]
 congr 1
 have e3:S D (fun l => S D (fun i => at0 r i * ent A i l) * ent B l j) = S D (fun l => S D (fun i => at0 r i * ent A i l * ent B l j)):=zAs fun l _ => (zNv _ _).symm
 rw [e3,zJy]
 refine zAs fun i _ => ?_
 rw [← zJx]
 exact zAs fun l _ => by rw [Int.mul_assoc]
theorem zJD {p:Int} {D:Nat} {v:List Int} (hv:Row p D v):adv p D (zeros D) v = v:=by
 conv => rhs;rw [tR hv.1]
 refine yA fun j hj => ?_
 rw [tV,Int.zero_add,qV (hv.2 j hj)]
theorem zNC {p:Int} {D:Nat} {acc v:List Int} {A:Mx} (hl:A.length = D):(mkv D fun j => (at0 acc j + S A.length fun k => at0 v k * ent A k j) % p) = adv p D acc (tF p D v A):=by
 refine yA fun j hj => ?_
 rw [tF,xW hj,hl,Int.add_emod_emod]
theorem zBa {p:Int} {D:Nat} {u v:List Int}:adv p D u v = adv p D v u:=yA fun j _ => by rw [Int.add_comm]
section
variable {D:Nat} {x:SPr} {m:zC} {T:Mx} (h:Pres x) (hE:ExB x.zA.length D x m T) (hT:∀ i,i < T.length → Row m.Prime D (T.getD i []))
 include h hE hT
theorem zAv:∀ (d k:Nat),x.zA.length ≤ k → k + d = x.zA.length + D → suf (exx D x m T) k = tlv m.Prime d
 | 0,k,hk,hd => by rw [vV (by rw [vX h hE hT];omega)];rfl
 | d + 1,k,hk,hd => by
  have hl:=vX h hE hT
  rw [yF (by omega),zAv d (k + 1) (by omega) (by omega),tlv]
  congr 1
  have hP:(exx D x m T).zR.getD k [] = exP x.zA.length D x T k:=tQ (by omega)
  have hC:(exx D x m T).zB.getD k [] = exC x.zA.length D x m T k:=by
   show (gl (x.zA.length + D) (exC x.zA.length D x m T)).getD k [] = _
   simp [gl,List.getD_eq_getElem?_getD,show k < x.zA.length + D by omega]
  unfold lvl
  rw [hP,hC,exP,exC,if_neg (by omega),if_neg (by omega),zAu h hE hT hk (by omega),List.drop_replicate,show x.zA.length + D - (k + 1) = d from by omega]
  congr 1
  rw [unC,xJ,gl,List.map_map,show x.zA.length + D - 1 - k = d from by omega]
  refine List.map_congr_left fun j hj => ?_
  have hj:=List.mem_range.1 hj
  show (zAb (x.zA.length + D) (k + 1 + j)).drop (k + 1) = wL d j
  rw [zAb,zFx,qF,show x.zA.length + D - (k + 1) = d from by omega]
  refine yA fun i _ => ?_
  by_cases g:i = j
  ·rw [if_pos g,if_pos (by omega)]
  ·rw [if_neg g,if_neg (by omega)]
theorem zBJ:∀ (d k:Nat),k + d = x.zA.length → ∀ v,V (suf (exx D x m T) k) v ↔ ∃ y u,v = y ++ u ∧ V (suf x k) y ∧ Row m.Prime D u
 | 0,k,hk,v => by
  rw [zAv h hE hT D k (by omega) (by omega),zDL,vV (x:=x) (k:=k) (by omega)]
  constructor
  ·intro g;exact ⟨[],v,rfl,rfl,g⟩
  ·rintro ⟨y,u,rfl,hy,hu⟩
   obtain rfl:y = []:=hy
   exact hu
 | d + 1,k,hk,v => by
  have hl:=vX h hE hT
  have ih:=zBJ d (k + 1) (by omega)
  rw [yF (x:=exx D x m T) (by omega),yF (x:=x) (by omega)]
  cases v with
  | nil =>
   refine ⟨fun g => g.elim,?_⟩
   rintro ⟨y,u,e,hy,hu⟩
   cases y with
   | nil => exact hy.elim
   | cons a y => simp at e
  | cons a v =>
   show ((0 ≤ a ∧ a < (lvl (exx D x m T) k).o) ∧ V (suf (exx D x m T) (k + 1)) v) ↔ _
   rw [zFy h hE hT (by omega),ih v]
   constructor
   ·rintro ⟨g,y,u,rfl,hy,hu⟩
    exact ⟨a :: y,u,rfl,⟨g,hy⟩,hu⟩
   ·rintro ⟨y,u,e,hy,hu⟩
    cases y with
    | nil => exact hy.elim
    | cons b y =>
     simp only [List.cons_append,List.cons.injEq] at e
     obtain ⟨rfl,rfl⟩:=e
     exact ⟨hy.1,y,u,rfl,hy.2,hu⟩
theorem zGt:∀ (d k:Nat),k + d = x.zA.length → ∀ y u r,V (suf x k) y → Row m.Prime D u → Row m.Prime D r → mul (suf (exx D x m T) k) (y ++ u) (zeros d ++ r) = y ++ adv m.Prime D u r
 | 0,k,hk,y,u,r,hy,hu,hr => by
  have hp:=hE.m.p.pos
  rw [vV (x:=x) (k:=k) (by omega)] at hy
  obtain rfl:y = []:=hy
  rw [zAv h hE hT D k (by omega) (by omega)]
  exact sW (by omega) D u r hu hr
 | d + 1,k,hk,y,u,r,hy,hu,hr => by
  have hl:=vX h hE hT
  rw [yF (x:=x) (by omega)] at hy
  cases y with
  | nil => exact hy.elim
  | cons a y =>
   obtain ⟨⟨a0,a1⟩,hy⟩:=hy
   change a < at0 x.zA k at a1
   rw [yF (x:=exx D x m T) (by omega)]
   show mul _ (a :: (y ++ u)) (0 :: (zeros d ++ r)) = _
   rw [yK,zFy h hE hT (by omega),if_neg (by omega)]
   show (a + 0) :: mul _ (y ++ u) (zeros d ++ r) = _
   rw [zGt d (k + 1) (by omega) y u r hy hu hr,Int.add_zero];rfl
theorem zAc {k:Nat} (hk:k ≤ x.zA.length + D):Pc.Ok (suf (exx D x m T) k):=(zEd h hE hT).okAt (by rw [vX h hE hT];exact hk)
theorem zJE {d k:Nat} (hk:k + d = x.zA.length):∀ (rs:List Vec) (v:Vec) (y u:Vec),(∀ r ∈ rs,Row m.Prime D r) → V (suf x k) y → Row m.Prime D u → img (mul (suf (exx D x m T) k)) (rs.map fun r => zeros d ++ r) v (y ++ u) = y ++ img (adv m.Prime D) rs v u
 | [],v,y,u,_,_,_ => by cases v <;> rfl
 | _ :: _,[],_,_,_,_,_ => rfl
 | c :: rs,t :: v,y,u,hr,hy,hu => by
  have hp:=hE.m.p.pos
  have hc:=hr c (by simp)
  have e:∀ q u,Row m.Prime D u → iter q (fun w => mul (suf (exx D x m T) k) w (zeros d ++ c)) (y ++ u) = y ++ iter q (fun w => adv m.Prime D w c) u:=by
   intro q
   induction q with
   | zero => intro u _;rfl
   | succ q ih =>
    intro u hu
    show iter q _ (mul _ (y ++ u) (zeros d ++ c)) = _
    rw [zGt h hE hT d k hk y u c hy hu hc,ih _ (jT (by omega))]
    rfl
  show img _ (rs.map fun r => zeros d ++ r) v (iter t.toNat (fun w => mul (suf (exx D x m T) k) w (zeros d ++ c)) (y ++ u)) = _
  rw [e _ _ hu,zJE hk rs v y _ (fun r h => hr r (by simp [h])) hy (wU (S:=Row m.Prime D) (fun _ _ => jT (by omega)) _ hu)]
  rfl
theorem zR5 {k:Nat} (hk:k < x.zA.length):(gl D fun j => (m.zE.getD k []).getD j []) = m.zE.getD k []:=by
 have _:=h;have _:=hT
 have hl:=(hE.m.mat k hk).1
 apply List.ext_getElem?
 intro j
 simp only [gl,List.getElem?_map]
 by_cases g:j < D
 ·rw [List.getElem?_range g,Option.map_some,List.getD_eq_getElem?_getD (i:=j),List.getElem?_eq_getElem (by omega)];rfl
 ·rw [List.getElem?_eq_none (by simp;omega),List.getElem?_eq_none (by omega)];rfl
def sgG (D:Nat) (x:SPr) (m:zC) (T:Mx) (k:Nat) (y:Vec):Vec:=img (mul (suf (exx D x m T) (k + 1))) (eC1 x T k) y (zeros (suf (exx D x m T) (k + 1)).length)
theorem zCM {k:Nat}:(eC1 x T k).length = x.zA.length - 1 - k:=by have _:=h;have _:=hE;have _:=hT;rw [eC1,tA]
theorem zND {k:Nat} (hk:k < x.zA.length):∀ c ∈ eC1 x T k,V (suf (exx D x m T) (k + 1)) c:=by
 intro c hc
 have ok:=zAc h hE hT (k:=k) (by omega)
 rw [yF (by rw [vX h hE hT];omega)] at ok
 exact ok.2.2.2.1 c (by rw [zFz h hE hT hk];exact List.mem_append_left _ hc)
theorem zBb {k:Nat} (hk:k ≤ x.zA.length):zeros (suf (exx D x m T) k).length = zeros (x.zA.length - k) ++ zeros D:=by
 rw [yX,vX h hE hT]
 simp only [zeros,List.replicate_append_replicate];congr 1;omega
theorem zNE {k:Nat} (hk:k < x.zA.length) {y:Vec}:V (suf (exx D x m T) (k + 1)) (sgG D x m T k y):=by
 have ok:=zAc h hE hT (k:=k + 1) (by omega)
 exact tZ (xE ok) _ _ (zND h hE hT hk) (wH ok)
theorem zJF {k:Nat} (hk:k < x.zA.length) {y u:Vec} (hy:V (suf x (k + 1)) y) (hu:Row m.Prime D u) :
  sig (suf (exx D x m T) (k + 1)) (lvl (exx D x m T) k) (y ++ u) = (sgG D x m T k y).take (x.zA.length - (k + 1)) ++ adv m.Prime D ((sgG D x m T k y).drop (x.zA.length - (k + 1))) (tF m.Prime D u (m.zE.getD k [])):=by
 have hp:=hE.m.p.pos
 have hA:=hE.m.mat k hk
 have hyl:=tU h (by omega) hy
 unfold sig
 rw [zFz h hE hT hk,zLc _ _ _ _ _ (by rw [zCM h hE hT];omega)]
 show img _ (eC2 x m D k) u (sgG D x m T k y) = _
 obtain ⟨y1,u1,e,hy1,hu1⟩:=(zBJ h hE hT (x.zA.length - (k + 1)) (k + 1) (by omega) _).1 (zNE h hE hT hk (y:=y))
 have hy1l:=tU h (by omega) hy1
 rw [e,eC2,zR5 h hE hT hk,show x.zA.length - 1 - k = x.zA.length - (k + 1) from by omega,zJE h hE hT (by omega) _ _ _ _ (fun r hr => ?_) hy1 hu1,zEf (by omega) _ _ _ (by rw [hA.1,hu.1]) (fun i hi => (hu.2 i (by rw [← hu.1];exact hi)).1) hu1,zNC hA.1,List.take_left' hy1l,List.drop_left' hy1l]
 obtain ⟨j,hj,rfl⟩:=List.mem_iff_getElem.1 hr
 have hAl:=hA.1
 have:=hA.2 j (by omega)
 rwa [List.getD_eq_getElem?_getD,List.getElem?_eq_getElem hj] at this
theorem zEg {k:Nat} (hk:k < x.zA.length) {u:Vec} (hu:Row m.Prime D u) :
  sig (suf (exx D x m T) (k + 1)) (lvl (exx D x m T) k) (zeros (x.zA.length - (k + 1)) ++ u) = zeros (x.zA.length - (k + 1)) ++ tF m.Prime D u (m.zE.getD k []):=by
 have hp:=hE.m.p.pos
 have ok:=h.okAt (k:=k + 1) (by omega)
 have hz:=wH ok
 rw [yX] at hz
 have e:sgG D x m T k (zeros (x.zA.length - (k + 1))) = zeros (x.zA.length - (k + 1)) ++ zeros D:=by
  unfold sgG
  rw [kS,zBb h hE hT (by omega)]
 rw [zJF h hE hT hk hz hu,e,List.take_left' (zQ _),List.drop_left' (zQ _),zJD (zAa (by omega))]
theorem zF2 {k:Nat} (hk:k < x.zA.length):∀ (q:Nat) {u:Vec},Row m.Prime D u →
  iter q (sig (suf (exx D x m T) (k + 1)) (lvl (exx D x m T) k)) (zeros (x.zA.length - (k + 1)) ++ u) = zeros (x.zA.length - (k + 1)) ++ iter q (fun u => tF m.Prime D u (m.zE.getD k [])) u
 | 0,u,_ => rfl
 | q + 1,u,hu => by
  have hp:=hE.m.p.pos
  show iter q _ (sig _ _ _) = _
  rw [zEg h hE hT hk hu,zF2 hk q (zAa (by omega))]
  rfl
end
end Go.Pl

namespace Go.Pl
open Go Go.Ab Go.Wk Go.Pc
theorem zD0 {p:Int} {D:Nat} {A:Mx} (hA:Mat p D A) (hp:2 ≤ p) {r:List Int} (hr:Row p D r):∀ q,iter q (fun u => tF p D u A) r = tF p D r (pw (PM p D) (idM D) A q)
 | 0 => (zIz hr).symm
 | q + 1 => by
  have hm:Mat p D (pw (PM p D) (idM D) A q):=wU (S:=Mat p D) (fun _ hB => zAW (by omega) hB.1) q (jS hp)
  unfold pw at *
  rw [vA,vA,zD0 hA hp hr q]
  exact zLd hm.1
theorem zNF {p:Int} {D:Nat} (hp:0 < p) {r:List Int}:iter p.toNat (fun w => adv p D w r) (zeros D) = zeros D:=by
 rw [zF0 hp _ _ (sB hp)]
 rw [show zeros D = mkv D fun _ => 0 from tM D]
 refine yA fun j hj => ?_
 rw [xW hj,Int.toNat_of_nonneg (by omega),Int.zero_add,Int.mul_emod_right]
theorem zJG {p:Int} {D:Nat} {A:Mx}:tF p D (zeros D) A = zeros D:=by
 rw [show zeros D = mkv D fun _ => 0 from tM D]
 refine yA fun j hj => ?_
 rw [zAs (g:=fun _ => 0) fun l hl => by rw [xW hl,Int.zero_mul],zGQ,Int.zero_emod]
theorem zLP {p:Int} {D q:Nat} {A:Mx} (hq:q < D) (hA:Mat p D A):tF p D (wL D q) A = A.getD q []:=by
 have hr:=hA.2 q hq
 conv => rhs;rw [tR hr.1]
 refine yA fun j hj => ?_
 rw [qF,zFl (k:=q) hq (fun i hi hne => by rw [xW hi,if_neg hne,Int.zero_mul]),xW hq,if_pos rfl,Int.one_mul,qV (hr.2 j hj)]
theorem uO {p:Int} {D q:Nat} (hp:2 ≤ p):Row p D (wL D q):=by
 rw [qF]
 exact ⟨yN _ _,fun j hj => by rw [xW hj];split <;> omega⟩
theorem zI0 {N D q:Nat} (hq:q < D):wL (N + D) (N + q) = zeros N ++ wL D q:=by
 rw [qR (by omega),qR hq,← List.append_assoc]
 simp only [zeros,List.replicate_append_replicate]
 rw [show N + D - (N + q + 1) = D - (q + 1) from by omega]
def aM (m:zC) (D k:Nat) (v:Vec):Mx:=img (PM m.Prime D) (m.zE.drop k) v (idM D)
theorem zNG {p:Int} {D:Nat} (hp:2 ≤ p):Mon (Mat p D) (PM p D) (idM D) :=
 ⟨fun ha _ => zAW (by omega) ha.1,jS (by omega),fun ha hb _ => zIj ha.1 hb.1,fun ha => zGR ha,fun ha => zIk ha⟩
section
variable {D:Nat} {x:SPr} {m:zC} {T:Mx} (h:Pres x) (hE:ExB x.zA.length D x m T) (hT:∀ i,i < T.length → Row m.Prime D (T.getD i []))
 include h hE hT
theorem zNH {k:Nat} (hk:k < x.zA.length):(eC1 x T k).map (·.take (x.zA.length - (k + 1))) = (lvl x k).cs:=by
 have _:=hE;have _:=hT
 have hcl:=qU h.w hk
 apply List.ext_getElem?
 intro j
 by_cases g:j < x.zA.length - (k + 1)
 ·obtain ⟨c,_,_,c3,c4⟩:=zCH h hk g
  have hl:=tU h (by omega) c3
  have e1:((eC1 x T k).map (·.take (x.zA.length - (k + 1))))[j]? = some (((lvl x k).cs.getD j [] ++ T.getD (base x.zA.length k + j) []).take (x.zA.length - (k + 1))):=by simp [eC1,gl,show j < x.zA.length - 1 - k by omega]
  rw [e1,c4,List.take_left' hl,List.getElem?_eq_getElem (by omega)]
  rw [List.getD_eq_getElem?_getD,List.getElem?_eq_getElem (by omega)] at c4
  exact congrArg some c4.symm
 ·rw [List.getElem?_eq_none (by simp [eC1,gl];omega),List.getElem?_eq_none (by omega)]
theorem zI1 {k:Nat} (hk:k < x.zA.length):m.zE.drop k = m.zE.getD k [] :: m.zE.drop (k + 1):=by
 have _:=h;have _:=hT
 have hl:=hE.m.len
 rw [List.drop_eq_getElem_cons (by omega),List.getD_eq_getElem?_getD,List.getElem?_eq_getElem (by omega)];rfl
theorem zPE {k:Nat} (hk:k < x.zA.length) {b:Int} {y:Vec}:aM m D k (b :: y) = PM m.Prime D (pw (PM m.Prime D) (idM D) (m.zE.getD k []) b.toNat) (aM m D (k + 1) y):=by
 have M:=zNG hE.m.p.pos.1 (D:=D)
 unfold aM
 rw [zI1 h hE hT hk]
 refine tL M (hE.m.mat k hk) fun c hc => ?_
 obtain ⟨i,hi,rfl⟩:=List.mem_iff_getElem.1 (List.mem_of_mem_drop hc)
 have:=hE.m.mat i (by rw [← hE.m.len];exact hi)
 rwa [List.getD_eq_getElem?_getD,List.getElem?_eq_getElem hi] at this
theorem pwM {k q:Nat} (hk:k < x.zA.length):Mat m.Prime D (pw (PM m.Prime D) (idM D) (m.zE.getD k []) q):=by
 have _:=h;have _:=hT;have _:=hk
 have hp:=hE.m.p.pos
 exact wU (S:=Mat m.Prime D) (fun _ hB => zAW (by omega) hB.1) q (jS (by omega))
theorem zNI:∀ (d k:Nat),k + d = x.zA.length → ∀ r y v,Row m.Prime D r → V (suf x k) y → Row m.Prime D v → mul (suf (exx D x m T) k) (zeros d ++ r) (y ++ v) = y ++ adv m.Prime D (tF m.Prime D r (aM m D k y)) v
 | 0,k,hk,r,y,v,hr,hy,hv => by
  have hp:=hE.m.p.pos
  rw [vV (x:=x) (k:=k) (by omega)] at hy
  obtain rfl:y = []:=hy
  rw [zAv h hE hT D k (by omega) (by omega)]
  have e:aM m D k [] = idM D:=by unfold aM;cases m.zE.drop k <;> rfl
  rw [e,zIz hr]
  exact sW (by omega) D r v hr hv
 | d + 1,k,hk,r,y,v,hr,hy,hv => by
  have hl:=vX h hE hT
  have hp:=hE.m.p.pos
  have hA:=hE.m.mat k (by omega)
  rw [yF (x:=x) (by omega)] at hy
  cases y with
  | nil => exact hy.elim
  | cons b y =>
   obtain ⟨⟨b0,b1⟩,hy⟩:=hy
   change b < at0 x.zA k at b1
   rw [yF (x:=exx D x m T) (by omega)]
   show mul _ (0 :: (zeros d ++ r)) (b :: (y ++ v)) = _
   have e:=zF2 h hE hT (k:=k) (by omega) b.toNat hr
   rw [show x.zA.length - (k + 1) = d from by omega] at e
   rw [yK,zFy h hE hT (by omega),if_neg (by omega),e,zD0 hA (by omega) hr,zNI d (k + 1) (by omega) _ y v (zAa (by omega)) hy hv,Int.zero_add,zPE h hE hT (by omega),← zLd (pwM h hE hT (by omega)).1]
   rfl
theorem zI2 {k:Nat} (hk:k < x.zA.length) (ih:∀ a b,V (suf (exx D x m T) (k + 1)) a → V (suf (exx D x m T) (k + 1)) b → (mul (suf (exx D x m T) (k + 1)) a b).take (x.zA.length - (k + 1)) = mul (suf x (k + 1)) (a.take (x.zA.length - (k + 1))) (b.take (x.zA.length - (k + 1)))) {v:Vec} (hv:V (suf (exx D x m T) (k + 1)) v) :
  (sig (suf (exx D x m T) (k + 1)) (lvl (exx D x m T) k) v).take (x.zA.length - (k + 1)) = sig (suf x (k + 1)) (lvl x k) (v.take (x.zA.length - (k + 1))):=by
 have ok:=zAc h hE hT (k:=k + 1) (by omega)
 obtain ⟨y,u,rfl,hy,hu⟩:=(zBJ h hE hT (x.zA.length - (k + 1)) (k + 1) (by omega) _).1 hv
 have hyl:=tU h (by omega) hy
 obtain ⟨y1,u1,e,hy1,hu1⟩:=(zBJ h hE hT (x.zA.length - (k + 1)) (k + 1) (by omega) _).1 (zNE h hE hT hk (y:=y))
 have hy1l:=tU h (by omega) hy1
 rw [zJF h hE hT hk hy hu,List.take_left' (by rw [e,List.take_left' hy1l,hy1l]),List.take_left' hyl]
 unfold sgG sig
 rw [zF1 (S:=V (suf (exx D x m T) (k + 1))) (n:=mul (suf x (k + 1))) (·.take (x.zA.length - (k + 1))) (fun a b => xE ok) ih _ _ _ (zND h hE hT hk) (wH ok),zNH h hE hT hk,zBb h hE hT (by omega),List.take_left' (zQ _),yX]
theorem zGY:∀ (d k:Nat),k + d = x.zA.length → ∀ a b,V (suf (exx D x m T) k) a → V (suf (exx D x m T) k) b → (mul (suf (exx D x m T) k) a b).take d = mul (suf x k) (a.take d) (b.take d)
 | 0,k,hk,a,b,_,_ => by
  rw [vV (x:=x) (by omega),List.take_zero];rfl
 | d + 1,k,hk,a,b,ha,hb => by
  have hl:=vX h hE hT
  have ih:=zGY d (k + 1) (by omega)
  have hd:d = x.zA.length - (k + 1):=by omega
  have ok:=zAc h hE hT (k:=k + 1) (by omega)
  have ok0:=zAc h hE hT (k:=k) (by omega)
  rw [hd] at ih
  have hs:=fun v hv => zI2 h hE hT (k:=k) (by omega) ih (v:=v) hv
  rw [yF (x:=exx D x m T) (by omega)] at ha hb ok0 ⊢
  rw [yF (x:=x) (by omega)]
  cases a with
  | nil => exact ha.elim
  | cons a u =>
  cases b with
  | nil => exact hb.elim
  | cons b v =>
   have hit:∀ q u,V (suf (exx D x m T) (k + 1)) u → (iter q (sig (suf (exx D x m T) (k + 1)) (lvl (exx D x m T) k)) u).take d = iter q (sig (suf x (k + 1)) (lvl x k)) (u.take d) ∧ V (suf (exx D x m T) (k + 1)) (iter q (sig (suf (exx D x m T) (k + 1)) (lvl (exx D x m T) k)) u):=by
    intro q
    induction q with
    | zero => intro u hu;exact ⟨rfl,hu⟩
    | succ q ihq =>
     intro u hu
     have:=ihq _ (zCe ok0 hu)
     rw [hd,hs u hu] at this
     rw [hd];exact this
   obtain ⟨hi1,hi2⟩:=hit b.toNat u ha.2
   have hm:=xE ok hi2 hb.2
   rw [yK,List.take_succ_cons,List.take_succ_cons,yK,zFy h hE hT (by omega),show (lvl x k).o = at0 x.zA k from rfl]
   have e1:=ih _ _ hi2 hb.2
   rw [← hd,hi1] at e1
   split
   ·rw [List.take_succ_cons]
    have e2:=ih _ _ ok0.2.1 hm
    rw [← hd,e1] at e2
    rw [e2]
    congr 2
    have ht:=(h.tl k (by omega)).1
    have hw:=zGj ht (by omega)
    have hwl:(lvl x k).w.length = x.zA.length - (k + 1):=tU h (by omega) hw
    rw [zQE h hE hT (by omega),List.take_left' (by omega)]
   ·rw [List.take_succ_cons,e1]
end
end Go.Pl

namespace Go.Pl
open Go Go.Ab Go.Wk Go.Pc
theorem zLQ {p:Int} {d:Nat} (hp:2 ≤ p):∀ c ∈ xJ d,Row p d c:=fun c hc => by
 obtain ⟨k,_,rfl⟩:=List.mem_map.1 hc
 exact uO hp
theorem zPF {p:Int} (hp:2 ≤ p) {d:Nat} {w:Vec} (hw:Row p d w):sig (tlv p d) ⟨p,zeros d,xJ d⟩ w = w:=by
 unfold sig
 rw [zEe,zBu (S:=Row p d) (m':=adv p d) (fun a b ha hb => sW hp d a b ha hb) (fun _ _ _ _ => jT (by omega)) (xJ d) w _ (zLQ hp) (sB (by omega)),zEf (by omega) (xJ d) w _ (by rw [hw.1];simp [xJ]) (fun i hi => (hw.2 i (by rw [← hw.1];exact hi)).1) (sB (by omega))]
 conv => rhs;rw [tR hw.1]
 refine yA fun j hj => ?_
 have hul:(xJ d).length = d:=by simp [xJ]
 rw [hul,tV,Int.zero_add,zFl (k:=j) hj (fun k hk hne => by rw [zBv hk hj,if_neg (Ne.symm hne),Int.mul_zero]),zBv hj hj,if_pos rfl,Int.mul_one,qV (hw.2 j hj)]
structure LCn (x e:SPr) (k:Nat):Prop where
 c1:∀ j,k + 1 ≤ j → j < x.zA.length → pw (mul (suf e (k + 1))) (zeros (suf e (k + 1)).length) ((lvl e k).cs.getD (j - (k + 1)) []) (at0 e.zA j).toNat = sig (suf e (k + 1)) (lvl e k) ((e.zR.getD j []).drop (k + 1))
 c2:∀ i,k + 1 ≤ i → i < x.zA.length → ∀ j,i + 1 ≤ j → j < x.zA.length →
  mul (suf e (k + 1)) ((lvl e k).cs.getD (j - (k + 1)) []) ((lvl e k).cs.getD (i - (k + 1)) []) = mul (suf e (k + 1)) ((lvl e k).cs.getD (i - (k + 1)) []) (sig (suf e (k + 1)) (lvl e k) (((e.zB.getD i []).getD (j - (i + 1)) []).drop (k + 1)))
 c3:sig (suf e (k + 1)) (lvl e k) (lvl e k).w = (lvl e k).w
 c4:∀ j,k + 1 ≤ j → j < x.zA.length → mul (suf e (k + 1)) (lvl e k).w (iter (lvl e k).o.toNat (sig (suf e (k + 1)) (lvl e k)) (wL (e.zA.length - (k + 1)) (j - (k + 1)))) = mul (suf e (k + 1)) (wL (e.zA.length - (k + 1)) (j - (k + 1))) (lvl e k).w
section
variable {D:Nat} {x:SPr} {m:zC} {T:Mx} (h:Pres x) (hE:ExB x.zA.length D x m T) (hT:∀ i,i < T.length → Row m.Prime D (T.getD i []))
 include h hE hT
theorem zNJ {k j:Nat} (hk:k < x.zA.length) (hj:x.zA.length ≤ j) (h2:j < x.zA.length + D):(lvl (exx D x m T) k).cs.getD (j - (k + 1)) [] = zeros (x.zA.length - (k + 1)) ++ (m.zE.getD k []).getD (j - x.zA.length) []:=by
 rw [zFz h hE hT hk,List.getD_eq_getElem?_getD,List.getElem?_append_right (by rw [zCM h hE hT];omega),zCM h hE hT,eC2]
 simp only [gl,List.getElem?_map]
 rw [List.getElem?_range (by omega),show j - (k + 1) - (x.zA.length - 1 - k) = j - x.zA.length from by omega,show x.zA.length - 1 - k = x.zA.length - (k + 1) from by omega]
 rfl
theorem zQF {k j:Nat} (hk:k < x.zA.length) (hj:k + 1 ≤ j) (h2:j < x.zA.length):(lvl (exx D x m T) k).cs.getD (j - (k + 1)) [] = (lvl x k).cs.getD (j - (k + 1)) [] ++ T.getD (base x.zA.length k + (j - (k + 1))) []:=by
 rw [zFz h hE hT hk,List.getD_eq_getElem?_getD,List.getElem?_append_left (by rw [zCM h hE hT];omega),eC1]
 simp only [gl,List.getElem?_map]
 rw [List.getElem?_range (by omega)]
 rfl
theorem zQG {i j:Nat} (hi:i < j) (hj:j < x.zA.length):Row m.Prime D (T.getD (base x.zA.length i + (j - (i + 1))) []):=by
 have _:=h
 have hn:=hE.hn
 have hb:=zEb x.zA.length (by omega) i (by omega)
 exact hT _ (by rw [hE.t];omega)
theorem zJH {i:Nat} (hi:i < x.zA.length):Row m.Prime D (T.getD i []):=by
 have _:=h
 have hn:=hE.hn
 have hb:=qE x.zA.length (by omega)
 exact hT _ (by rw [hE.t];omega)
theorem zJI {k j:Nat} (hj:k ≤ j) (h2:j < x.zA.length):((exx D x m T).zR.getD j []).drop (k + 1) = (x.zR.getD j []).drop (k + 1) ++ T.getD j []:=by
 have t1:=(h.tl j h2).1.1.1
 have _:=hE;have _:=hT
 have hP:(exx D x m T).zR.getD j [] = exP x.zA.length D x T j:=tQ (by omega)
 rw [hP,exP,if_pos h2,List.drop_append_of_le_length (by omega)]
theorem zR6 {k j:Nat} (hk:k < x.zA.length) (hj:x.zA.length ≤ j) (h2:j < x.zA.length + D):((exx D x m T).zR.getD j []).drop (k + 1) = zeros (x.zA.length - (k + 1)) ++ zeros D:=by
 have _:=h;have _:=hE;have _:=hT
 have hP:(exx D x m T).zR.getD j [] = exP x.zA.length D x T j:=tQ (by omega)
 rw [hP,exP,if_neg (by omega),List.drop_replicate]
 simp only [zeros,List.replicate_append_replicate];congr 1;omega
theorem zF3 {i:Nat} (hi:i < x.zA.length + D):(exx D x m T).zB.getD i [] = exC x.zA.length D x m T i:=by
 have _:=h;have _:=hE;have _:=hT
 show (gl (x.zA.length + D) (exC x.zA.length D x m T)).getD i [] = _
 simp [gl,List.getD_eq_getElem?_getD,hi]
theorem zJJ {k i j:Nat} (hk:k ≤ i) (hi:i < j) (hj:j < x.zA.length):(((exx D x m T).zB.getD i []).getD (j - (i + 1)) []).drop (k + 1) = ((x.zB.getD i []).getD (j - (i + 1)) []).drop (k + 1) ++ T.getD (base x.zA.length i + (j - (i + 1))) []:=by
 obtain ⟨_,t2,t3⟩:=h.tl i (by omega)
 have t:=(t3 (j - (i + 1)) (by omega)).1.1
 rw [zF3 h hE hT (by omega),exC,if_pos (by omega),tQ (by omega),exF,if_pos (by omega),List.drop_append_of_le_length (by omega)]
theorem zR7 {k i j:Nat} (hk:k < x.zA.length) (hi:i < x.zA.length) (hj:x.zA.length ≤ j) (h2:j < x.zA.length + D):(((exx D x m T).zB.getD i []).getD (j - (i + 1)) []).drop (k + 1) = zeros (x.zA.length - (k + 1)) ++ (m.zE.getD i []).getD (j - x.zA.length) []:=by
 rw [zF3 h hE hT (by omega),exC,if_pos (by omega),tQ (by omega),exF,if_neg (by omega),List.drop_append_of_le_length (by simp;omega),List.drop_replicate,show j - (i + 1) - (x.zA.length - 1 - i) = j - x.zA.length from by omega]
 rfl
theorem zR8 {k i j:Nat} (hk:k < x.zA.length) (hi:x.zA.length ≤ i) (hj:i < j) (h2:j < x.zA.length + D):(((exx D x m T).zB.getD i []).getD (j - (i + 1)) []).drop (k + 1) = zeros (x.zA.length - (k + 1)) ++ wL D (j - x.zA.length):=by
 rw [zF3 h hE hT (by omega),exC,if_neg (by omega),unC,tQ (by omega),zAb,zFx,← zI0 (by omega),qF]
 rw [show x.zA.length + D - (k + 1) = x.zA.length - (k + 1) + D from by omega]
 refine yA fun q _ => ?_
 by_cases g:q = x.zA.length - (k + 1) + (j - x.zA.length)
 ·rw [if_pos g,if_pos (by omega)]
 ·rw [if_neg g,if_neg (by omega)]
theorem zPG (hr:zGT x m D) {k:Nat} (hk:k < x.zA.length):pw (PM m.Prime D) (idM D) (m.zE.getD k []) (at0 x.zA k).toNat = aM m D (k + 1) (lvl x k).w ∧
  ∀ i,k < i → i < x.zA.length → PM m.Prime D (m.zE.getD i []) (m.zE.getD k []) = PM m.Prime D (m.zE.getD k []) (aM m D (k + 1) ((lvl x k).cs.getD (i - (k + 1)) [])):=by
 have R:=zLb h hE.m hr (x.zA.length - k) k (by omega)
 rw [yF hk,zI1 h hE hT hk] at R
 obtain ⟨r1,r2,_⟩:=R
 refine ⟨r1,fun i h1 h2 => ?_⟩
 have hcl:=qU h.w hk
 have hl:=hE.m.len
 refine r2 (i - (k + 1)) _ _ ?_ ?_
 ·rw [List.getElem?_drop,show k + 1 + (i - (k + 1)) = i from by omega,List.getD_eq_getElem?_getD,List.getElem?_eq_getElem (by omega)];rfl
 ·rw [List.getD_eq_getElem?_getD,List.getElem?_eq_getElem (by omega)];rfl
theorem zv {k:Nat} (hk:k ≤ x.zA.length):V (suf x k) (zeros (x.zA.length - k)):=by
 have _:=hE;have _:=hT
 have:=wH (h.okAt hk)
 rwa [yX] at this
theorem zR9 (hr:zGT x m D) {k:Nat} (hk:k < x.zA.length) (hc:LCn x (exx D x m T) k):LC (exx D x m T) k:=by
 have hp:=hE.m.p.pos
 have hl:=vX h hE hT
 have hA:=hE.m.mat k hk
 obtain ⟨r1,r2⟩:=zPG h hE hT hr hk
 have hz:=zv h hE hT (k:=k + 1) (by omega)
 have hD0:Row m.Prime D (zeros D):=sB (by omega)
 have hw:=(zRz h hk).2
 refine ⟨fun j h1 h2 => ?_,fun i h1 h2 j h3 h4 => ?_,hc.c3,fun j h1 h2 => ?_⟩
 ·rw [hl] at h2
  rcases Nat.lt_or_ge j x.zA.length with g | g
  ·exact hc.c1 j h1 g
  ·have hq:=hA.2 (j - x.zA.length) (by omega)
   rw [zNJ h hE hT hk g h2,zR6 h hE hT hk g h2,zEg h hE hT hk hD0,zJG,zAu h hE hT g h2,zBb h hE hT (by omega)]
   have e:=zJE h hE hT (d:=x.zA.length - (k + 1)) (k:=k + 1) (by omega) [(m.zE.getD k []).getD (j - x.zA.length) []] [m.Prime] _ _ (fun r hr => by rw [List.mem_singleton.1 hr];exact hq) hz hD0
   have e2:iter m.Prime.toNat (fun w => adv m.Prime D w ((m.zE.getD k []).getD (j - x.zA.length) [])) (zeros D) = zeros D:=zNF (by omega)
   unfold pw
   refine e.trans ?_
   show zeros _ ++ iter m.Prime.toNat (fun w => adv m.Prime D w ((m.zE.getD k []).getD (j - x.zA.length) [])) (zeros D) = _
   rw [e2]
 ·rw [hl] at h4
  rcases Nat.lt_or_ge j x.zA.length with g | g
  ·exact hc.c2 i h1 (by omega) j h3 g
  ·have hq:=hA.2 (j - x.zA.length) (by omega)
   rw [zNJ h hE hT hk g h4]
   rcases Nat.lt_or_ge i x.zA.length with gi | gi
   ·have hAi:=hE.m.mat i gi
    have hqi:=hAi.2 (j - x.zA.length) (by omega)
    have hcv:=(qD h hk h1 gi).2.2
    have ht:=zQG h hE hT (i:=k) (j:=i) (by omega) gi
    rw [zQF h hE hT hk h1 gi,zR7 h hE hT hk gi g h4,zEg h hE hT hk hqi,zNI h hE hT _ (k + 1) (by omega) _ _ _ hq hcv ht,zGt h hE hT _ (k + 1) (by omega) _ _ _ hcv ht (zAa (by omega)),zBa]
    congr 2
    rw [← zAt (by rw [hA.1];omega),← zAt (by rw [hAi.1];omega),r2 i (by omega) gi]
   ·have hqi:=hA.2 (i - x.zA.length) (by omega)
    rw [zNJ h hE hT hk gi (by omega),zR8 h hE hT hk gi (by omega) h4,zEg h hE hT hk (uO (by omega)),zLP (by omega) hA,zGt h hE hT _ (k + 1) (by omega) _ _ _ hz hq hqi,zGt h hE hT _ (k + 1) (by omega) _ _ _ hz hqi hq,zBa]
 ·rw [hl] at h2 ⊢
  rcases Nat.lt_or_ge j x.zA.length with g | g
  ·have:=hc.c4 j h1 g
   rwa [hl] at this
  ·have ht:=zJH h hE hT hk
   have hu:Row m.Prime D (wL D (j - x.zA.length)):=uO (by omega)
   rw [show x.zA.length + D - (k + 1) = x.zA.length - (k + 1) + D from by omega,show j - (k + 1) = x.zA.length - (k + 1) + (j - x.zA.length) from by omega,zI0 (by omega),zFy h hE hT hk,zF2 h hE hT hk _ hu,zQE h hE hT hk,zD0 hA (by omega) hu,r1,zNI h hE hT _ (k + 1) (by omega) _ _ _ hu hw ht,zGt h hE hT _ (k + 1) (by omega) _ _ _ hw ht (zAa (by omega)),zBa]
theorem zRA {k:Nat} (hk:x.zA.length ≤ k) (h2:k < x.zA.length + D):LC (exx D x m T) k:=by
 have hp:=hE.m.p.pos
 have hl:=vX h hE hT
 have hs:=zAv h hE hT (x.zA.length + D - (k + 1)) (k + 1) (by omega) (by omega)
 have hL:=zAv h hE hT (x.zA.length + D - (k + 1) + 1) k (by omega) (by omega)
 rw [yF (by omega),hs,tlv] at hL
 have hlv:lvl (exx D x m T) k = ⟨m.Prime,zeros (x.zA.length + D - (k + 1)),xJ (x.zA.length + D - (k + 1))⟩:=(List.cons.inj hL).1
 generalize hd:x.zA.length + D - (k + 1) = d at *
 have hsig:∀ w,Row m.Prime d w → sig (tlv m.Prime d) ⟨m.Prime,zeros d,xJ d⟩ w = w:=fun w hw => zPF (by omega) hw
 have hzr:Row m.Prime d (zeros d):=sB (by omega)
 have hum:∀ j,(xJ d).getD j [] = if j < d then wL d j else []:=fun j => by
  by_cases g:j < d
  ·rw [if_pos g,zFg g]
  ·rw [if_neg g,List.getD_eq_getElem?_getD,List.getElem?_eq_none (by simp [xJ];omega)];rfl
 refine ⟨fun j h1 h3 => ?_,fun i h1 h3 j h4 h5 => ?_,?_,fun j h1 h3 => ?_⟩
 ·rw [hl] at h3
  have hP:(exx D x m T).zR.getD j [] = exP x.zA.length D x T j:=tQ (by omega)
  rw [hs,hlv,zAu h hE hT (by omega) h3,hP,exP,if_neg (by omega),List.drop_replicate,hd]
  show pw (mul (tlv m.Prime d)) (zeros (tlv m.Prime d).length) ((xJ d).getD (j - (k + 1)) []) m.Prime.toNat = sig (tlv m.Prime d) ⟨m.Prime,zeros d,xJ d⟩ (zeros d)
  rw [hsig _ hzr,hum,if_pos (by omega),zEe]
  have e:=zBu (S:=Row m.Prime d) (m':=adv m.Prime d) (fun a b ha hb => sW (by omega) d a b ha hb) (fun _ _ _ _ => jT (by omega)) [wL d (j - (k + 1))] [m.Prime] (zeros d) (fun c hc => by rw [List.mem_singleton.1 hc];exact uO (by omega)) hzr
  exact e.trans (zNF (by omega))
 ·rw [hl] at h3 h5
  rw [hs,hlv,zF3 h hE hT h3,exC,if_neg (by omega),unC,tQ (by omega),zAb,zFx,hd]
  have e:(mkv d fun q => if k + 1 + q = i + 1 + (j - (i + 1)) then (1:Int) else 0) = wL d (j - (k + 1)):=by
   rw [qF]
   refine yA fun q _ => ?_
   by_cases g:q = j - (k + 1)
   ·rw [if_pos g,if_pos (by omega)]
   ·rw [if_neg g,if_neg (by omega)]
  rw [e,hsig _ (uO (by omega))]
  show mul (tlv m.Prime d) ((xJ d).getD (j - (k + 1)) []) ((xJ d).getD (i - (k + 1)) []) = mul (tlv m.Prime d) ((xJ d).getD (i - (k + 1)) []) (wL d (j - (k + 1)))
  rw [hum,hum,if_pos (by omega),if_pos (by omega),sW (by omega) d _ _ (uO (by omega)) (uO (by omega)),sW (by omega) d _ _ (uO (by omega)) (uO (by omega)),zBa]
 ·rw [hs,hlv,hsig _ hzr]
 ·rw [hl] at h3 ⊢
  have hu:Row m.Prime d (wL d (j - (k + 1))):=uO (by omega)
  rw [hs,hlv,hd,zFw (hsig _ hu),sW (by omega) d _ _ hzr hu,sW (by omega) d _ _ hu hzr,zBa]
theorem zI3:∀ (d k:Nat),x.zA.length ≤ k → k + d = x.zA.length + D → vB (suf (exx D x m T) k)
 | 0,k,hk,hd => by
  rw [vV (by rw [vX h hE hT];omega)];simp only [vB]
 | d + 1,k,hk,hd => (kY (zEd h hE hT) (by rw [vX h hE hT];omega)).2 ⟨zI3 d (k + 1) (by omega) (by omega),zRA h hE hT hk (by omega)⟩
theorem zPH (hr:zGT x m D):vB (suf (exx D x m T) 0) ↔ ∀ k,k < x.zA.length → LCn x (exx D x m T) k:=by
 have hl:=vX h hE hT
 have key:∀ (d k:Nat),k + d = x.zA.length → (vB (suf (exx D x m T) k) ↔ ∀ i,k ≤ i → i < x.zA.length → LCn x (exx D x m T) i):=by
  intro d
  induction d with
  | zero => intro k hk;exact ⟨fun _ i h1 h2 => by omega,fun _ => zI3 h hE hT D k (by omega) (by omega)⟩
  | succ d ih =>
   intro k hk
   rw [kY (zEd h hE hT) (by omega),ih (k + 1) (by omega)]
   constructor
   ·rintro ⟨g1,g2⟩ i h1 h2
    rcases Nat.lt_or_ge k i with g | g
    ·exact g1 i (by omega) h2
    ·obtain rfl:i = k:=by omega
     exact ⟨fun j a b => g2.c1 j a (by omega),fun i a b j c d => g2.c2 i a (by omega) j c (by omega),g2.c3,fun j a b => g2.c4 j a (by omega)⟩
   ·exact fun g => ⟨fun i h1 h2 => g i (by omega) h2,zR9 h hE hT hr (by omega) (g k (by omega) (by omega))⟩
 have:=key x.zA.length 0 (by omega)
 rw [this]
 exact ⟨fun g k hk => g k (by omega) hk,fun g k _ hk => g k hk⟩
end
end Go.Pl

namespace Go.Pl
open Go Go.Ab Go.Wk Go.Pc
def prE (x:SPr) (k:Nat) (w:Vec):zD:=⟨fv k (w.take (x.zA.length - k)),w.drop (x.zA.length - k)⟩
theorem tG {x:SPr} {k:Nat} {y u:Vec} (hy:y.length = x.zA.length - k):prE x k (y ++ u) = ⟨fv k y,u⟩:=by
 rw [prE,List.take_left' hy,List.drop_left' hy]
theorem zAw {α α' β:Type} {body:α × α' × Int → Option ((α × α' × Int) ⊕ (α × α'))} {S:β → Prop} (e1:β → α) (e2:β → α') (g:β → β) (n:Int) (hn:0 ≤ n) (hS:∀ a,S a → S (g a))
  (h:∀ a (i:Nat),S a → (i:Int) < n → body (e1 a,e2 a,(i:Int)) = some (.inl (e1 (g a),e2 (g a),((i + 1:Nat):Int)))) (he:∀ a,S a → body (e1 a,e2 a,n) = some (.inr (e1 a,e2 a))) {a:β} (ha:S a) :
  zJ body (e1 a,e2 a,0) = some (e1 (iter n.toNat g a),e2 (iter n.toNat g a)):=by
 have hit:∀ k,S (iter k g a):=fun k => wU (S:=S) hS k ha
 exact zW (body:=body) (r:=(e1 (iter n.toNat g a),e2 (iter n.toNat g a))) (fun i => (e1 (iter i g a),e2 (iter i g a),(i:Int))) n.toNat (fun i hi => by
  rw [h _ i (hit i) (by omega),vA]) (by
  rw [show ((n.toNat:Nat):Int) = n from by omega]
  exact he _ (hit _))
structure Mv (D n:Nat) (m0 m:zC):Prop where
 pr:m0.Prime = m.Prime
 mv:∀ k,k < n → ∀ u,Row m.Prime D u → f_Y m0 u (k:Int) = some (tF m.Prime D u (m.zE.getD k []))
theorem Mv.self {n D:Nat} {m:zC} (hE:MOk n m D):Mv D n m m:=by
 refine ⟨rfl,fun k hk u hu => ?_⟩
 have h3:=hE.d3
 have h1:=hE.d1
 have hA:=hE.mat k hk
 have hul:=hu.1
 have hl:=hE.len
 unfold f_Y
 have e1:zMg m u (k:Int) ([],0) = some (.inl (tF m.Prime D u (m.zE.getD k []),(D:Int))):=by
  unfold zMg
  simp only
  rw [decide_eq_true (by omega),zK,hE.d,zH (by omega) (by omega),bs,Int.zero_add]
  have hsl:yB u 0 (D:Int) = some u:=by
   unfold yB
   rw [if_pos ⟨by omega,by omega,by omega⟩]
   congr 1
   rw [show ((D:Int)).toNat = D from by omega,show (0:Int).toNat = 0 from rfl,List.drop_zero,List.take_of_length_le (by omega)]
  rw [hsl,bs,yO [] (by omega),bs,zFn hE.p (by omega) hu hA,bs,wA (by rw [tF,yN];simp;omega),bs,bs,List.nil_append]
 have e2:zMg m u (k:Int) (tF m.Prime D u (m.zE.getD k []),(D:Int)) = some (.inr (tF m.Prime D u (m.zE.getD k []))):=by
  unfold zMg
  simp only
  rw [decide_eq_false (by omega),zG]
 rw [xK,e1]
 simp only
 rw [xK,e2]
 rfl
section
variable {D:Nat} {x:SPr} {m0 m:zC} {T:Mx} (h:Pres x) (hE:ExB x.zA.length D x m T) (hT:∀ i,i < T.length → Row m.Prime D (T.getD i []))
def zNK (D:Nat) (x:SPr) (m0 m:zC) (T:Mx) (k:Nat) (g:zO → Int → zD → zD → Option zD):Prop :=
 ∀ a b,V (suf (exx D x m T) k) a → V (suf (exx D x m T) k) b → g ⟨x,m0,T⟩ k (prE x k a) (prE x k b) = some (prE x k (mul (suf (exx D x m T) k) a b))
def zNL (D:Nat) (x:SPr) (m0 m:zC) (T:Mx) (k:Nat) (g:zO → Int → zD → Option zD):Prop :=
 ∀ v,V (suf (exx D x m T) (k + 1)) v → g ⟨x,m0,T⟩ k (prE x (k + 1) v) = some (prE x (k + 1) (sig (suf (exx D x m T) (k + 1)) (lvl (exx D x m T) k) v))
 include h hE hT
theorem zLe {k i j:Nat} (hk:k ≤ i) (hi:i < j) (hj:j < x.zA.length):f_O ⟨x,m0,T⟩ (i:Int) (j:Int) = some (prE x (k + 1) ((((exx D x m T).zB.getD i []).getD (j - (i + 1)) []).drop (k + 1))) ∧ V (suf (exx D x m T) (k + 1)) ((((exx D x m T).zB.getD i []).getD (j - (i + 1)) []).drop (k + 1)):=by
 have hn:=hE.hn
 have hb:=zEb x.zA.length (by omega) i (by omega)
 have ht:=hE.t
 obtain ⟨_,t2,t3⟩:=h.tl i (by omega)
 have tt:=t3 (j - (i + 1)) (by omega)
 obtain ⟨e1,e2⟩:=zAU (k:=k + 1) tt (by omega) (by omega)
 have hl:=tU h (by omega) e2
 have hcl:=h.cl
 have hr:=zQG h hE hT hi hj
 refine ⟨?_,?_⟩
 ·rw [zJJ h hE hT hk hi hj,tG hl,← e1]
  unfold f_O
  dsimp only
  rw [yO [] (by omega),bs,zH (by omega) (by omega),bs,zH (by omega) (by omega),bs,show (j:Int) - (i:Int) - 1 = ((j - (i + 1):Nat):Int) from by omega,yO [] (by omega),bs,zJ5 x.zA.length (by omega) j hj i hi,bs,yO [] (by omega),bs,show j - i - 1 = j - (i + 1) from by omega]
 ·rw [zJJ h hE hT hk hi hj]
  exact (zBJ h hE hT (x.zA.length - (k + 1)) (k + 1) (by omega) _).2 ⟨_,_,rfl,e2,hr⟩
theorem zCN {k j:Nat} (hk:k < j) (hj:j < x.zA.length):f_O ⟨x,m0,T⟩ (k:Int) (j:Int) = some (prE x (k + 1) ((lvl (exx D x m T) k).cs.getD (j - (k + 1)) [])) ∧ V (suf (exx D x m T) (k + 1)) ((lvl (exx D x m T) k).cs.getD (j - (k + 1)) []):=by
 have e:(lvl (exx D x m T) k).cs.getD (j - (k + 1)) [] = (((exx D x m T).zB.getD k []).getD (j - (k + 1)) []).drop (k + 1):=by
  have hC:((exx D x m T).zB.getD k []).length = x.zA.length + D - 1 - k:=by rw [zF3 h hE hT (by omega),exC,if_pos (by omega),tA]
  simp only [lvl]
  rw [List.getD_eq_getElem?_getD,List.getElem?_map,List.getElem?_eq_getElem (by omega),List.getD_eq_getElem?_getD (l:=(exx D x m T).zB.getD k []),List.getElem?_eq_getElem (by omega)]
  rfl
 rw [e]
 exact zLe h hE hT (Nat.le_refl k) hk hj
theorem zGZ {k j:Nat} (hk:k ≤ j) (hj:j < x.zA.length):zJR ⟨x,m0,T⟩ (j:Int) = some (prE x (k + 1) (((exx D x m T).zR.getD j []).drop (k + 1))) ∧ V (suf (exx D x m T) (k + 1)) (((exx D x m T).zR.getD j []).drop (k + 1)):=by
 have hn:=hE.hn
 have hb:=qE x.zA.length (by omega)
 have ht:=hE.t
 have hpl:=h.pl
 have t1:=(h.tl j hj).1
 obtain ⟨e1,e2⟩:=zAU (k:=k + 1) t1 (by omega) (by omega)
 have hl:=tU h (by omega) e2
 have hr:=zJH h hE hT hj
 refine ⟨?_,?_⟩
 ·rw [zJI h hE hT hk hj,tG hl,← e1]
  unfold zJR
  dsimp only
  rw [yO [] (by omega),bs,yO [] (by omega),bs]
 ·rw [zJI h hE hT hk hj]
  exact (zBJ h hE hT (x.zA.length - (k + 1)) (k + 1) (by omega) _).2 ⟨_,_,rfl,e2,hr⟩
theorem zHa {k:Nat} (hk:k ≤ x.zA.length) (h0:0 < x.zA.length):zIN ⟨x,m0,T⟩ = some (prE x k (zeros (suf (exx D x m T) k).length)):=by
 have hn:=hE.hn
 have h3:=hE.m.d3
 have hb:=qE x.zA.length (by omega)
 have ht:=hE.t
 have hr:=zJH h hE hT h0
 have hrl:=hr.1
 unfold zIN
 dsimp only
 have e0:ixO T 0 = some (T.getD 0 []):=yO (i:=0) [] (by omega)
 rw [decide_eq_true (by omega),zK,e0,bs,xF (by omega),bs,xF (by omega),bs,zBb h hE hT hk,tG (zQ _),hrl,fv]
 congr 2
 simp only [zeros,List.replicate_append_replicate];congr 1;omega
theorem zNM {u v:Vec} (hu:Row m.Prime D u) (hv:Row m.Prime D v):f_K m.Prime u 1 v = some (adv m.Prime D u v):=by
 have _:=h;have _:=hT
 have h3:=hE.m.d3
 rw [zDK hE.m.p hu hv (by omega) (by omega)]
 congr 1
 exact yA fun j _ => by rw [Int.one_mul]
theorem prV {k:Nat} (hk:k ≤ x.zA.length) {w:Vec} (hw:V (suf (exx D x m T) k) w):∃ y u,w = y ++ u ∧ V (suf x k) y ∧ Row m.Prime D u ∧ prE x k w = ⟨fv k y,u⟩ ∧ y.length = x.zA.length - k:=by
 obtain ⟨y,u,rfl,hy,hu⟩:=(zBJ h hE hT (x.zA.length - k) k (by omega) _).1 hw
 have hyl:=tU h hk hy
 exact ⟨y,u,rfl,hy,hu,tG hyl,hyl⟩
variable (hM:Mv D x.zA.length m0 m)
 include hM
theorem zI4 {k:Nat} (hk:k < x.zA.length) {g:zO → Int → zD → zD → Option zD} (hg:zNK D x m0 m T (k + 1) g):zNL D x m0 m T k (b_f g):=by
 intro v hv
 have hn:=hE.hn
 have hp:=hE.m.p.pos
 have ok:=zAc h hE hT (k:=k + 1) (by omega)
 have hA:=hE.m.mat k hk
 obtain ⟨y,u,rfl,hy,hu,hpr,hyl⟩:=prV h hE hT (k:=k + 1) (by omega) hv
 obtain ⟨_,hyr⟩:=zCh h.os (x.zA.length - (k + 1)) (k + 1) y (by omega) hy
 have hcl:=zCM h hE hT (k:=k)
 have hcs:=zND h hE hT hk
 have hcg:∀ i,i < x.zA.length - (k + 1) → (eC1 x T k).getD i [] = (lvl (exx D x m T) k).cs.getD i []:=fun i hi => by
  rw [zFz h hE hT hk,List.getD_eq_getElem?_getD,List.getD_eq_getElem?_getD,List.getElem?_append_left (by omega)]
 obtain ⟨A,hAe⟩:∃ A:Nat → Vec,∀ i,A i = img (mul (suf (exx D x m T) (k + 1))) ((eC1 x T k).take i) (y.take i) (zeros (suf (exx D x m T) (k + 1)).length):=⟨_,fun _ => rfl⟩
 have hI:∀ i,V (suf (exx D x m T) (k + 1)) (A i):=fun i => by
  rw [hAe];exact tZ (xE ok) _ _ (fun c hc => hcs c (List.mem_of_mem_take hc)) (wH ok)
 have hA0:A 0 = zeros (suf (exx D x m T) (k + 1)).length:=by rw [hAe];simp only [List.take_zero,img]
 have hAn:A (x.zA.length - (k + 1)) = sgG D x m T k y:=by
  rw [hAe,List.take_of_length_le (by omega),List.take_of_length_le (by omega)];rfl
 rw [hpr]
 unfold b_f
 dsimp only
 rw [zHa h hE hT (k:=k + 1) (by omega) (by omega),bs,zH (by omega) (by omega),bs,cs]
 have:=zW (body:=zPa g ⟨x,m0,T⟩ k ⟨fv (k + 1) y,u⟩) (r:=((prE x (k + 1) (sgG D x m T k y)).x,(prE x (k + 1) (sgG D x m T k y)).v))
  (fun i => ((prE x (k + 1) (A i)).x,(prE x (k + 1) (A i)).v,((k + 1 + i:Nat):Int))) (x.zA.length - (k + 1)) (fun i hi => by
  have hr:=hyr i hi
  obtain ⟨c1,c2⟩:=zCN h hE hT (k:=k) (j:=k + 1 + i) (by omega) (by omega)
  rw [show k + 1 + i - (k + 1) = i from by omega] at c1 c2
  unfold zPa
  dsimp only
  rw [decide_eq_true (by rw [zAS h (by omega) hy];omega),zK]
  rw [zAw (S:=V (suf (exx D x m T) (k + 1))) (fun w => (prE x (k + 1) w).x) (fun w => (prE x (k + 1) w).v) (fun w => mul (suf (exx D x m T) (k + 1)) w ((lvl (exx D x m T) k).cs.getD i [])) (at0 y i) hr.1 (fun w hw => xE ok hw c2) (fun w q hw hq => by
   unfold zQf
   dsimp only
   rw [fv,zIb (by omega),bs,decide_eq_true hq,zK,zH (by omega) (by omega),bs,c1,bs,cs,show (zD.mk (prE x (k + 1) w).x (prE x (k + 1) w).v) = prE x (k + 1) w from rfl,hg w _ hw c2,bs,zH (by omega) (by omega),bs,cs]) (fun w hw => by
   unfold zQf
   dsimp only
   rw [fv,zIb (by omega),bs,decide_eq_false (by omega),zG]) (hI i),bs,zH (by omega) (by omega),bs,cs]
  rw [hAe (i + 1),kW _ _ _ _ (by omega) (by omega),hcg i hi,← hAe]
  rfl) (by
  unfold zPa
  dsimp only
  rw [decide_eq_false (by rw [zAS h (by omega) hy];omega),zG,hAn])
 rw [hA0,Nat.add_zero] at this
 rw [this,bs,hM.mv k hk _ hu,bs]
 obtain ⟨y1,u1,e,hy1,hu1,hpr1,hyl1⟩:=prV h hE hT (k:=k + 1) (by omega) (zNE h hE hT hk (y:=y))
 rw [zJF h hE hT hk hy hu,hpr1,e,List.take_left' hyl1,List.drop_left' hyl1,tG hyl1]
 dsimp only
 rw [hM.pr,zNM h hE hT hu1 (zAa (by omega)),bs]
theorem zNN {k:Nat} (hk:k < x.zA.length) {g:zO → Int → zD → zD → Option zD} {gi:zO → Int → zD → Option zD} (hg:zNK D x m0 m T (k + 1) g) (hi:zNL D x m0 m T k gi):zNK D x m0 m T k (b_d gi g):=by
 have _:=hM
 intro a b ha hb
 have hn:=hE.hn
 have hl:=vX h hE hT
 have hp:=(h.os.2 k hk).pos
 have ok:=zAc h hE hT (k:=k + 1) (by omega)
 have ok0:=zAc h hE hT (k:=k) (by omega)
 obtain ⟨al,au,rfl,hal,hau,hpa,hall⟩:=prV h hE hT (k:=k) (by omega) ha
 obtain ⟨bl,bu,rfl,hbl,hbu,hpb,hbll⟩:=prV h hE hT (k:=k) (by omega) hb
 rw [hpa,hpb]
 rw [yF (x:=x) hk] at hal hbl
 rw [yF (x:=exx D x m T) (by omega)] at ok0 ⊢
 obtain ⟨a0,a,rfl⟩:∃ a0 a',al = a0 :: a':=by cases al with | nil => exact hal.elim | cons p q => exact ⟨p,q,rfl⟩
 obtain ⟨b0,b,rfl⟩:∃ a0 a',bl = a0 :: a':=by cases bl with | nil => exact hbl.elim | cons p q => exact ⟨p,q,rfl⟩
 obtain ⟨⟨a1,a2⟩,hal⟩:=hal
 obtain ⟨⟨b1,b2⟩,hbl⟩:=hbl
 change a0 < at0 x.zA k at a2
 change b0 < at0 x.zA k at b2
 have hal1:=tU h (by omega) hal
 have hbl1:=tU h (by omega) hbl
 have hA:=(zBJ h hE hT (x.zA.length - (k + 1)) (k + 1) (by omega) (a ++ au)).2 ⟨_,_,rfl,hal,hau⟩
 have hB:=(zBJ h hE hT (x.zA.length - (k + 1)) (k + 1) (by omega) (b ++ bu)).2 ⟨_,_,rfl,hbl,hbu⟩
 have own:∀ u,V (suf x (k + 1)) u → f_u (fv (k + 1) u) = some (fv (k + 1) u):=fun u hu => kV (by
  rw [zAS h (by omega) hu];omega)
 have own':∀ (c:Int) u,V (suf x (k + 1)) u → f_u (fv k (c :: u)) = some (fv k (c :: u)):=fun c u hu => kV (by
  have:=tU h (by omega) hu
  rw [fv,List.length_append,zQ,List.length_cons];omega)
 have hsig:∀ u,V (suf (exx D x m T) (k + 1)) u → V (suf (exx D x m T) (k + 1)) (sig (suf (exx D x m T) (k + 1)) (lvl (exx D x m T) k) u):=fun u hu => zCe ok0 hu
 have hit:V (suf (exx D x m T) (k + 1)) (iter b0.toNat (sig (suf (exx D x m T) (k + 1)) (lvl (exx D x m T) k)) (a ++ au)):=wU hsig _ hA
 have ea:(⟨fv (k + 1) a,au⟩:zD) = prE x (k + 1) (a ++ au):=(tG hal1).symm
 have eb:(⟨fv (k + 1) b,bu⟩:zD) = prE x (k + 1) (b ++ bu):=(tG hbl1).symm
 unfold b_d
 dsimp only
 rw [decide_eq_false (by omega),zG,own' _ _ hal,bs,own' _ _ hbl,bs,zAQ,bs,zAQ,bs,Int.toNat_natCast,zBD,zBD,zAr,zAr]
 have e1:zJ (zMh gi ⟨x,m0,T⟩ k ⟨fv k (b0 :: b),bu⟩) (zeros (k + 1) ++ a,au,0) = some ((prE x (k + 1) (iter b0.toNat (sig (suf (exx D x m T) (k + 1)) (lvl (exx D x m T) k)) (a ++ au))).x,(prE x (k + 1) (iter b0.toNat (sig (suf (exx D x m T) (k + 1)) (lvl (exx D x m T) k)) (a ++ au))).v):=by
  have:=zAw (body:=zMh gi ⟨x,m0,T⟩ k ⟨fv k (b0 :: b),bu⟩) (S:=V (suf (exx D x m T) (k + 1))) (fun w => (prE x (k + 1) w).x) (fun w => (prE x (k + 1) w).v) (sig (suf (exx D x m T) (k + 1)) (lvl (exx D x m T) k)) b0 b1 hsig (fun w q hw hq => by
   unfold zMh
   dsimp only
   rw [zAQ,bs,decide_eq_true hq,zK,show (zD.mk (prE x (k + 1) w).x (prE x (k + 1) w).v) = prE x (k + 1) w from rfl,hi w hw,bs,zH (by omega) (by omega),bs,cs]) (fun w hw => by
   unfold zMh
   dsimp only
   rw [zAQ,bs,decide_eq_false (by omega),zG]) hA
  rw [← ea] at this
  exact this
 rw [e1,bs,zH (by omega) (by omega),bs,cs]
 dsimp only
 rw [show zeros (k + 1) ++ b = fv (k + 1) b from rfl,eb,show (zD.mk (prE x (k + 1) (iter b0.toNat (sig (suf (exx D x m T) (k + 1)) (lvl (exx D x m T) k)) (a ++ au))).x (prE x (k + 1) (iter b0.toNat (sig (suf (exx D x m T) (k + 1)) (lvl (exx D x m T) k)) (a ++ au))).v) = prE x (k + 1) (iter b0.toNat (sig (suf (exx D x m T) (k + 1)) (lvl (exx D x m T) k)) (a ++ au)) from rfl,hg _ _ hit hB,bs,bs,bs,zH (by omega) (by omega),bs,yW hk,bs]
 have hm:=xE ok hit hB
 show _ = some (prE x k (mul _ (a0 :: (a ++ au)) (b0 :: (b ++ bu))))
 rw [yK,zFy h hE hT hk]
 generalize mul (suf (exx D x m T) (k + 1)) (iter b0.toNat (sig (suf (exx D x m T) (k + 1)) (lvl (exx D x m T) k)) (a ++ au)) (b ++ bu) = r at hm ⊢
 have fin:∀ (c:Int) w,V (suf (exx D x m T) (k + 1)) w → ((f_u (prE x (k + 1) w).x).bind fun r22 => (ixO r22 (k:Int)).bind fun _ => some (zD.mk (r22.set k c) (prE x (k + 1) w).v)) = some (prE x k (c :: w)):=fun c w hw => by
  obtain ⟨w1,w2,rfl,h1,h2,h3,h4⟩:=prV h hE hT (k:=k + 1) (by omega) hw
  have e3:prE x k (c :: (w1 ++ w2)) = ⟨fv k (c :: w1),w2⟩:=tG (y:=c :: w1) (by rw [List.length_cons];omega)
  rw [h3,e3]
  dsimp only
  rw [own _ h1,bs,fv,← zAr,zAQ,bs,zBD]
 by_cases hge:a0 + b0 ≥ at0 x.zA k
 ·obtain ⟨p1,p2⟩:=zGZ h hE hT (k:=k) (j:=k) (Nat.le_refl k) hk
  change V (suf (exx D x m T) (k + 1)) (lvl (exx D x m T) k).w at p2
  rw [decide_eq_true hge,zK,if_pos hge,bs,zH (by omega) (by omega),bs,bs,p1,bs]
  have e4:=hg _ _ p2 hm
  rw [show (((exx D x m T).zR.getD k []).drop (k + 1)) = (lvl (exx D x m T) k).w from rfl,e4,bs]
  exact fin _ _ (xE ok p2 hm)
 ·rw [decide_eq_false hge,zG,if_neg hge]
  exact fin _ _ hm
theorem zCn:∀ (d k:Nat),k + d = x.zA.length → (∀ q,2 * d + 1 ≤ q → zNK D x m0 m T k (zJT q)) ∧ (1 ≤ d → ∀ q,2 * d ≤ q → zNL D x m0 m T k (zJS q))
 | 0,k,hk => by
  refine ⟨fun q hq a b ha hb => ?_,fun h => by omega⟩
  have hn:=hE.hn
  have hp:=hE.m.p.pos
  obtain ⟨q,rfl⟩:∃ m',q = m' + 1:=⟨q - 1,by omega⟩
  rw [zAv h hE hT D k (by omega) (by omega)] at ha hb ⊢
  have ha':=(zDL _ _).1 ha
  have hb':=(zDL _ _).1 hb
  show b_d _ _ ⟨x,m0,T⟩ k _ _ = _
  unfold b_d
  have e:∀ w:Vec,prE x k w = ⟨zeros k,w⟩:=fun w => by
   rw [prE,show x.zA.length - k = 0 from by omega,List.take_zero,List.drop_zero,fv,List.append_nil]
  rw [e,e,e]
  dsimp only
  rw [decide_eq_true (by omega),zK,xF (by omega),bs,hM.pr,zNM h hE hT ha' hb',bs,sW (by omega) D _ _ ha' hb',show x.zA.length = k from by omega]
  rfl
 | d + 1,k,hk => by
  obtain ⟨h1,h2⟩:=zCn d (k + 1) (by omega)
  have hI:∀ q,2 * (d + 1) ≤ q → zNL D x m0 m T k (zJS q):=fun q hq => by
   obtain ⟨q,rfl⟩:∃ m',q = m' + 1:=⟨q - 1,by omega⟩
   exact zI4 h hE hT hM (by omega) (h1 q (by omega))
  refine ⟨fun q hq => ?_,fun _ => hI⟩
  obtain ⟨q,rfl⟩:∃ m',q = m' + 1:=⟨q - 1,by omega⟩
  exact zNN h hE hT hM (by omega) (h1 q (by omega)) (hI q (by omega))
theorem zF4 {k:Nat} (hk:k ≤ x.zA.length):zNK D x m0 m T k f_d:=fun a b ha hb =>
 kR (2 * (x.zA.length - k) + 1) fun q hq => (zCn h hE hT hM (x.zA.length - k) k (by omega)).1 q hq a b ha hb
theorem jU {k:Nat} (hk:k < x.zA.length):zNL D x m0 m T k f_f:=fun v hv =>
 kR (2 * (x.zA.length - k)) fun q hq => (zCn h hE hT hM (x.zA.length - k) k (by omega)).2 (by omega) q hq v hv
end
end Go.Pl

namespace Go.Pl
open Go Go.Ab Go.Wk Go.Pc
structure GR (p:Int) (D:Nat) (Z:Vec → Prop) (L:Mx) (N:Nat) (C:Prop):Prop where
 len:L.length ≤ N
 row:∀ r ∈ L,Row p D r
 iff:(∀ r ∈ L,Z r) ↔ C
theorem GR.nil {p:Int} {D N:Nat} {Z:Vec → Prop}:GR p D Z [] N True:=⟨by simp,by simp,by simp⟩
theorem GR.app {p:Int} {D N M:Nat} {Z:Vec → Prop} {L L':Mx} {C C':Prop} (h:GR p D Z L N C) (h':GR p D Z L' M C'):GR p D Z (L ++ L') (N + M) (C ∧ C'):=by
 refine ⟨by have:=h.len;have:=h'.len;rw [List.length_append];omega,fun r hr => ?_,?_⟩
 ·rcases List.mem_append.1 hr with g | g
  ·exact h.row r g
  ·exact h'.row r g
 ·rw [← h.iff,← h'.iff]
  exact ⟨fun g => ⟨fun r hr => g r (List.mem_append_left _ hr),fun r hr => g r (List.mem_append_right _ hr)⟩,fun g r hr => (List.mem_append.1 hr).elim (g.1 r) (g.2 r)⟩
theorem GR.one {p:Int} {D:Nat} {Z:Vec → Prop} {r:List Int} {C:Prop} (hr:Row p D r) (h:Z r ↔ C):GR p D Z [r] 1 C :=
 ⟨by simp,fun q hq => by rw [List.mem_singleton.1 hq];exact hr,by rw [← h];exact ⟨fun g => g r (by simp),fun g q hq => by rw [List.mem_singleton.1 hq];exact g⟩⟩
theorem GR.to {p:Int} {D N M:Nat} {Z:Vec → Prop} {L:Mx} {C C':Prop} (h:GR p D Z L N C) (hN:N ≤ M) (hc:C ↔ C'):GR p D Z L M C':=⟨by have:=h.len;omega,h.row,h.iff.trans hc⟩
def c1Q (Q:Nat → Vec → Vec → Prop) (e:SPr) (k j:Nat):Prop:=Q (k + 1) (pw (mul (suf e (k + 1))) (zeros (suf e (k + 1)).length) ((lvl e k).cs.getD (j - (k + 1)) []) (at0 e.zA j).toNat) (sig (suf e (k + 1)) (lvl e k) ((e.zR.getD j []).drop (k + 1)))
def c2Q (Q:Nat → Vec → Vec → Prop) (e:SPr) (k i j:Nat):Prop:=Q (k + 1) (mul (suf e (k + 1)) ((lvl e k).cs.getD (j - (k + 1)) []) ((lvl e k).cs.getD (i - (k + 1)) [])) (mul (suf e (k + 1)) ((lvl e k).cs.getD (i - (k + 1)) []) (sig (suf e (k + 1)) (lvl e k) (((e.zB.getD i []).getD (j - (i + 1)) []).drop (k + 1))))
def c4Q (Q:Nat → Vec → Vec → Prop) (e:SPr) (k j:Nat):Prop:=Q (k + 1) (mul (suf e (k + 1)) (lvl e k).w (iter (lvl e k).o.toNat (sig (suf e (k + 1)) (lvl e k)) (wL (e.zA.length - (k + 1)) (j - (k + 1))))) (mul (suf e (k + 1)) (wL (e.zA.length - (k + 1)) (j - (k + 1))) (lvl e k).w)
structure LCQ (Q:Nat → Vec → Vec → Prop) (x e:SPr) (k:Nat):Prop where
 c1:∀ j,k + 1 ≤ j → j < x.zA.length → c1Q Q e k j
 c2:∀ i,k + 1 ≤ i → i < x.zA.length → ∀ j,i + 1 ≤ j → j < x.zA.length → c2Q Q e k i j
 c3:Q (k + 1) (sig (suf e (k + 1)) (lvl e k) (lvl e k).w) (lvl e k).w
 c4:∀ j,k + 1 ≤ j → j < x.zA.length → c4Q Q e k j
section
variable {D:Nat} {x:SPr} {m0 m:zC} {T:Mx} (h:Pres x) (hE:ExB x.zA.length D x m T) (hT:∀ i,i < T.length → Row m.Prime D (T.getD i []))
 include h hE hT
theorem zF5 {k:Nat} (hk:k ≤ x.zA.length) {a b:Vec} (ha:V (suf (exx D x m T) k) a) (hb:V (suf (exx D x m T) k) b):(mul (suf (exx D x m T) k) a b).take (x.zA.length - k) = mul (suf x k) (a.take (x.zA.length - k)) (b.take (x.zA.length - k)):=zGY h hE hT _ k (by omega) a b ha hb
theorem zHb {k:Nat} (hk:k < x.zA.length) {v:Vec} (hv:V (suf (exx D x m T) (k + 1)) v):(sig (suf (exx D x m T) (k + 1)) (lvl (exx D x m T) k) v).take (x.zA.length - (k + 1)) = sig (suf x (k + 1)) (lvl x k) (v.take (x.zA.length - (k + 1))) :=
 zI2 h hE hT hk (zGY h hE hT _ (k + 1) (by omega)) hv
theorem zD1 {k:Nat} (hk:k < x.zA.length) {v:Vec} (hv:V (suf (exx D x m T) (k + 1)) v):V (suf (exx D x m T) (k + 1)) (sig (suf (exx D x m T) (k + 1)) (lvl (exx D x m T) k) v):=by
 have hok:=zAc h hE hT (k:=k) (by omega)
 rw [yF (x:=exx D x m T) (by rw [vX h hE hT];omega)] at hok
 exact zCe hok hv
theorem zLf {k:Nat} (hk:k < x.zA.length):∀ (q:Nat) {v:Vec},V (suf (exx D x m T) (k + 1)) v → (iter q (sig (suf (exx D x m T) (k + 1)) (lvl (exx D x m T) k)) v).take (x.zA.length - (k + 1)) = iter q (sig (suf x (k + 1)) (lvl x k)) (v.take (x.zA.length - (k + 1)))
 | 0,_,_ => rfl
 | q + 1,v,hv => by
  have:=zLf hk q (zD1 h hE hT hk hv)
  rw [zHb h hE hT hk hv] at this
  exact this
theorem zPI {k:Nat} (hk:k ≤ x.zA.length):(zeros (suf (exx D x m T) k).length).take (x.zA.length - k) = zeros (suf x k).length:=by
 rw [zBb h hE hT hk,List.take_left' (zQ _),yX]
theorem zT6 {k:Nat} (hk:k ≤ x.zA.length) {c:Vec} (hc:V (suf (exx D x m T) k) c) (q:Nat):(pw (mul (suf (exx D x m T) k)) (zeros (suf (exx D x m T) k).length) c q).take (x.zA.length - k) = pw (mul (suf x k)) (zeros (suf x k).length) (c.take (x.zA.length - k)) q:=by
 have ok:=zAc h hE hT (k:=k) (by omega)
 have:=zF1 (S:=V (suf (exx D x m T) k)) (n:=mul (suf x k)) (·.take (x.zA.length - k)) (fun a b => xE ok) (fun a b => zF5 h hE hT hk) [c] [(q:Int)] (zeros (suf (exx D x m T) k).length) (fun a ha => by rw [List.mem_singleton.1 ha];exact hc) (wH ok)
 simp only [List.map_cons,List.map_nil,img,Int.toNat_natCast] at this
 rw [zPI h hE hT hk] at this
 exact this
section
variable {k:Nat} (hk:k < x.zA.length)
 include hk
theorem zNO {j:Nat} (h1:k + 1 ≤ j) (h2:j < x.zA.length):((lvl (exx D x m T) k).cs.getD (j - (k + 1)) []).take (x.zA.length - (k + 1)) = (lvl x k).cs.getD (j - (k + 1)) []:=by
 rw [zQF h hE hT hk h1 h2,List.take_left' (tU h (by omega) (qD h hk h1 h2).2.2)]
theorem zJK {j:Nat} (h1:k ≤ j) (h2:j < x.zA.length):(((exx D x m T).zR.getD j []).drop (k + 1)).take (x.zA.length - (k + 1)) = (x.zR.getD j []).drop (k + 1):=by
 have t1:=(h.tl j h2).1.1.1
 rw [zJI h hE hT h1 h2,List.take_left' (by rw [List.length_drop];omega)]
theorem zRB {i j:Nat} (h1:k + 1 ≤ i) (h2:i < j) (h3:j < x.zA.length):((((exx D x m T).zB.getD i []).getD (j - (i + 1)) []).drop (k + 1)).take (x.zA.length - (k + 1)) = ((x.zB.getD i []).getD (j - (i + 1)) []).drop (k + 1):=by
 rw [zJJ h hE hT (by omega) h2 h3,List.take_left' (tU h (by omega) (zNu h hk h1 h2 h3).2.2)]
theorem zRC {j:Nat} (h1:k + 1 ≤ j) (h2:j < x.zA.length):wL ((exx D x m T).zA.length - (k + 1)) (j - (k + 1)) = wL (x.zA.length - (k + 1)) (j - (k + 1)) ++ zeros D:=by
 rw [vX h hE hT,qR (by omega),qR (by omega),List.append_assoc,List.cons_append]
 simp only [zeros,List.replicate_append_replicate]
 rw [show x.zA.length + D - (k + 1) - (j - (k + 1) + 1) = x.zA.length - (k + 1) - (j - (k + 1) + 1) + D from by omega]
end
variable (hM:Mv D x.zA.length m0 m) {Z:Vec → Prop} {Q:Nat → Vec → Vec → Prop} (hZ:∀ k,k ≤ x.zA.length → ∀ a b,V (suf (exx D x m T) k) a → V (suf (exx D x m T) k) b → a.take (x.zA.length - k) = b.take (x.zA.length - k) → (Z (zCm m.Prime D (a.drop (x.zA.length - k)) (-1) (b.drop (x.zA.length - k))) ↔ Q k a b))
 include hM hZ
theorem zHc {k:Nat} (hk:k ≤ x.zA.length) {a b:Vec} (ha:V (suf (exx D x m T) k) a) (hb:V (suf (exx D x m T) k) b) (e:a.take (x.zA.length - k) = b.take (x.zA.length - k)):∃ r,f_Q ⟨x,m0,T⟩ (prE x k a) (prE x k b) = some r ∧ Row m.Prime D r ∧ (Z r ↔ Q k a b):=by
 have h7:=hE.m.p.pos
 have h3:=hE.m.d3
 obtain ⟨y,u,rfl,hy,hu,hpr,hyl⟩:=prV h hE hT hk ha
 obtain ⟨z,v,rfl,hz,hv,hpr2,hzl⟩:=prV h hE hT hk hb
 have hz0:=hZ k hk _ _ ha hb e
 rw [List.drop_left' hyl,List.drop_left' hzl] at hz0
 unfold f_Q
 rw [hpr,hpr2]
 dsimp only
 rw [hM.pr,zH (by omega) (by omega),bs,zDK hE.m.p hu hv (by omega) (by omega),bs,zJ3]
 exact ⟨_,rfl,zN2 hE.m.p,hz0⟩
section
variable {k:Nat} (hk:k < x.zA.length) (hc:LC x k)
 include hk
 include hc
theorem zUg {j:Nat} (h1:k + 1 ≤ j) (h2:j < x.zA.length) {L0 L:Mx} {N:Nat} {C:Prop} (hL:GR m.Prime D Z L N C) (hN:N ≤ 1000) {f:Mx → Option (Mx × Int ⊕ Mx)}:∃ L',((zIN ⟨x,m0,T⟩).bind fun r2 =>
  (zJ (zMi ⟨x,m0,T⟩ (k:Int) (L0,(j:Int))) (r2.x,r2.v,0)).bind fun r8 =>
  (zJR ⟨x,m0,T⟩ (j:Int)).bind fun r9 =>
  (f_f ⟨x,m0,T⟩ (k:Int) r9).bind fun r10 =>
  (f_Q ⟨x,m0,T⟩ (zD.mk r8.1 r8.2) r10).bind fun r11 =>
  (wJ L [r11]).bind f) = f L' ∧ GR m.Prime D Z L' (N + 1) (C ∧ c1Q Q (exx D x m T) k j):=by
 have ok:=zAc h hE hT (k:=k + 1) (by omega)
 have hn:=hE.hn
 have hp:=(h.os.2 j h2).pos
 have hz:=wH ok
 obtain ⟨c1,c2⟩:=zCN h hE hT (k:=k) (j:=j) (by omega) h2
 obtain ⟨p1,p2⟩:=zGZ h hE hT (k:=k) (j:=j) (by omega) h2
 have hA:=zF4 h hE hT hM (k:=k + 1) (by omega)
 have hI:=jU h hE hT hM hk
 have hlp:zJ (zMi ⟨x,m0,T⟩ (k:Int) (L0,(j:Int))) ((prE x (k + 1) (zeros (suf (exx D x m T) (k + 1)).length)).x,(prE x (k + 1) (zeros (suf (exx D x m T) (k + 1)).length)).v,0) = some ((prE x (k + 1) (pw (mul (suf (exx D x m T) (k + 1))) (zeros (suf (exx D x m T) (k + 1)).length) ((lvl (exx D x m T) k).cs.getD (j - (k + 1)) []) (at0 x.zA j).toNat)).x,(prE x (k + 1) (pw (mul (suf (exx D x m T) (k + 1))) (zeros (suf (exx D x m T) (k + 1)).length) ((lvl (exx D x m T) k).cs.getD (j - (k + 1)) []) (at0 x.zA j).toNat)).v) :=
  zAw (S:=V (suf (exx D x m T) (k + 1))) (fun w => (prE x (k + 1) w).x) (fun w => (prE x (k + 1) w).v) (fun w => mul (suf (exx D x m T) (k + 1)) w ((lvl (exx D x m T) k).cs.getD (j - (k + 1)) [])) (at0 x.zA j) (by omega) (fun w hw => xE ok hw c2) (fun w q hw hq => by
   unfold zMi
   dsimp only
   rw [yW h2,bs,decide_eq_true hq,zK,zH (by omega) (by omega),bs,c1,bs,cs,show (zD.mk (prE x (k + 1) w).x (prE x (k + 1) w).v) = prE x (k + 1) w from rfl,hA w _ hw c2,bs,zH (by omega) (by omega),bs,cs]) (fun w hw => by
   unfold zMi
   dsimp only
   rw [yW h2,bs,decide_eq_false (by omega),zG]) hz
 have hpw:V (suf (exx D x m T) (k + 1)) (pw (mul (suf (exx D x m T) (k + 1))) (zeros (suf (exx D x m T) (k + 1)).length) ((lvl (exx D x m T) k).cs.getD (j - (k + 1)) []) (at0 x.zA j).toNat):=wU (fun w hw => xE ok hw c2) _ hz
 obtain ⟨r,r1,r2,r3⟩:=zHc h hE hT hM hZ (k:=k + 1) (by omega) hpw (zD1 h hE hT hk p2) (by
  rw [zT6 h hE hT (by omega) c2,zHb h hE hT hk p2,zNO h hE hT hk h1 h2,zJK h hE hT hk (by omega) h2]
  exact hc.c1 j h1 h2)
 have hll:=hL.len
 refine ⟨L ++ [r],?_,hL.app (GR.one r2 (r3.trans ?_))⟩
 ·rw [zHa h hE hT (k:=k + 1) (by omega) (by omega),bs,hlp,bs,p1,bs,hI _ p2,bs]
  dsimp only
  rw [r1,bs,wA (by simp;omega),bs]
 ·unfold c1Q;rw [zBt h hE hT h2]
theorem zUh {j:Nat} (h1:k + 1 ≤ j) (h2:j < x.zA.length) {L0 L:Mx} {N:Nat} {C:Prop} (hL:GR m.Prime D Z L N C) (hN:N ≤ 1000):∃ L',zJ (zMj ⟨x,m0,T⟩ (k:Int) (L0,(j:Int))) (L,((j + 1:Nat):Int)) = some L' ∧ GR m.Prime D Z L' (N + (x.zA.length - (j + 1))) (C ∧ ∀ j2,j + 1 ≤ j2 → j2 < x.zA.length → c2Q Q (exx D x m T) k j j2):=by
 have ok:=zAc h hE hT (k:=k + 1) (by omega)
 have hn:=hE.hn
 have hA:=zF4 h hE hT hM (k:=k + 1) (by omega)
 have hI:=jU h hE hT hM hk
 refine uN (fun i (s:Mx × Int) => s.2 = ((j + 1 + i:Nat):Int) ∧ GR m.Prime D Z s.1 (N + i) (C ∧ ∀ j2,j + 1 ≤ j2 → j2 < j + 1 + i → c2Q Q (exx D x m T) k j j2)) (x.zA.length - (j + 1)) (fun i s hi ⟨hs,hg⟩ => ?_) (fun s ⟨hs,hg⟩ => ?_) ⟨rfl,hL.to (by omega) ⟨fun g => ⟨g,fun j2 a b => by omega⟩,fun g => g.1⟩⟩
 ·left
  obtain ⟨L1,s2⟩:=s
  dsimp only at hs hg
  subst hs
  have g2:j + 1 + i < x.zA.length:=by omega
  obtain ⟨a1,a2⟩:=zCN h hE hT (k:=k) (j:=j) (by omega) h2
  obtain ⟨b1,b2⟩:=zCN h hE hT (k:=k) (j:=j + 1 + i) (by omega) g2
  obtain ⟨d1,d2⟩:=zLe h hE hT (k:=k) (i:=j) (j:=j + 1 + i) (by omega) (by omega) g2
  have hs:=zD1 h hE hT hk d2
  obtain ⟨r,r1,r2,r3⟩:=zHc h hE hT hM hZ (k:=k + 1) (by omega) (xE ok b2 a2) (xE ok a2 hs) (by
   rw [zF5 h hE hT (by omega) b2 a2,zF5 h hE hT (by omega) a2 hs,zHb h hE hT hk d2,zNO h hE hT hk h1 h2,zNO h hE hT hk (by omega) g2,zRB h hE hT hk h1 (by omega) g2]
   exact hc.c2 j h1 h2 (j + 1 + i) (by omega) g2)
  have hll:=hg.len
  refine ⟨(L1 ++ [r],((j + 1 + i + 1:Nat):Int)),?_,rfl,(hg.app (GR.one r2 r3)).to (by omega) ?_⟩
  ·unfold zMj
   dsimp only
   rw [decide_eq_true (by omega),zK,a1,bs,b1,bs,d1,bs,hI _ d2,bs,zH (by omega) (by omega),bs,cs,hA _ _ b2 a2,bs,bs,hA _ _ a2 hs,bs,r1,bs,wA (by simp;omega),bs,zH (by omega) (by omega),bs,cs]
  ·constructor
   ·rintro ⟨⟨g1,g3⟩,g4⟩
    refine ⟨g1,fun j2 e1 e2 => ?_⟩
    rcases Nat.lt_or_ge j2 (j + 1 + i) with e | e
    ·exact g3 j2 e1 e
    ·obtain rfl:j2 = j + 1 + i:=by omega
     exact g4
   ·rintro ⟨g1,g3⟩
    exact ⟨⟨g1,fun j2 e1 e2 => g3 j2 e1 (by omega)⟩,g3 (j + 1 + i) (by omega) (by omega)⟩
 ·obtain ⟨L1,s2⟩:=s
  dsimp only at hs hg
  subst hs
  refine ⟨L1,?_,hg.to (Nat.le_refl _) ?_⟩
  ·unfold zMj
   dsimp only
   rw [decide_eq_false (by omega),zG]
  ·rw [show j + 1 + (x.zA.length - (j + 1)) = x.zA.length from by omega]
theorem zUi:∃ L',zJ (zPb ⟨x,m0,T⟩ (k:Int)) ([],((k + 1:Nat):Int)) = some L' ∧ GR m.Prime D Z L' 100 (∀ j,k + 1 ≤ j → j < x.zA.length → c1Q Q (exx D x m T) k j ∧ ∀ j2,j + 1 ≤ j2 → j2 < x.zA.length → c2Q Q (exx D x m T) k j j2):=by
 have hn:=hE.hn
 refine uN (fun i (s:Mx × Int) => s.2 = ((k + 1 + i:Nat):Int) ∧ GR m.Prime D Z s.1 (7 * i) (∀ j,k + 1 ≤ j → j < k + 1 + i → c1Q Q (exx D x m T) k j ∧ ∀ j2,j + 1 ≤ j2 → j2 < x.zA.length → c2Q Q (exx D x m T) k j j2)) (x.zA.length - (k + 1)) (fun i s hi ⟨hs,hg⟩ => ?_) (fun s ⟨hs,hg⟩ => ?_) ⟨rfl,(GR.nil (N:=0)).to (by omega) ⟨fun _ j a b => by omega,fun _ => trivial⟩⟩
 ·left
  obtain ⟨L1,s2⟩:=s
  dsimp only at hs hg
  subst hs
  have g2:k + 1 + i < x.zA.length:=by omega
  obtain ⟨L2,e2,hg2⟩:=zUg h hE hT hM hZ hk hc (j:=k + 1 + i) (by omega) g2 (L0:=L1) hg (by omega) (f:=fun v12 => (rng (((k + 1 + i:Nat):Int) + 1)).bind fun v13 =>
   (zJ (zMj ⟨x,m0,T⟩ (k:Int) (L1,((k + 1 + i:Nat):Int))) (v12,v13)).bind fun r25 =>
   (rng (((k + 1 + i:Nat):Int) + 1)).bind fun v26 => some (.inl (r25,v26)))
  obtain ⟨L3,e3,hg3⟩:=zUh h hE hT hM hZ hk hc (j:=k + 1 + i) (by omega) g2 (L0:=L1) hg2 (by omega)
  refine ⟨(L3,((k + 1 + i + 1:Nat):Int)),?_,rfl,hg3.to (by omega) ?_⟩
  ·unfold zPb
   dsimp only
   rw [decide_eq_true (by omega),zK,e2,zH (by omega) (by omega),bs,cs,e3,bs,bs]
  ·constructor
   ·rintro ⟨⟨g1,g3⟩,g4⟩ j e1 e2
    rcases Nat.lt_or_ge j (k + 1 + i) with e | e
    ·exact g1 j e1 e
    ·obtain rfl:j = k + 1 + i:=by omega
     exact ⟨g3,g4⟩
   ·intro g
    have:=g (k + 1 + i) (by omega) (by omega)
    exact ⟨⟨fun j e1 e2 => g j e1 (by omega),this.1⟩,this.2⟩
 ·obtain ⟨L1,s2⟩:=s
  dsimp only at hs hg
  subst hs
  refine ⟨L1,?_,hg.to (by omega) ?_⟩
  ·unfold zPb
   dsimp only
   rw [decide_eq_false (by omega),zG]
  ·rw [show k + 1 + (x.zA.length - (k + 1)) = x.zA.length from by omega]
theorem zNP {j:Nat} (h1:k + 1 ≤ j) (h2:j < x.zA.length):∃ r,zIN ⟨x,m0,T⟩ = some r ∧ ixO r.x (j:Int) = some 0 ∧ r.x.set j 1 = (prE x (k + 1) (wL (x.zA.length - (k + 1)) (j - (k + 1)) ++ zeros D)).x ∧ r.v = (prE x (k + 1) (wL (x.zA.length - (k + 1)) (j - (k + 1)) ++ zeros D)).v:=by
 have _:=hM;have _:=hZ
 have _:=hc
 have hn:=hE.hn
 have hul:(wL (x.zA.length - (k + 1)) (j - (k + 1))).length = x.zA.length - (k + 1):=by rw [qF,yN]
 refine ⟨_,zHa h hE hT (k:=k + 1) (by omega) (by omega),?_,?_,?_⟩
 ·rw [zBb h hE hT (by omega),tG (zQ _)]
  dsimp only
  simp only [fv,zeros,List.replicate_append_replicate]
  rw [uD,List.getElem?_replicate,if_pos (by omega)]
 ·rw [zBb h hE hT (by omega),tG (zQ _),tG hul]
  dsimp only
  have e1:fv (k + 1) (zeros (x.zA.length - (k + 1))) = zeros j ++ 0 :: zeros (x.zA.length - (k + 1) - (j - (k + 1) + 1)):=by
   simp only [fv,zeros]
   rw [← List.replicate_succ,List.replicate_append_replicate,List.replicate_append_replicate]
   congr 1;omega
  rw [e1,zBD,fv,qR (by omega),← List.append_assoc]
  simp only [zeros,List.replicate_append_replicate]
  rw [show k + 1 + (j - (k + 1)) = j from by omega]
 ·rw [zBb h hE hT (by omega),tG (zQ _),tG hul]
theorem zUj {L:Mx} {N:Nat} {C:Prop} (hL:GR m.Prime D Z L N C) (hN:N ≤ 1000):∃ L',zJ (zMk ⟨x,m0,T⟩ (k:Int) (prE x (k + 1) (((exx D x m T).zR.getD k []).drop (k + 1)))) (L,((k + 1:Nat):Int)) = some L' ∧ GR m.Prime D Z L' (N + (x.zA.length - (k + 1))) (C ∧ ∀ j,k + 1 ≤ j → j < x.zA.length → c4Q Q (exx D x m T) k j):=by
 have hn:=hE.hn
 have hpk:=(h.os.2 k hk).pos
 have h7:=hE.m.p.pos
 have ok:=zAc h hE hT (k:=k + 1) (by omega)
 have hA:=zF4 h hE hT hM (k:=k + 1) (by omega)
 have hI:=jU h hE hT hM hk
 obtain ⟨p1,p2⟩:=zGZ (m0:=m0) h hE hT (k:=k) (j:=k) (Nat.le_refl k) hk
 change V (suf (exx D x m T) (k + 1)) (lvl (exx D x m T) k).w at p2
 change ∃ L',zJ (zMk ⟨x,m0,T⟩ (k:Int) (prE x (k + 1) (lvl (exx D x m T) k).w)) (L,((k + 1:Nat):Int)) = some L' ∧ _
 have htw:(lvl (exx D x m T) k).w.take (x.zA.length - (k + 1)) = (lvl x k).w:=zJK h hE hT hk (Nat.le_refl k) hk
 have ho:(lvl (exx D x m T) k).o = at0 x.zA k:=zFy h hE hT hk
 refine uN (fun i (s:Mx × Int) => s.2 = ((k + 1 + i:Nat):Int) ∧ GR m.Prime D Z s.1 (N + i) (C ∧ ∀ j,k + 1 ≤ j → j < k + 1 + i → c4Q Q (exx D x m T) k j)) (x.zA.length - (k + 1)) (fun i s hi ⟨hs,hg⟩ => ?_) (fun s ⟨hs,hg⟩ => ?_) ⟨rfl,hL.to (by omega) ⟨fun g => ⟨g,fun j2 a b => by omega⟩,fun g => g.1⟩⟩
 ·left
  obtain ⟨L1,s2⟩:=s
  dsimp only at hs hg
  subst hs
  have g2:k + 1 + i < x.zA.length:=by omega
  obtain ⟨r33,z1,z2,z3,z4⟩:=zNP h hE hT hM hZ hk hc (j:=k + 1 + i) (by omega) g2
  have hue:=zRC h hE hT hk (j:=k + 1 + i) (by omega) g2
  have hux:V (suf x (k + 1)) (wL (x.zA.length - (k + 1)) (k + 1 + i - (k + 1))):=by
   have:=zCd (h.okAt (k:=k + 1) (by omega)) (j:=k + 1 + i - (k + 1)) (by rw [yX];omega)
   rwa [yX] at this
  have hul:=tU h (by omega) hux
  have huV:V (suf (exx D x m T) (k + 1)) (wL (x.zA.length - (k + 1)) (k + 1 + i - (k + 1)) ++ zeros D):=(zBJ h hE hT (x.zA.length - (k + 1)) (k + 1) (by omega) _).2 ⟨_,_,rfl,hux,sB (by omega)⟩
  have hit:V (suf (exx D x m T) (k + 1)) (iter (at0 x.zA k).toNat (sig (suf (exx D x m T) (k + 1)) (lvl (exx D x m T) k)) (wL (x.zA.length - (k + 1)) (k + 1 + i - (k + 1)) ++ zeros D)):=wU (fun w hw => zD1 h hE hT hk hw) _ huV
  have hlp:zJ (zPc ⟨x,m0,T⟩ (k:Int)) ((prE x (k + 1) (wL (x.zA.length - (k + 1)) (k + 1 + i - (k + 1)) ++ zeros D)).x,(prE x (k + 1) (wL (x.zA.length - (k + 1)) (k + 1 + i - (k + 1)) ++ zeros D)).v,0) = some ((prE x (k + 1) (iter (at0 x.zA k).toNat (sig (suf (exx D x m T) (k + 1)) (lvl (exx D x m T) k)) (wL (x.zA.length - (k + 1)) (k + 1 + i - (k + 1)) ++ zeros D))).x,(prE x (k + 1) (iter (at0 x.zA k).toNat (sig (suf (exx D x m T) (k + 1)) (lvl (exx D x m T) k)) (wL (x.zA.length - (k + 1)) (k + 1 + i - (k + 1)) ++ zeros D))).v) :=
   zAw (S:=V (suf (exx D x m T) (k + 1))) (fun w => (prE x (k + 1) w).x) (fun w => (prE x (k + 1) w).v) (sig (suf (exx D x m T) (k + 1)) (lvl (exx D x m T) k)) (at0 x.zA k) (by omega) (fun w hw => zD1 h hE hT hk hw) (fun w q hw hq => by
    unfold zPc
    dsimp only
    rw [yW hk,bs,decide_eq_true hq,zK,show (zD.mk (prE x (k + 1) w).x (prE x (k + 1) w).v) = prE x (k + 1) w from rfl,hI w hw,bs,zH (by omega) (by omega),bs,cs]) (fun w hw => by
    unfold zPc
    dsimp only
    rw [yW hk,bs,decide_eq_false (by omega),zG]) huV
  obtain ⟨r,r1,r2,r3⟩:=zHc h hE hT hM hZ (k:=k + 1) (by omega) (xE ok p2 hit) (xE ok huV p2) (by
   rw [zF5 h hE hT (by omega) p2 hit,zF5 h hE hT (by omega) huV p2,zLf h hE hT hk _ huV,htw,List.take_left' hul]
   exact hc.c4 (k + 1 + i) (by omega) g2)
  have hll:=hg.len
  refine ⟨(L1 ++ [r],((k + 1 + i + 1:Nat):Int)),?_,rfl,(hg.app (GR.one r2 r3)).to (by omega) ?_⟩
  ·unfold zMk
   dsimp only
   rw [decide_eq_true (by omega),zK,z1,bs,z2,bs,Int.toNat_natCast,z3,z4,hlp,bs,zH (by omega) (by omega),bs,cs]
   dsimp only
   have e1:=hA _ _ p2 hit
   have e2:=hA _ _ huV p2
   rw [show ∀ w,(zD.mk (prE x (k + 1) w).x (prE x (k + 1) w).v) = prE x (k + 1) w from fun _ => rfl,show ∀ w,(zD.mk (prE x (k + 1) w).x (prE x (k + 1) w).v) = prE x (k + 1) w from fun _ => rfl,e1,bs,bs,e2,bs,r1,bs,wA (by simp;omega),bs,zH (by omega) (by omega),bs,cs]
  ·have e4:c4Q Q (exx D x m T) k (k + 1 + i) ↔ Q (k + 1) (mul (suf (exx D x m T) (k + 1)) (lvl (exx D x m T) k).w (iter (at0 x.zA k).toNat (sig (suf (exx D x m T) (k + 1)) (lvl (exx D x m T) k)) (wL (x.zA.length - (k + 1)) (k + 1 + i - (k + 1)) ++ zeros D))) (mul (suf (exx D x m T) (k + 1)) (wL (x.zA.length - (k + 1)) (k + 1 + i - (k + 1)) ++ zeros D) (lvl (exx D x m T) k).w):=by
    unfold c4Q;rw [hue,ho]
   rw [← e4]
   constructor
   ·rintro ⟨⟨g1,g3⟩,g4⟩
    refine ⟨g1,fun j2 e1 e2 => ?_⟩
    rcases Nat.lt_or_ge j2 (k + 1 + i) with e | e
    ·exact g3 j2 e1 e
    ·obtain rfl:j2 = k + 1 + i:=by omega
     exact g4
   ·rintro ⟨g1,g3⟩
    exact ⟨⟨g1,fun j2 e1 e2 => g3 j2 e1 (by omega)⟩,g3 (k + 1 + i) (by omega) (by omega)⟩
 ·obtain ⟨L1,s2⟩:=s
  dsimp only at hs hg
  subst hs
  refine ⟨L1,?_,hg.to (Nat.le_refl _) ?_⟩
  ·unfold zMk
   dsimp only
   rw [decide_eq_false (by omega),zG]
  ·rw [show k + 1 + (x.zA.length - (k + 1)) = x.zA.length from by omega]
theorem zRD:∃ L,f_h ⟨x,m0,T⟩ (k:Int) = some L ∧ GR m.Prime D Z L 120 (LCQ Q x (exx D x m T) k):=by
 have hn:=hE.hn
 have hI:=jU h hE hT hM hk
 obtain ⟨p1,p2⟩:=zGZ h hE hT (k:=k) (j:=k) (Nat.le_refl k) hk
 obtain ⟨L1,e1,g1⟩:=zUi h hE hT hM hZ hk hc
 have hs:=zD1 h hE hT hk p2
 obtain ⟨r,r1,r2,r3⟩:=zHc h hE hT hM hZ (k:=k + 1) (by omega) hs p2 (by
  rw [zHb h hE hT hk p2,zJK h hE hT hk (Nat.le_refl k) hk]
  exact hc.c3)
 obtain ⟨L2,e2,g2⟩:=zUj h hE hT hM hZ hk hc (g1.app (GR.one r2 r3)) (by omega)
 have hll:=g1.len
 refine ⟨L2,?_,g2.to (by omega) ?_⟩
 ·unfold f_h
  rw [zH (by omega) (by omega),bs,cs,e1,bs,p1,bs,hI _ p2,bs,r1,bs,wA (by simp;omega),bs,bs,e2,bs]
 ·constructor
  ·rintro ⟨⟨a1,a2⟩,a3⟩
   exact ⟨fun j b1 b2 => (a1 j b1 b2).1,fun i b1 b2 j b3 b4 => (a1 i b1 b2).2 j b3 b4,a2,a3⟩
  ·intro a
   exact ⟨⟨fun j b1 b2 => ⟨a.c1 j b1 b2,fun j2 b3 b4 => a.c2 j b1 b2 j2 b3 b4⟩,a.c3⟩,a.c4⟩
end
theorem zRE (hx:vB (suf x 0)):∃ L,zQg ⟨x,m0,T⟩ = some L ∧ GR m.Prime D Z L 1000 (∀ k,k < x.zA.length → LCQ Q x (exx D x m T) k):=by
 have hn:=hE.hn
 have h3:=hE.m.d3
 have hlc:∀ k,k < x.zA.length → LC x k:=fun k hk => ((kY h.w hk).1 (zBq hx k)).2
 obtain ⟨L,e,g⟩:=uN (body:=zIO ⟨x,m0,T⟩) (Q:=fun L => GR m.Prime D Z L 1000 (∀ k,k < x.zA.length → LCQ Q x (exx D x m T) k)) (fun i (s:Mx × Int) => s.2 = (i:Int) ∧ GR m.Prime D Z s.1 (120 * i) (∀ k,k < i → LCQ Q x (exx D x m T) k)) x.zA.length (fun i s hi ⟨hs,hg⟩ => by
  left
  obtain ⟨L1,s2⟩:=s
  dsimp only at hs hg
  subst hs
  obtain ⟨L2,e2,g2⟩:=zRD h hE hT hM hZ hi (hlc i hi)
  have l1:=hg.len
  have l2:=g2.len
  refine ⟨(L1 ++ L2,((i + 1:Nat):Int)),?_,rfl,(hg.app g2).to (by omega) ?_⟩
  ·unfold zIO
   dsimp only
   rw [xM hi,zK,e2,bs,wA (by omega),bs,zH (by omega) (by omega),bs,cs]
  ·constructor
   ·rintro ⟨a1,a2⟩ k hk
    rcases Nat.lt_or_ge k i with e | e
    ·exact a1 k e
    ·obtain rfl:k = i:=by omega
     exact a2
   ·exact fun a => ⟨fun k hk => a k (by omega),a i (by omega)⟩) (fun s ⟨hs,hg⟩ => by
  obtain ⟨L1,s2⟩:=s
  dsimp only at hs hg
  subst hs
  refine ⟨L1,?_,hg.to (by omega) Iff.rfl⟩
  unfold zIO
  dsimp only
  rw [xQ,zG]) (s:=([],0)) ⟨rfl,(GR.nil (N:=0)).to (by omega) ⟨fun _ k hk => by omega,fun _ => trivial⟩⟩
 exact ⟨L,by unfold zQg;rw [e,bs],g⟩
end
section
variable {D:Nat} {x:SPr} {m0 m:zC} {T:Mx} (h:Pres x) (hE:ExB x.zA.length D x m T) (hT:∀ i,i < T.length → Row m.Prime D (T.getD i [])) (hM:Mv D x.zA.length m0 m)
 include h hE hT hM
theorem zPJ (hx:vB (suf x 0)) (hr:zGT x m D):IsB (f_Z x m0 T) (vB (suf (exx D x m T) 0)):=by
 have hn:=hE.hn
 have h3:=hE.m.d3
 have hp:=hE.m.p.pos
 obtain ⟨L,e,g⟩:=zRE h hE hT hM (Z:=fun r => r = zeros D) (Q:=fun _ a b => a = b) (fun k hk a b ha hb e => by
  obtain ⟨y,u,rfl,hy,hu,_,hyl⟩:=prV h hE hT hk ha
  obtain ⟨z,v,rfl,hz,hv,_,hzl⟩:=prV h hE hT hk hb
  rw [List.take_left' hyl,List.take_left' hzl] at e
  subst e
  rw [List.drop_left' hyl,List.drop_left' hyl,List.append_cancel_left_eq,← zLJ (p:=m.Prime) hu hv]
  constructor
  ·intro g j hj;rw [g,tV]
  ·intro g
   rw [tR (zN0 (p:=m.Prime) (r:=u) (s:=v) (k:=-1)),show zeros D = mkv D fun _ => 0 from tM D]
   exact yA fun j hj => g j hj) hx
 have hll:=g.len
 unfold f_Z
 rw [e,bs]
 refine (uE (body:=zPd L) L.length (fun i => ∀ j,j < (L.getD i []).length → at0 (L.getD i []) j = 0) rfl (fun i hi _ => ?_) ?_).iff ?_
 ·have hrow:=g.row (L.getD i []) (by rw [List.getD_eq_getElem?_getD,List.getElem?_eq_getElem hi];exact List.getElem_mem hi)
  unfold zPd
  rw [xM hi,zK,yO [] hi,bs]
  rcases zLK (v:=L.getD i []) (by rw [hrow.1];omega) with ⟨z1,z2⟩ | ⟨z1,z2⟩
  ·left
   rw [z1,bs,Bool.not_true,zG,zH (by omega) (by omega),bs,cs]
   exact ⟨rfl,z2⟩
  ·right
   rw [z1,bs,Bool.not_false,zK]
   exact ⟨rfl,z2⟩
 ·unfold zPd
  rw [xQ,zG]
 ·rw [zPH h hE hT hr,show (∀ k,k < x.zA.length → LCn x (exx D x m T) k) ↔ (∀ k,k < x.zA.length → LCQ (fun _ a b => a = b) x (exx D x m T) k) from ⟨fun a k hk => ⟨(a k hk).c1,(a k hk).c2,(a k hk).c3,(a k hk).c4⟩,fun a k hk => ⟨(a k hk).c1,(a k hk).c2,(a k hk).c3,(a k hk).c4⟩⟩,← g.iff]
  constructor
  ·intro a r hr
   obtain ⟨i,hi,rfl⟩:=List.mem_iff_getElem.1 hr
   have a:=a i hi
   rw [List.getD_eq_getElem?_getD,List.getElem?_eq_getElem hi] at a
   have hrow:=g.row _ hr
   rw [tR hrow.1,show zeros D = mkv D fun _ => 0 from tM D]
   exact yA fun j hj => a j (by show j < (L[i]).length;rw [hrow.1];exact hj)
  ·intro a i hi j _
   have:=a (L.getD i []) (by rw [List.getD_eq_getElem?_getD,List.getElem?_eq_getElem hi];exact List.getElem_mem hi)
   rw [this,tV]
end
end Go.Pl

namespace Go.Pl
open Go Go.Ab Go.Wk Go.Pc
theorem zB1 {x:SPr} (h:Pres x):∃ s:Nat,f_H x = some (s:Int) ∧ (s = 0 ↔ vB (suf x 0)):=by
 have h6:=h.os.1
 unfold f_H
 obtain ⟨r,r1,r2⟩:=uN (body:=zIG x) (Q:=fun r => ∃ s:Nat,r = (s:Int) ∧ vB (suf x s) ∧ (s = 0 ∨ ¬ vB (suf x (s - 1)))) (fun i s => i ≤ x.zA.length ∧ s = ((x.zA.length - i:Nat):Int) ∧ vB (suf x (x.zA.length - i))) x.zA.length (fun i s hi ⟨_,hs,hcs⟩ => by
   subst hs
   have hk:x.zA.length - i - 1 < x.zA.length:=by omega
   have e9:x.zA.length - (i + 1) = x.zA.length - i - 1:=by omega
   rw [e9]
   have e8:i + 1 ≤ x.zA.length:=by omega
   rw [show x.zA.length - i = x.zA.length - i - 1 + 1 from by omega] at hcs ⊢
   have hlev:=zFj h hk hcs
   have hiff:=kY h.w hk
   generalize x.zA.length - i - 1 = k at *
   unfold zIG
   rw [decide_eq_true (by omega),zK,zH (by omega) (by omega),bs,show (((k + 1:Nat):Int) - 1) = (k:Int) from by omega]
   rcases hlev with ⟨g1,g2⟩ | ⟨r,g1,g2,g3⟩
   ·left
    rw [g1,bs]
    simp only [beq_self_eq_true,Bool.and_true]
    rw [zK,bs]
    exact ⟨_,rfl,e8,rfl,hiff.2 ⟨hcs,g2⟩⟩
   ·right
    rw [g1,bs,show (r.Kind == 0) = false from by simpa using g2,Bool.false_and,zG]
    refine ⟨_,rfl,k + 1,rfl,hcs,.inr fun q => g3 (hiff.1 q).2⟩) (fun s ⟨_,hs,hcs⟩ => by
   rw [Nat.sub_self] at hs hcs
   subst hs
   unfold zIG
   rw [show decide (((0:Nat):Int) > 0) = false from rfl,zG]
   exact ⟨_,rfl,0,rfl,hcs,.inl rfl⟩) (s:=(x.zA.length:Int)) ⟨by omega,by rw [Nat.sub_zero],by rw [Nat.sub_zero,vV (by omega)];simp only [vB]⟩
 obtain ⟨s,rfl,hcs,hs⟩:=r2
 rw [r1,bs]
 refine ⟨s,rfl,fun g => by subst g;exact hcs,fun g => ?_⟩
 rcases hs with hs | hs
 ·exact hs
 ·exact absurd (zBq g _) hs
section
variable {x:SPr} {m:zC} {T:Mx} {D:Nat} (hx:zGi x) (hm:MOk x.zA.length m D) (hT:T.length ≤ 1048576)
 include hx hm hT
def zEh (x:SPr) (m:zC) (D:Nat) (T:Mx):Prop:=T.length = base x.zA.length x.zA.length ∧ zT5 m D T
theorem zI5:IsB (zOZ x m T) (zEh x m D T):=by
 have h6:=hx.n6
 unfold zOZ
 rw [zJ9 rfl h6,bs]
 by_cases g:T.length = base x.zA.length x.zA.length
 ·rw [show ((T.length:Int) == ((base x.zA.length x.zA.length:Nat):Int)) = true from by simp [g],zK]
  exact (IsB.b (zGX hm (by omega) hT)).iff ⟨fun q => ⟨g,q⟩,fun q => q.2⟩
 ·rw [show ((T.length:Int) == ((base x.zA.length x.zA.length:Nat):Int)) = false from by simp;omega,zG]
  exact .inr ⟨rfl,fun q => g q.1⟩
theorem zI6:IsB (zQh x m T) (zEh x m D T):=by
 have h6:=hx.n6
 have h3:=hm.d3
 unfold zQh
 rw [zJA rfl h6,bs]
 by_cases g:T.length = base x.zA.length x.zA.length
 ·rw [show ((T.length:Int) == ((base x.zA.length x.zA.length:Nat):Int)) = true from by simp [g],zK]
  exact (IsB.b (zLL hm.p hm.d (by omega) hT)).iff ⟨fun q => ⟨g,q⟩,fun q => q.2⟩
 ·rw [show ((T.length:Int) == ((base x.zA.length x.zA.length:Nat):Int)) = false from by simp;omega,zG]
  exact .inr ⟨rfl,fun q => g q.1⟩
 omit hT in
theorem zT7 (ht:zEh x m D T):zGW x.zA.length D x m T:=by
  have h3:=hm.d3
  exact zGW.of hx hm ht.1 (zJ8 fun i hi => by have:=(ht.2 i hi).1;omega)
 omit hT in
theorem zPK (ht:zEh x m D T):IsB (zQi x m T) (vB (suf (exx D x m T) 0)):=by
  have hE:=zT7 hx hm ht
  unfold zQi
  rw [zN5 hE,bs]
  obtain ⟨s,s1,s2⟩:=zB1 ((zEd hx.toPres (hE.b hm) ht.2).p (by rw [vX hx.toPres (hE.b hm) ht.2];have:=hm.d3;have:=hE.hn;omega))
  rw [s1,bs]
  refine (IsB.of_bool ?_).iff s2
  simp
end
end Go.Pl

namespace Go.Pl
open Go Go.Ab Go.Wk Go.Pc
end Go.Pl

namespace Go.Pl
open Go Go.Ab Go.Wk Go.Pc
end Go.Pl

namespace Go.Pl
open Go Go.Ab Go.Wk Go.Pc
end Go.Pl

namespace Go.Pl
open Go Go.Ab Go.Wk Go.Pc
end Go.Pl

namespace Go.Pl
open Go Go.Ab Go.Wk Go.Pc
section
variable {p:Int} (hp:Prime p)
 include hp
theorem zI7 {D E:Nat} (hD:D ≤ 1000) (hE:E ≤ 1000) {r:List Int} {B:Mx} (hr:Row p D r) (hl:B.length = D) (hB:∀ i,i < D → Row p E (B.getD i [])):f_n p r B (E:Int) = some (vW p D E r B):=by
 have h7:=hp.pos
 have hrl:=hr.1
 unfold f_n
 rw [xF (by omega),bs]
 have e:List.replicate E (0:Int) = vW p 0 E r B:=by
  rw [tM]
  exact yA fun j _ => by simp [S]
 rw [e]
 have:=zW (body:=zIC p r B) (r:=vW p D E r B) (fun i => (vW p i E r B,(i:Int))) D (fun i hi => by
  have hri:=hr.2 i hi
  have hBi:=hB i hi
  have hacc:=zIv hp (D:=i) (E:=E) (r:=r) (B:=B)
  unfold zIC
  dsimp only
  rw [hrl,hl,xM hi,zK,zK]
  have inner:=zW (body:=zIB p r B (vW p i E r B,(i:Int))) (r:=zCm p E (vW p i E r B) (at0 r i) (B.getD i [])) (fun k => (zDx p E k (vW p i E r B) (at0 r i) (B.getD i []),(k:Int))) E (fun k hk => by
   have ha:=hacc.2 k hk
   have hb:=hBi.2 k hk
   have hm:=zDr (by omega) hri hb
   have hjl:(zDx p E k (vW p i E r B) (at0 r i) (B.getD i [])).length = E:=kZ
   have hbl:=hBi.1
   unfold zIB
   dsimp only
   rw [hjl,xM hk,zK,yO [] (by omega),bs,hbl,xM hk,zK,yW (by omega),bs,yW (by omega),bs,bs,yW (by omega),bs,zGU hk,zH (by omega) (by omega),bs,zH (by omega) (by omega),bs]
   have hrem:vQ (at0 (vW p i E r B) k + at0 r i * at0 (B.getD i []) k) p = some ((at0 (vW p i E r B) k + at0 r i * at0 (B.getD i []) k) % p):=by
    unfold vQ
    rw [if_neg (by omega),Int.tmod_eq_emod_of_nonneg (by omega)]
   rw [hrem,bs,bs,zH (by omega) (by omega),bs,cs,Int.toNat_natCast,zFr rfl]) (by
   have hjl:(zDx p E E (vW p i E r B) (at0 r i) (B.getD i [])).length = E:=kZ
   unfold zIB
   dsimp only
   rw [hjl,xQ,zG,zDz])
  rw [zDy hacc.1,show ((0:Nat):Int) = 0 from rfl] at inner
  rw [inner,bs,zH (by omega) (by omega),bs,cs]
  congr 3
  refine yA fun j hj => ?_
  rw [vW,xW hj]
  simp only [S]
  rw [Int.add_emod,Int.emod_emod,← Int.add_emod]) (by
  unfold zIC
  dsimp only
  rw [hrl,xQ,zG])
 rw [show ((0:Nat):Int) = 0 from rfl] at this
 rw [this,bs]
theorem jF {D E:Nat} (hD:D ≤ 1000) (hE:E ≤ 1000) {A B:Mx} (hA:∀ i,i < A.length → Row p D (A.getD i [])) (hAl:A.length ≤ 1000) (hl:B.length = D) (hB:∀ i,i < D → Row p E (B.getD i [])) :
  f_t p A B (E:Int) = some (gl A.length fun k => vW p D E (A.getD k []) B):=by
 unfold f_t
 have:=zFu (body:=zID p A B (E:Int)) A.length (fun k => vW p D E (A.getD k []) B) (fun i acc hi ha => by
  unfold zID
  dsimp only
  rw [xM hi,zK,yO [] hi,bs,zI7 hp hD hE (hA i hi) hl hB,bs,wA (by simp;omega),bs,zH (by omega) (by omega),bs,cs]) (fun acc => by
  unfold zID
  dsimp only
  rw [xQ,zG])
 rw [this,bs]
end
section
variable {n D E:Nat} {m q:zC} (hm:MOk n m D) (hq:MOk n q E) (hn:n ≤ 9) (hpq:q.Prime = m.Prime)
def zQH (n D E:Nat) (m q:zC) (F:Mx):Prop:=∀ i,i < n → (gl D fun k => vW m.Prime D E ((m.zE.getD i []).getD k []) F) = gl D fun k => vW m.Prime E E (F.getD k []) (q.zE.getD i [])
 include hm hq hn hpq
theorem zBK {k:Nat} {G:Nat → List Int} (hk:k ≤ 8) (hG:∀ i,(G i).length ≤ 8):(gl k G).length ≤ 1000 ∧ ∀ r ∈ gl k G,r.length ≤ 1000:=by
 have _:=hm;have _:=hq;have _:=hn;have _:=hpq
 refine ⟨by rw [tA];omega,fun r hr => ?_⟩
 obtain ⟨i,_,rfl⟩:=List.mem_map.1 hr
 have:=hG i;omega
theorem zI8 {F:Mx} (hl:F.length = D) (hF:∀ i,i < D → Row m.Prime E (F.getD i [])):IsB (zRX m q F) (zQH n D E m q F):=by
 have h3:=hm.d3
 have k3:=hq.d3
 refine uE (body:=zIQ m q F) n (fun i => (gl D fun k => vW m.Prime D E ((m.zE.getD i []).getD k []) F) = gl D fun k => vW m.Prime E E (F.getD k []) (q.zE.getD i [])) rfl (fun i hi _ => ?_) ?_
 ·have hA:=hm.mat i hi
  have hB:=hq.mat i hi
  rw [hpq] at hB
  have hAl:=hm.len
  have hBl:=hq.len
  have p1:=jF hm.p (D:=D) (E:=E) (by omega) (by omega) (A:=m.zE.getD i []) (B:=F) (fun k hk => hA.2 k (by rw [← hA.1];exact hk)) (by rw [hA.1];omega) hl hF
  have p2:=jF hm.p (D:=E) (E:=E) (by omega) (by omega) (A:=F) (B:=q.zE.getD i []) (fun k hk => hF k (by rw [← hl];exact hk)) (by rw [hl];omega) hB.1 hB.2
  rw [hA.1] at p1
  rw [hl] at p2
  obtain ⟨z1,z2⟩:=zBK hm hq hn hpq (k:=D) (G:=fun k => vW m.Prime D E ((m.zE.getD i []).getD k []) F) (by omega) (fun i => by rw [vW,yN];omega)
  refine wV (o:=some ((gl D fun k => vW m.Prime D E ((m.zE.getD i []).getD k []) F) == gl D fun k => vW m.Prime E E (F.getD k []) (q.zE.getD i []))) (IsB.of_bool (by rw [beq_iff_eq])) (by omega) ?_
  unfold zIQ
  rw [hAl,xM hi,zK,yO [] (by omega),bs,hq.d,p1,bs,yO [] (by omega),bs,p2,bs,zCk z1 z2]
 ·unfold zIQ
  rw [hm.len,xQ,zG]
theorem zNQ {u:zL} (hup:u.Prime = m.Prime) (huc:u.yS = (E:Int)) (hl:u.Rows.length = D) (hF:∀ i,i < D → Row m.Prime E (u.Rows.getD i [])):IsB (zRY m q u) (zQH n D E m q u.Rows):=by
 obtain ⟨up,uc,F⟩:=u
 dsimp only at hup huc hl hF ⊢
 subst hup huc
 have h3:=hm.d3
 have k3:=hq.d3
 refine uE (body:=zIR m q ⟨m.Prime,(E:Int),F⟩) n (fun i => (gl D fun k => vW m.Prime D E ((m.zE.getD i []).getD k []) F) = gl D fun k => vW m.Prime E E (F.getD k []) (q.zE.getD i [])) rfl (fun i hi _ => ?_) ?_
 ·have hA:=hm.mat i hi
  have hB:=hq.mat i hi
  rw [hpq] at hB
  have hAl:=hm.len
  have hBl:=hq.len
  have p1:=zAZ hm.p (D:=D) (E:=E) (q:=(D:Int)) (by omega) (by omega) (A:=m.zE.getD i []) (B:=F) (fun k hk => hA.2 k (by rw [← hA.1];exact hk)) (by rw [hA.1];omega) hl hF
  have p2:=zAZ hm.p (D:=E) (E:=E) (q:=(E:Int)) (by omega) (by omega) (A:=F) (B:=q.zE.getD i []) (fun k hk => hF k (by rw [← hl];exact hk)) (by rw [hl];omega) hB.1 hB.2
  rw [hA.1] at p1
  rw [hl] at p2
  obtain ⟨z1,z2⟩:=zBK hm hq hn hpq (k:=D) (G:=fun k => vW m.Prime D E ((m.zE.getD i []).getD k []) F) (by omega) (fun i => by rw [vW,yN];omega)
  refine wV (o:=some ((gl D fun k => vW m.Prime D E ((m.zE.getD i []).getD k []) F) == gl D fun k => vW m.Prime E E (F.getD k []) (q.zE.getD i []))) (IsB.of_bool (by rw [beq_iff_eq])) (by omega) ?_
  unfold zIR
  rw [hAl,xM hi,zK,jZ hm hn hi,bs,p1,bs,jZ hq hn hi,bs,hpq,p2,bs,zBG z1 z2]
 ·unfold zIR
  rw [hm.len,xQ,zG]
end
theorem zCO {x:SPr} {m q:zC} {u:zL} {T:Mx} (hx:zBB x) (hm:zCF m) (hq:zCF q) (hu:S2 u.Rows) (hT:S2 T):∃ g k,zPe x m q u T = some (g,k) ∧ f_J x m q u T = some (g,k) ∧ S2 g:=by
 have hl:x.zA.length ≤ 1048576:=hx.1
 have hml:=S3.len hm
 have hql:=S3.len hq
 have hTl:T.length ≤ 1048576:=hT.len
 have hnil:S2 ([]:Mx):=by simp [S2,c2,sm]
 unfold zPe f_J zRW zRZ
 rcases (zBH (m:=m) hl).both (zBI (m:=m) hl hml) with ⟨s1,i1,hM⟩ | ⟨s1,i1,hM⟩
 rcases (zBH (m:=q) hl).both (zBI (m:=q) hl hql) with ⟨s2,i2,hQ⟩ | ⟨s2,i2,hQ⟩
 ·obtain ⟨hc,D,hD,hr⟩:=hM
  obtain ⟨_,E,hE,_⟩:=hQ
  have h6:=hc.1.os.1
  have hn6:=hc.2.2.n6
  have h3:=hD.d3
  have k3:=hE.d3
  simp only [s1,i1,s2,i2,bs,Bool.not_true,zG]
  by_cases g1:q.Prime = m.Prime
  ·rw [show (q.Prime != m.Prime) = false from by simpa using g1,zG,zG,show (m.Prime != q.Prime) = false from by simpa using g1.symm]
   simp only [zG]
   rcases (zI5 (T:=T) hc.2.2 hD hTl).both (zI6 (T:=T) hc.2.2 hD hTl) with ⟨t1,t2,ht⟩ | ⟨t1,t2,ht⟩
   ·simp only [t1,t2,bs,Bool.not_true,zG]
    rcases (zGs (u:=u)).both (zLO (u:=u)) with ⟨y1,y2,hy⟩ | ⟨y1,y2,hy⟩
    ·simp only [y1,y2,bs,Bool.not_true,zG]
     by_cases g2:u.Prime = m.Prime
     ·rw [show (u.Prime != m.Prime) = false from by simpa using g2]
      simp only [zG]
      by_cases g3:(u.Rows.length:Int) = m.Dim
      ·rw [show ((u.Rows.length:Int) != m.Dim) = false from by simpa using g3]
       simp only [zG]
       by_cases g4:u.yS = q.Dim
       ·rw [show (u.yS != q.Dim) = false from by simpa using g4]
        simp only [zG]
        obtain ⟨_,C,hC,hC2,_,hrow⟩:=hy
        have hCE:C = E:=by have:=hE.d;omega
        subst hCE
        have hul:u.Rows.length = D:=by have:=hD.d;omega
        rw [g2,hul] at hrow
        rcases (zI8 hD hE h6 g1 hul hrow).both (zNQ hD hE h6 g1 g2 hC2 hul hrow) with ⟨a1,a2,ha⟩ | ⟨a1,a2,ha⟩
        ·simp only [a1,a2,bs,Bool.not_true,zG]
         rw [show ((0:Int) != 0) = false from rfl]
         simp only [zG]
         rcases (zPJ hc.1 ((zT7 hc.2.2 hD ht).b hD) ht.2 (Mv.self hD) hc.2.1 hr).both (zPK hc.2.2 hD ht) with ⟨b1,b2,hb⟩ | ⟨b1,b2,hb⟩
         ·simp only [b1,b2,bs,Bool.not_true,zG]
          rw [show ((0:Int) != 0) = false from rfl]
          simp only [zG]
          have hbb:=qE x.zA.length (by omega)
          have htl:=ht.1
          have p1:=jF hD.p (D:=D) (E:=C) (by omega) (by omega) (A:=T) (B:=u.Rows) ht.2 (by omega) hul hrow
          have p2:zJ (zMl u T) ([],0) = some (gl T.length fun k => vW m.Prime D C (T.getD k []) u.Rows):=zFu (body:=zMl u T) T.length (fun k => vW m.Prime D C (T.getD k []) u.Rows) (fun i acc hi ha => by
           have hv:=zIw hD.p (D:=D) (E:=C) (by omega) (by omega) (ht.2 i hi) hul hrow
           have hue:u = zL.mk m.Prime (C:Int) u.Rows:=by
            obtain ⟨up,uc,F⟩:=u
            dsimp only at g2 hC2 ⊢
            rw [g2,hC2]
           unfold zMl
           dsimp only
           rw [xM hi,zK,yO [] hi,bs]
           rw [← hue] at hv
           rw [hv,bs,wA (by simp;omega),bs,zH (by omega) (by omega),bs,cs]) (fun acc => by
           unfold zMl
           dsimp only
           rw [xQ,zG])
          rw [hE.d,p1,p2,bs]
          refine ⟨_,_,rfl,rfl,?_⟩
          have:=zQC (c:=c1) (b:=3) (xs:=gl T.length fun k => vW m.Prime D C (T.getD k []) u.Rows) (fun r hr => by
           obtain ⟨i,_,rfl⟩:=List.mem_map.1 hr
           show (mkv _ _).length ≤ 3
           rw [yN];exact k3)
          have hl2:(gl T.length fun k => vW m.Prime D C (T.getD k []) u.Rows).length = T.length:=tA
          simp only [S2,c2];omega
         ·simp only [b1,b2,bs,Bool.not_false,zK]
          rw [show ((5:Int) != 0) = true from rfl]
          simp only [zK]
          exact ⟨_,_,rfl,rfl,hnil⟩
        ·simp only [a1,a2,bs,Bool.not_false,zK]
         rw [show ((0:Int) != 0) = false from rfl]
         simp only [zG]
         exact ⟨_,_,rfl,rfl,hnil⟩
       ·rw [show (u.yS != q.Dim) = true from by simpa using g4]
        exact ⟨_,_,rfl,rfl,hnil⟩
      ·rw [show ((u.Rows.length:Int) != m.Dim) = true from by simpa using g3]
       exact ⟨_,_,rfl,rfl,hnil⟩
     ·rw [show (u.Prime != m.Prime) = true from by simpa using g2]
      exact ⟨_,_,rfl,rfl,hnil⟩
    ·simp only [y1,y2,bs,Bool.not_false,zK]
     exact ⟨_,_,rfl,rfl,hnil⟩
   ·simp only [t1,t2,bs,Bool.not_false,zK]
    rcases zGs (u:=u) with ⟨y1,hy⟩ | ⟨y1,hy⟩
    ·simp only [y1,bs,Bool.not_true,zG]
     by_cases g2:u.Prime = m.Prime
     ·rw [show (u.Prime != m.Prime) = false from by simpa using g2]
      simp only [zG]
      by_cases g3:(u.Rows.length:Int) = m.Dim
      ·rw [show ((u.Rows.length:Int) != m.Dim) = false from by simpa using g3]
       simp only [zG]
       by_cases g4:u.yS = q.Dim
       ·rw [show (u.yS != q.Dim) = false from by simpa using g4]
        simp only [zG]
        obtain ⟨_,C,hC,hC2,_,hrow⟩:=hy
        have hCE:C = E:=by have:=hE.d;omega
        subst hCE
        have hul:u.Rows.length = D:=by have:=hD.d;omega
        rw [g2,hul] at hrow
        rcases zI8 hD hE h6 g1 hul hrow with ⟨a1,_⟩ | ⟨a1,_⟩
        ·simp only [a1,bs,Bool.not_true,zG]
         rw [show ((1:Int) != 0) = true from rfl]
         exact ⟨_,_,rfl,rfl,hnil⟩
        ·simp only [a1,bs,Bool.not_false,zK]
         exact ⟨_,_,rfl,rfl,hnil⟩
       ·rw [show (u.yS != q.Dim) = true from by simpa using g4]
        exact ⟨_,_,rfl,rfl,hnil⟩
      ·rw [show ((u.Rows.length:Int) != m.Dim) = true from by simpa using g3]
       exact ⟨_,_,rfl,rfl,hnil⟩
     ·rw [show (u.Prime != m.Prime) = true from by simpa using g2]
      exact ⟨_,_,rfl,rfl,hnil⟩
    ·simp only [y1,bs,Bool.not_false,zK]
     exact ⟨_,_,rfl,rfl,hnil⟩
  ·rw [show (q.Prime != m.Prime) = true from by simpa using g1,zK,zK]
   exact ⟨_,_,rfl,rfl,hnil⟩
 ·simp only [s1,i1,s2,i2,bs,Bool.not_true,Bool.not_false,zG,zK]
  exact ⟨_,_,rfl,rfl,hnil⟩
 ·simp only [s1,i1,bs,Bool.not_false,zK]
  exact ⟨_,_,rfl,rfl,hnil⟩
theorem zDR (x0:SPr) (x1:zC) (x2:zC) (x3:zL) (x4:Mx) (v0:zKM x0) (v1:zL9 x1) (v2:zL9 x2) (v3:zPD x3) (v4:VL (VL VI) x4)
  (h:zBB x0 → zCF x1 → zCF x2 → S2 x3.Rows → S2 x4 → ∃ g k,zPe x0 x1 x2 x3 x4 = some (g,k) ∧ f_J x0 x1 x2 x3 x4 = some (g,k) ∧ S2 g):zPf x0 x1 x2 x3 x4 = some true:=by
 unfold zPf
 rw [zFa v0 (by decide) (by decide),bs]
 rcases zCG (c:=zHU x0) (b:=1048576) (by decide) (by decide) with e | ⟨e,a0,b0,w0⟩ <;> rw [e]
 ·rfl
 rw [zG,zHW v1 a0 b0,bs]
 rcases zCG (c:=zJn x1) a0 b0 with e | ⟨e,a1,b1,w1⟩ <;> rw [e]
 ·rfl
 rw [zG,zHW v2 a1 b1,bs]
 rcases zCG (c:=zJn x2) a1 b1 with e | ⟨e,a2,b2,w2⟩ <;> rw [e]
 ·rfl
 rw [zG,zN9 v3 a2 b2,bs]
 rcases zCG (c:=c2 x3.Rows) a2 b2 with e | ⟨e,a3,b3,w3⟩ <;> rw [e]
 ·rfl
 rw [zG,zBo v4 a3 b3,bs]
 rcases zCG (c:=c2 x4) a3 b3 with e | ⟨e,a4,b4,w4⟩ <;> rw [e]
 ·rfl
 have s0:zBB x0:=zBB.of w0
 have s1:zCF x1:=zCF.of w1
 have s2:zCF x2:=zCF.of w2
 have s3:S2 x3.Rows:=w3
 have s4:S2 x4:=w4
 obtain ⟨g,k,hs,hi,sg⟩:=h s0 s1 s2 s3 s4
 have t0:=zKZ s0
 have q1:=zGO (x:=x1.zE)
 have w1':=w1
 simp only [zJn] at w1'
 have q2:=zGO (x:=x2.zE)
 have w2':=w2
 simp only [zJn] at w2'
 have q3:=zDm (x:=x3.Rows)
 have q4:=zDm (x:=x4)
 have qg:=zDm (x:=g)
 have sg':=sg
 simp only [S2] at sg'
 rw [zG,zFb s0,bs,zHX s1,bs,zHX s2,bs,zNA s3,bs,zBp s4,bs]
 simp only [bs]
 rw [hs,bs,hi,bs]
 simp only
 rw [qT sg,bs]
 simp only [beq_self_eq_true,Bool.not_true,zG,bne_self_eq_false]
 rw [zFc s0,bs,Bool.not_true,zG,zHY s1,bs,Bool.not_true,zG,zHY s2,bs,Bool.not_true,zG,zN7 s3,bs,Bool.not_true,zG,qT s4,bs,beq_self_eq_true,Bool.not_true,zG,zB0 s0 (by decide) (by decide),bs]
 simp only
 rw [zFd s1 (by omega) (by omega),bs]
 simp only
 rw [zFd s2 (by omega) (by omega),bs]
 simp only
 rw [zJB s3 (by omega) (by omega),bs]
 simp only
 rw [qC s4 (by omega) (by omega),bs]
 simp only
 rw [decide_eq_false (by omega),zG,bs,Bool.not_true,zG]
 rw [qC sg (by decide) (by omega),bs]
 simp only
 rw [zHT sg (by decide) (by omega),bs,decide_eq_false (by omega),zG,bne_self_eq_false,zG,bs]
 simp only
 rw [qT sg,bs,beq_self_eq_true,Bool.not_true,zG,bne_self_eq_false,zG,bs,decide_eq_false (by omega),zG,bne_self_eq_false,zG]
theorem zCP (x0:SPr) (x1:zC) (x2:zC) (x3:zL) (x4:Mx) (v0:zKM x0) (v1:zL9 x1) (v2:zL9 x2) (v3:zPD x3) (v4:VL (VL VI) x4):zPf x0 x1 x2 x3 x4 = some true :=
 zDR x0 x1 x2 x3 x4 v0 v1 v2 v3 v4 zCO
end Go.Pl
