/- x -/
import Derived.Test.YtbemegmelmannaaGreatDoorAbA
import Derived.Laws.CopyRow
import Derived.ProofKit
namespace Go.Ab
open Go
mutual
def clo (E:Env):T → T
 | .agg ts => .agg (clos E ts)
 | .lit v => .lit v
 | .ro u => .ro u
 | .same r q => match follow E 4 r q with
  | some (_,_,.ro u) => .ro u
  | some (_,_,.lit v) => .lit v
  | some (_,_,t) => if t.single then .ro (strip t) else .any
  | none => .any
 | .sub r q k lo hi => match follow E 4 r q with
  | some (_,_,.sl k' xs) => if k = k' ∧ lo ≤ hi ∧ hi ≤ xs.length then .ro (.sl k (((strips xs).drop lo).take (hi - lo))) else .any
  | _ => .any
 | .sl k xs => .ro (strip (.sl k xs))
 | .ptr t => .ro (strip (.ptr t))
 | .mp ks xs => .ro (.mp ks xs)
 | .any | .addr _ _ | .tup _ => .any
def clos (E:Env):List T → List T
 | [] => []
 | x :: xs => clo E x :: clos E xs
end
mutual
def cloOk (E:Env) (rs:List Nat) (s:Nat):T → Bool
 | .agg ts => cloOks E rs s ts
 | .same r q | .sub r q _ _ _ => match follow E 4 r q with
  | some (r',_,_) => !rs.contains r'
  | none => true
 | .sl _ _ | .ptr _ | .mp _ _ => !rs.contains s
 | .lit _ | .ro _ | .any | .addr _ _ => true
 | .tup _ => false
def cloOks (E:Env) (rs:List Nat) (s:Nat):List T → Bool
 | [] => true
 | x :: xs => cloOk E rs s x && cloOks E rs s xs
end
theorem RoC_sub {St:Stb} {k:Nat} {xs:List T} {v:Value} {lo hi:Nat} (h:RoC St (.sl k xs) #[v] 0) (h1:lo ≤ hi) (h2:hi ≤ xs.length):RoC St (.sl k ((xs.drop lo).take (hi - lo))) #[subOf v k lo hi] 0:=by
 simp only [RoC] at h ⊢
 obtain ⟨a',c,g4,g5,g6,g7⟩:=h
 have hv:v = .slice a' xs.length c:=by grind
 subst hv
 have hlen:((xs.drop lo).take (hi - lo)).length = hi - lo:=by simp;omega
 refine ⟨if c = lo then a' else a'.map (·.add (lo * k)),c - lo,by grind[subOf],by omega,by omega,?_⟩
 intro hne
 have hne':xs ≠ []:=by grind
 obtain ⟨b,o',cs',e',fr,rfl,h3,h4⟩:=g7 hne'
 have hcl:c ≠ lo:=by grind
 grind[add_off,RoL_take,RoL_drop]
section
variable {Γ:Ctx} {E:Env} {G Gc:Gh} {a:Act} {w:World} {Sc:Stb} {rs:List Nat} {s i:Nat} (hrep:Rep Γ E G a.tmps w) (hSt:∀ b x,Γ.St b = some x → Sc b = some x) (hSc:∀ r,r ∉ rs → ∀ b,(∃ y,G.ow b = some (r,y)) → Sc b = w.heap[b]?) (hhd:∀ z,Gc.hd i z = G.hd s z)
 include hrep hSt hSc hhd
mutual
theorem R_clo:(t:T) → ∀ (p:List Nat),cloOk E rs s t = true → R Γ.St G w s t p → R Sc Gc w i (clo E t) p
 | .agg ts,p,h,hr => by simp only [cloOk,clo,R] at h hr ⊢;exact RF_clo ts p 0 h hr
 | .tup _,_,h,_ => by grind[cloOk]
 | .lit v,p,_,hr => by simp only [clo,R] at hr ⊢;grind
 | .ro u,p,_,hr => by simp only [clo,R] at hr ⊢;grind[RoC_mono]
 | .any,_,_,_ | .addr _ _,_,_,_ => by simp only [clo,R]
 | .mp ks xs,p,h,hr => by
  simp only [cloOk,Bool.not_eq_true',List.contains_eq_mem,decide_eq_false_iff_not] at h
  have:=frz1 (fun s p => hrep.mem.one s p) hSt (hSc s h) (.mp ks xs) p rfl hr
  simp only [strip] at this
  have h3:=hhd p
  simp only [clo,R]
  rw [h3];exact this
 | .sl k xs,p,h,hr => by
  simp only [cloOk,Bool.not_eq_true',List.contains_eq_mem,decide_eq_false_iff_not] at h
  have:=frz1 (fun s p => hrep.mem.one s p) hSt (hSc s h) (.sl k xs) p rfl hr
  simp only [clo,R]
  grind
 | .ptr t,p,h,hr => by
  simp only [cloOk,Bool.not_eq_true',List.contains_eq_mem,decide_eq_false_iff_not] at h
  have:=frz1 (fun s p => hrep.mem.one s p) hSt (hSc s h) (.ptr t) p rfl hr
  simp only [clo,R]
  grind
 | .same r q,p,h,hr => by
  simp only [cloOk,clo,R] at h hr ⊢
  cases hf:follow E 4 r q with
  | none => simp only [R]
  | some x =>
   obtain ⟨r',q',t⟩:=x
   simp only [hf,Bool.not_eq_true',List.contains_eq_mem,decide_eq_false_iff_not] at h
   obtain ⟨h1,h2,_⟩:=follow_ok hrep 4 r q r' q' t hf
   have h3:Gc.hd i p = G.hd r' q':=by grind
   by_cases hs:t.single = true
   ·have h4:=frz1 (fun s p => hrep.mem.one s p) hSt (hSc r' h) t q' hs h1
    cases t with
    | ro u => simp only [R] at h1 ⊢;grind[RoC_mono]
    | lit v => simp only [R] at h1 ⊢;grind
    | agg _ => grind[T.single]
    | tup _ => grind[T.single]
    | _ => simp only [hs,if_true,R];grind
   ·cases t <;> simp [T.single] at hs <;> simp [T.single,R]
 | .sub r q k lo hi,p,h,hr => by
  simp only [cloOk,clo,R] at h hr ⊢
  cases hf:follow E 4 r q with
  | none => simp only [R]
  | some x =>
   obtain ⟨r',q',t⟩:=x
   simp only [hf,Bool.not_eq_true',List.contains_eq_mem,decide_eq_false_iff_not] at h
   obtain ⟨h1,h2,_⟩:=follow_ok hrep 4 r q r' q' t hf
   cases t with
   | sl k' xs =>
    simp only []
    split
    ·rename_i hc
     obtain ⟨rfl,hc1,hc2⟩:=hc
     have h4:=frz1 (fun s p => hrep.mem.one s p) hSt (hSc r' h) (.sl k xs) q' rfl h1
     simp only [strip] at h4
     simp only [R]
     grind[RoC_sub,strips_length]
    ·simp only [R]
   | _ => simp only [R]
theorem RF_clo:(ts:List T) → ∀ (p:List Nat) (j:Nat),cloOks E rs s ts = true → RF Γ.St G w s ts p j → RF Sc Gc w i (clos E ts) p j
 | [],_,_,_,_ => by have _:=hrep;have _:=hSt;have _:=hSc;have _:=hhd;simp only [clos,RF]
 | x :: xs,p,j,h,hr => by
  simp only [cloOks,Bool.and_eq_true,clos,RF] at h hr ⊢
  exact ⟨R_clo x _ h.1 hr.1,RF_clo xs p (j + 1) h.2 hr.2⟩
end
end
section
variable {E:Env} {G Gc:Gh} {rs:List Nat} {s i:Nat}
theorem clo_single (t:T) (h:t.single = true):(clo E t).single = true:=by
 cases t <;> simp [T.single] at h <;> simp only [clo] <;> first | rfl | (split <;> first | rfl | (split <;> rfl))
mutual
theorem vals_clo (hhd:∀ z,Gc.hd i z = G.hd s z):(t:T) → ∀ (p:List Nat),cloOk E rs s t = true → vals Gc i (clo E t) p = vals G s t p
 | .agg ts,p,h => by simp only [cloOk,clo,vals] at h ⊢;exact valsF_clo hhd ts p 0 h
 | .tup _,_,h => by grind[cloOk]
 | .lit _,p,_ | .ro _,p,_ | .any,p,_ | .addr _ _,p,_ | .sl _ _,p,_ | .ptr _,p,_ | .mp _ _,p,_ | .same _ _,p,_ | .sub _ _ _ _ _,p,_ => by
  have h1:∀ u:T,u.single = true → vals Gc i u p = [G.hd s p]:=fun u hu => by cases u <;> simp [T.single] at hu <;> simp [vals,hhd]
  rw [h1 _ (clo_single _ rfl)]
  simp [vals]
theorem valsF_clo (hhd:∀ z,Gc.hd i z = G.hd s z):(ts:List T) → ∀ (p:List Nat) (j:Nat),cloOks E rs s ts = true → valsF Gc i (clos E ts) p j = valsF G s ts p j
 | [],_,_,_ => by rfl
 | x :: xs,p,j,h => by
  simp only [cloOks,Bool.and_eq_true] at h
  simp only [clos,valsF]
  rw [vals_clo hhd x _ h.1,valsF_clo hhd xs p _ h.2]
end
theorem mkV_clo (hhd:∀ z,Gc.hd i z = G.hd s z) (t:T) (h:cloOk E rs s t = true):mkV Gc i (clo E t) [] = mkV G s t []:=by
 cases t with
 | agg ts => grind[cloOk,clo,mkV,valsF_clo]
 | tup _ => grind[cloOk]
 | _ => rw [mkV_single (clo_single _ rfl),mkV_single rfl,hhd]
end
end Go.Ab

namespace Go.Ab
open Go
abbrev Rw:=List (Nat × Nat × T)
def rwI (rw:Rw) (s:Nat):Option Nat:=(rw.find? fun x => x.2.1 == s).map (·.1)
def rwS (rw:Rw) (i:Nat):Option Nat:=(rw.find? fun x => x.1 == i).map (·.2.1)
theorem rwI_some:(rw:Rw) → (rw.map (·.2.1)).Nodup → ∀ {i s:Nat} {u:T},(i,s,u) ∈ rw → rwI rw s = some i
 | [],_,_,_,_,h => by simp at h
 | (i0,s0,u0) :: rw,hn,i,s,u,h => by
  simp only [List.map_cons,List.nodup_cons,List.mem_map] at hn
  rcases List.mem_cons.1 h with h | h
  ·simp at h;obtain ⟨rfl,rfl,rfl⟩:=h;simp [rwI]
  ·have hne:s0 ≠ s:=fun e => hn.1 ⟨_,h,e.symm⟩
   have:=rwI_some rw hn.2 h
   simp only [rwI] at this ⊢
   rw [List.find?_cons_of_neg (by simpa using hne)]
   exact this
theorem rwS_some:(rw:Rw) → (rw.map (·.1)).Nodup → ∀ {i s:Nat} {u:T},(i,s,u) ∈ rw → rwS rw i = some s
 | [],_,_,_,_,h => by simp at h
 | (i0,s0,u0) :: rw,hn,i,s,u,h => by
  simp only [List.map_cons,List.nodup_cons,List.mem_map] at hn
  rcases List.mem_cons.1 h with h | h
  ·simp at h;obtain ⟨rfl,rfl,rfl⟩:=h;simp [rwS]
  ·have hne:i0 ≠ i:=fun e => hn.1 ⟨_,h,e.symm⟩
   have:=rwS_some rw hn.2 h
   simp only [rwS] at this ⊢
   rw [List.find?_cons_of_neg (by simpa using hne)]
   exact this
theorem rwI_none {rw:Rw} {s:Nat} (h:s ∉ rw.map (·.2.1)):rwI rw s = none:=by
 simp only [rwI,Option.map_eq_none_iff,List.find?_eq_none]
 intro x hx
 simp only [beq_iff_eq]
 exact fun e => h (List.mem_map.2 ⟨x,hx,e⟩)
theorem rwS_none {rw:Rw} {i:Nat} (h:∀ x ∈ rw,x.1 ≠ i):rwS rw i = none:=by
 simp only [rwS,Option.map_eq_none_iff,List.find?_eq_none]
 intro x hx
 simpa using h x hx
theorem rwI_mem {rw:Rw} {s i:Nat} (h:rwI rw s = some i):s ∈ rw.map (·.2.1):=by
 simp only [rwI,Option.map_eq_some_iff] at h
 obtain ⟨x,hx,_⟩:=h
 have h1:=List.mem_of_find?_eq_some hx
 have h2:=List.find?_some hx
 exact List.mem_map.2 ⟨x,h1,by simpa using h2⟩
abbrev Nd:=List (Nat × List Nat × T)
def ndAt (nd:Nd) (k s:Nat):Option (Nat × List Nat) :=
 match nd with
 | [] => none
 | x :: r => if x.1 = s then some (k,x.2.1) else ndAt r (k + 1) s
def ndB (d:Nat) (nd:Nd) (s:Nat) (z:List Nat):Option (Nat × List Nat) :=
 match nd with
 | [x] => if x.1 = s ∧ x.2.1 <:+ z then some (d,z.take (z.length - x.2.1.length)) else none
 | nd => match ndAt nd 0 s with
  | some (k,q) => if q <:+ z then some (d,z.take (z.length - q.length) ++ [k]) else none
  | none => none
theorem ndAt_some:(nd:Nd) → (nd.map (·.1)).Nodup → ∀ {k k0:Nat} {x:Nat × List Nat × T},nd[k]? = some x → ndAt nd k0 x.1 = some (k0 + k,x.2.1)
 | [],_,_,_,_,h => by simp at h
 | y :: nd,hn,k,k0,x,h => by
  simp only [List.map_cons,List.nodup_cons,List.mem_map] at hn
  cases k with
  | zero => simp at h;subst h;simp [ndAt]
  | succ k =>
   simp only [List.getElem?_cons_succ] at h
   have hne:y.1 ≠ x.1:=fun e => hn.1 ⟨x,List.mem_of_getElem? h,e.symm⟩
   simp only [ndAt,hne,if_false]
   rw [ndAt_some nd hn.2 h]
   congr 2;omega
def ndHd (G:Gh) (nd:Nd) (z:List Nat):Value :=
 match nd with
 | [x] => G.hd x.1 (z ++ x.2.1)
 | nd => match z.getLast? with
  | some k => (match nd[k]? with
   | some x => G.hd x.1 (z.dropLast ++ x.2.1)
   | none => .bool false)
  | none => .bool false
def ndAd (G:Gh) (nd:Nd) (z:List Nat):Addr :=
 match nd with
 | [x] => G.ad x.1 (z ++ x.2.1)
 | nd => match z.getLast? with
  | some k => (match nd[k]? with
   | some x => G.ad x.1 (z.dropLast ++ x.2.1)
   | none => default)
  | none => default
def Gh.arg (G:Gh) (a:Act) (xs:List Operand) (rw:Rw):Gh where
 hd i z:=match xs[i]? with
  | some (.tmp s) => G.hd s z
  | some x => oneV (a.eval x)
  | none => .bool false
 ad i z:=match xs[i]? with
  | some (.tmp s) => G.ad s z
  | _ => default
 lb b o:=match G.lb b o with
  | some (f,s,z) => (match rwI rw s,G.ow b with
   | some i,some (s',_) => if s' = s then some (f,i,z) else none
   | _,_ => none)
  | none => none
 ow b:=match G.ow b with
  | some (s,z) => (match rwI rw s with
   | some i => some (i,z)
   | none => none)
  | none => none
def lent (G:Gh) (rw:Rw) (b:Nat):Prop:=∃ s z,G.ow b = some (s,z) ∧ s ∈ rw.map (·.2.1)
def backL (d:Nat) (rw:Rw) (nd:Nd) (s:Nat) (z:List Nat):Option (Nat × List Nat) :=
 match rwS rw s with
 | some s' => some (s',z)
 | none => ndB d nd s z
open Classical in
noncomputable def Gh.back (G G':Gh) (n0 d:Nat) (rw:Rw) (nd:Nd):Gh where
 hd s z:=if s = d then ndHd G' nd z else match rwI rw s with
  | some i => G'.hd i z
  | none => G.hd s z
 ad s z:=if s = d then ndAd G' nd z else match rwI rw s with
  | some i => if z = [] then G.ad s z else G'.ad i z
  | none => G.ad s z
 lb b o:=if lent G rw b ∨ n0 ≤ b then (match G'.lb b o with
  | some (f,s,z) => (match backL d rw nd s z with
   | some (s',z') => some (f,s',z')
   | none => none)
  | none => none) else G.lb b o
 ow b:=if lent G rw b ∨ n0 ≤ b then (match G'.ow b with
  | some (s,z) => backL d rw nd s z
  | none => none) else G.ow b
def resT (res:List T):T:=match res with
 | [u] => u
 | us => .tup us
def cWr (d:Nat) (res:List T) (rw:Rw):Wr:=(d,some (resT res)) :: rw.map fun x => (x.2.1,some x.2.2)
def cLv (t:T):Nat:=if t.single then 1 else 0
def cChg (d:Nat) (rw:Rw):Chg:=(d,0) :: rw.map fun x => (x.2.1,cLv x.2.2)
theorem cChg_mem {d:Nat} {rw:Rw} {x:Nat × Nat × T} (h:x ∈ rw):(x.2.1,cLv x.2.2) ∈ cChg d rw:=List.mem_cons_of_mem _ (List.mem_map.2 ⟨x,h,rfl⟩)
theorem tupF_nd {Gn G':Gh} {d:Nat}:(nd:Nd) → ∀ (j:Nat),(∀ k x,nd[k]? = some x → ∀ z,Gn.hd d (z ++ [j + k]) = G'.hd x.1 (z ++ x.2.1)) → tupF Gn d (nd.map (·.2.2)) [] j = nd.map fun x => mkV1 G' x.1 x.2.2 x.2.1
 | [],_,_ => by simp [tupF]
 | x :: nd,j,h => by
  have ih:=tupF_nd (Gn:=Gn) (G':=G') (d:=d) nd (j + 1) (fun k y hy z => by
   rw [show j + 1 + k = j + (k + 1) from by omega];exact h (k + 1) y (by simpa using hy) z)
  simp only [List.map_cons,tupF,ih]
  rw [mkV1_hd x.2.2 x.2.1 [j] (by simpa using h 0 x (by simp))]
theorem cWr_find {d:Nat} {res:List T} {rw:Rw} {s:Nat} {x:Option T} (h:(cWr d res rw).find s = some x):(s = d ∧ x = some (resT res)) ∨ (s ≠ d ∧ ∃ i u,(i,s,u) ∈ rw ∧ x = some u):=by
 simp only [cWr,Wr.find] at h
 split at h
 ·rename_i he;simp at h;exact .inl ⟨he.symm,h.symm⟩
 ·rename_i hne
  refine .inr ⟨fun e => hne e.symm,?_⟩
  clear hne
  induction rw with
  | nil => simp [Wr.find] at h
  | cons y rw ih =>
   simp only [List.map_cons,Wr.find] at h
   split at h
   ·rename_i he;simp at h;subst he;exact ⟨y.1,y.2.2,by simp,h.symm⟩
   ·obtain ⟨i,u,h1,h2⟩:=ih h;exact ⟨i,u,by simp [h1],h2⟩
theorem cWr_none {d:Nat} {res:List T} {rw:Rw} {s:Nat} (h:(cWr d res rw).find s = none):s ≠ d ∧ s ∉ rw.map (·.2.1):=by
 simp only [cWr,Wr.find] at h
 split at h
 ·cases h
 ·rename_i hne
  refine ⟨fun e => hne e.symm,?_⟩
  clear hne
  induction rw with
  | nil => simp
  | cons y rw ih =>
   simp only [List.map_cons,Wr.find] at h
   split at h
   ·cases h
   ·rename_i he
    simp only [List.map_cons,List.mem_cons,not_or]
    exact ⟨fun e => he e.symm,ih h⟩
def aft (S Sc S':Stb):Stb:=fun b => match Sc b with
 | none => S' b
 | some _ => S b
theorem Rep.up {Γ:Ctx} {E:Env} {G:Gh} {tmps tmps':Array Value} {w w':World} {G':Gh} {wr:Wr} {chg:Chg} {S:Stb} (h:Rep Γ E G tmps w) (hS:∀ b x,Γ.St b = some x → S b = some x)
  (hsize:tmps'.size = tmps.size) (hk:Keep chg G w G' w') (hmem:Mem (Γ.at S) G' w')
  (hold:∀ s,wr.find s = none → (∀ n,(s,n) ∉ chg) ∧ tmps'[s]? = tmps[s]?)
  (hnew:∀ s t,wr.find s = some (some t) → Ent (Γ.at S) G' w' tmps'[s]? s t):Rep (Γ.at S) (E.app wr chg) G' tmps' w' where
 size:=by rw [hsize];exact h.size
 mem:=hmem
 ent s t hs:=by
  unfold Env.app at hs
  cases hf:wr.find s with
  | some x =>
   rw [hf] at hs
   simp at hs
   subst hs
   exact hnew s t hf
  | none =>
   rw [hf] at hs
   simp at hs
   cases he:E s with
   | none => simp [he] at hs
   | some u =>
    simp [he] at hs
    obtain ⟨hok,rfl⟩:=hs
    rw [(hold s hf).2]
    obtain ⟨e1,e2,e3⟩:=Ent.keep hk (hold s hf).1 hok (h.ent s u he)
    exact ⟨e1,R_mono hS u [] e2,e3⟩
section
variable {P:Program} {Γ:Ctx} {E:Env} {d:Nat}
theorem rep_call {G:Gh} {a:Act} {w:World} (hrep:Rep Γ E G a.tmps w) (hd:d < Γ.N) {Sc:Stb} {rw:Rw} (hS1:∀ b x,Sc b = some x → w.heap[b]? = some x ∧ ¬ lent G rw b) (hS0:∀ b x,Γ.St b = some x → Sc b = some x) {f:FuncId} {us res:List T}
  (hc:FnC P f us res (rw.map fun x => (x.1,x.2.2))) {xs:List Operand} (hlen:xs.length = us.length)
  (hargs:∀ (i:Nat) u,us[i]? = some u → (∃ x,xs[i]? = some x ∧ a.eval x = mkV (G.arg a xs rw) i u [] ∧ R Sc (G.arg a xs rw) w i u []))
  (hn1:(d :: rw.map (·.2.1)).Nodup) (hn2:(rw.map (·.1)).Nodup) (hxs:∀ x ∈ rw,xs[x.1]? = some (.tmp x.2.1))
  (hres:∀ u ∈ res,Clean u ∧ u.okTup = true ∧ ∀ (S':Stb) (G:Gh) (w:World) (s:Nat) (p:List Nat),(∀ b x,Sc b = some x → S' b = some x) → R S' G w s u p → R (aft Γ.St Sc S') G w s u p)
  (hrwT:∀ x ∈ rw,Clean x.2.2 ∧ (∀ (S':Stb) (G:Gh) (w:World) (s:Nat) (p:List Nat),(∀ b x,Sc b = some x → S' b = some x) → R S' G w s x.2.2 p → R (aft Γ.St Sc S') G w s x.2.2 p) ∧ ∃ u,E x.2.1 = some u ∧ x.2.2.single = u.single ∧ us[x.1]? = some u) :
  Calls P f (xs.map a.eval).toArray w fun e w' => ∃ v,e = .returned v ∧ ∃ S G',Grow Γ.St S Γ.W Γ.w0.heap.size ∧ Keep (cChg d rw) G w G' w' ∧ Rep (Γ.at S) (E.app (cWr d res rw) (cChg d rw)) G' (a.tmps.setIfInBounds d v) w':=by
 have hm:=hrep.mem
 have hdn:=List.nodup_cons.1 hn1
 have hmc:Mem ⟨Sc,lent G rw,w,0⟩ (G.arg a xs rw) w:=by
  have hst:∀ b,lent G rw b → Sc b = none:=fun b h => by
   cases hs:Sc b with
   | none => rfl
   | some x => exact absurd h (hS1 b x hs).2
  refine ⟨fun i z => ?_,fun b o l hl => ?_,fun b l hl => ?_,fun b x hx => (hS1 b x hx).1,fun b _ _ => rfl,Nat.le_refl _,⟨fun b cs e h => ⟨cs,h,rfl⟩,rfl,rfl⟩,hm.gl.up hS0⟩
  ·simp only [Gh.arg]
   split
   ·exact hm.one _ _
   ·exact oneV_one _
   ·rfl
  ·simp only [Gh.arg] at hl
   split at hl
   ·rename_i f' s z hg
    split at hl
    ·rename_i i s' y hi ho
     split at hl
     ·rename_i he;subst he
      have hL:lent G rw b:=⟨s',y,ho,rwI_mem hi⟩
      exact ⟨(hm.lb b o _ hg).1,.inr hL,hst b hL⟩
     ·cases hl
    ·cases hl
   ·cases hl
  ·simp only [Gh.arg] at hl
   split at hl
   ·rename_i s z hg
    split at hl
    ·rename_i i hi
     have hL:lent G rw b:=⟨s,z,hg,rwI_mem hi⟩
     exact ⟨(hm.ow b _ hg).1,.inr hL,hst b hL⟩
    ·cases hl
   ·cases hl
 have hcall:=hc Sc (lent G rw) w (G.arg a xs rw) (xs.map a.eval).toArray (by simp [hlen]) (fun i u hu => by
  obtain ⟨x,h1,h2,h3⟩:=hargs i u hu
  exact ⟨by simp [h1,h2],h3⟩) hmc
 refine hcall.mono ?_
 rintro e w' ⟨S',G',nd,hgrow,rfl,hm',hnres,hnd,hndn,hrws⟩
 have hup:∀ b x,Γ.St b = some x → aft Γ.St Sc S' b = some x:=fun b x hx => by simp only [aft,hS0 b x hx,hx]
 have hgr:Grow Γ.St (aft Γ.St Sc S') Γ.W Γ.w0.heap.size:=⟨hup,fun b hb hb' => by
  simp only [aft] at hb'
  split at hb'
  ·rename_i hs
   rcases hgrow.nw b hs hb' with h | ⟨s,z,h,_⟩
   ·exact .inl (by have:=hm.sz;omega)
   ·exact (hm.ow b _ h).2.1
  ·exact absurd hb hb'⟩
 refine ⟨_,rfl,aft Γ.St Sc S',G.back G' w.heap.size d rw nd,hgr,?_⟩
 have hfr:∀ b,b < w.heap.size → ¬ lent G rw b → w'.heap[b]? = w.heap[b]?:=hm'.fr
 have hsz:w.heap.size ≤ w'.heap.size:=hm'.sz
 have hblk:Blk w w':=hm'.bk.blk
 generalize hGn:G.back G' w.heap.size d rw nd = Gn
 have ghdd:∀ z,Gn.hd d z = ndHd G' nd z:=fun z => by rw [← hGn];simp [Gh.back]
 have gadd:∀ z,Gn.ad d z = ndAd G' nd z:=fun z => by rw [← hGn];simp [Gh.back]
 have ghd0:∀ s z,s ≠ d → s ∉ rw.map (·.2.1) → Gn.hd s z = G.hd s z:=fun s z h1 h2 => by rw [← hGn];simp [Gh.back,h1,rwI_none h2]
 have gad0:∀ s z,s ≠ d → s ∉ rw.map (·.2.1) → Gn.ad s z = G.ad s z:=fun s z h1 h2 => by rw [← hGn];simp [Gh.back,h1,rwI_none h2]
 have hsd:∀ i s u,(i,s,u) ∈ rw → s ≠ d:=fun i s u h e => hdn.1 (e ▸ List.mem_map.2 ⟨_,h,rfl⟩)
 have ghdr:∀ i s u z,(i,s,u) ∈ rw → Gn.hd s z = G'.hd i z:=fun i s u z h => by rw [← hGn];simp [Gh.back,hsd i s u h,rwI_some rw hdn.2 h]
 have gadr:∀ i s u z,(i,s,u) ∈ rw → z ≠ [] → Gn.ad s z = G'.ad i z:=fun i s u z h h0 => by rw [← hGn];simp [Gh.back,hsd i s u h,rwI_some rw hdn.2 h,h0]
 have gadr0:∀ i s u,(i,s,u) ∈ rw → Gn.ad s [] = G.ad s []:=fun i s u h => by rw [← hGn];simp [Gh.back,hsd i s u h,rwI_some rw hdn.2 h]
 have glb0:∀ b o l,¬ lent G rw b → G.lb b o = some l → Gn.lb b o = some l:=fun b o l h1 h2 => by
  have:=(hm.lb b o _ h2).1
  rw [← hGn];simp only [Gh.back];rw [if_neg (by rintro (h | h);exact h1 h;omega)];exact h2
 have gow0:∀ b l,¬ lent G rw b → G.ow b = some l → Gn.ow b = some l:=fun b l h1 h2 => by
  have:=(hm.ow b _ h2).1
  rw [← hGn];simp only [Gh.back];rw [if_neg (by rintro (h | h);exact h1 h;omega)];exact h2
 have hin:∀ b o l,G'.lb b o = some l → lent G rw b ∨ w.heap.size ≤ b:=fun b o l h => (hm'.lb b o l h).2.1.symm
 have hin2:∀ b l,G'.ow b = some l → lent G rw b ∨ w.heap.size ≤ b:=fun b l h => (hm'.ow b l h).2.1.symm
 have glb1:∀ b o fl s z s' z',G'.lb b o = some (fl,s,z) → backL d rw nd s z = some (s',z') → Gn.lb b o = some (fl,s',z'):=fun b o fl s z s' z' h1 h2 => by
  rw [← hGn];simp only [Gh.back];rw [if_pos (hin b o _ h1),h1];simp [h2]
 have gow1:∀ b s z l,G'.ow b = some (s,z) → backL d rw nd s z = some l → Gn.ow b = some l:=fun b s z l h1 h2 => by
  rw [← hGn];simp only [Gh.back];rw [if_pos (hin2 b _ h1),h1];simp [h2]
 have hbk:∀ i s u z,(i,s,u) ∈ rw → backL d rw nd i z = some (s,z):=fun i s u z h => by simp [backL,rwS_some rw hn2 h]
 have hlt:∀ x ∈ rw,x.1 < us.length:=fun x hx => by
  have:=(List.getElem?_eq_some_iff.1 (hxs x hx)).1
  omega
 have hbn:∀ x ∈ nd,∀ z,backL d rw nd x.1 z = ndB d nd x.1 z:=fun x hx z => by
  have h1:=(hnd x hx).2
  have h2:rwS rw x.1 = none:=rwS_none (fun y hy e => by have:=hlt y hy;omega)
  simp [backL,h2]
 have htgt:∀ (k:Nat) x,nd[k]? = some x → ∃ tgt,(nd.length = 1 → tgt = []) ∧ (nd.length ≠ 1 → tgt = [k]) ∧ (∀ z,Gn.hd d (z ++ tgt) = G'.hd x.1 (z ++ x.2.1)) ∧ (∀ z,Gn.ad d (z ++ tgt) = G'.ad x.1 (z ++ x.2.1)) ∧ ∀ z,backL d rw nd x.1 (z ++ x.2.1) = some (d,z ++ tgt):=by
  intro k x hk
  have hxm:=List.mem_of_getElem? hk
  match nd,hk,hndn,hbn x hxm,ghdd,gadd with
  | [y],hk,hndn,hb,ghdd,gadd =>
   have hkx:y = x:=by
    cases k with
    | zero => simpa using hk
    | succ k => simp at hk
   subst hkx
   exact ⟨[],fun _ => rfl,fun h => absurd rfl h,fun z => by rw [ghdd];simp [ndHd],fun z => by rw [gadd];simp [ndAd],fun z => by rw [hb];simp [ndB]⟩
  | [],hk,_,_,_,_ => simp at hk
  | y1 :: y2 :: r,hk,hndn,hb,ghdd,gadd =>
   refine ⟨[k],fun h => by simp at h,fun _ => rfl,fun z => by rw [ghdd];simp only [ndHd,List.getLast?_append,List.dropLast_concat];simp [hk],fun z => by rw [gadd];simp only [ndAd,List.getLast?_append,List.dropLast_concat];simp [hk],fun z => ?_⟩
   rw [hb]
   have:=ndAt_some (y1 :: y2 :: r) hndn (k0:=0) hk
   rw [Nat.zero_add] at this
   simp only [ndB,this]
   simp
 have hresR:∀ (k:Nat) x,nd[k]? = some x → ∀ tgt,(∀ z,Gn.hd d (z ++ tgt) = G'.hd x.1 (z ++ x.2.1)) → (∀ z,Gn.ad d (z ++ tgt) = G'.ad x.1 (z ++ x.2.1)) → (∀ z,backL d rw nd x.1 (z ++ x.2.1) = some (d,z ++ tgt)) → R (aft Γ.St Sc S') Gn w' d x.2.2 tgt:=by
  intro k x hk tgt h1 h2 h3
  have hxm:=List.mem_of_getElem? hk
  obtain ⟨c1,c2,c3⟩:=hres x.2.2 (by rw [← hnres];exact List.mem_map.2 ⟨x,hxm,rfl⟩)
  refine R_move0 (G:=G') (w:=w') (s:=x.1) (p:=x.2.1) ⟨⟨h1,fun z _ => h2 z,fun b o f' z _ _ hl => ⟨glb1 b o f' _ _ _ _ hl (h3 z),rfl⟩,fun b z _ hl => gow1 b _ _ _ hl (h3 z),fun b cs e h => ⟨cs,h,rfl⟩,by intros;assumption⟩,fun b o _ hl => ⟨glb1 b o true _ _ _ _ hl (by simpa using h3 []),rfl⟩,fun b hl => gow1 b _ _ _ hl (by simpa using h3 [])⟩ _ (AllR.mono (fun _ _ => False.elim) _ c1) (c3 _ _ _ _ _ hgrow.le (hnd x hxm).1)
 have hkeep:Keep (cChg d rw) G w Gn w':=by
  have hoff:∀ s,(∀ n,(s,n) ∉ cChg d rw) → s ≠ d ∧ s ∉ rw.map (·.2.1):=fun s h => ⟨fun e => h 0 (by simp [cChg,e]),fun hm => by
   obtain ⟨x,hx,rfl⟩:=List.mem_map.1 hm
   exact h _ (cChg_mem hx)⟩
  have hnl:∀ b s y,G.ow b = some (s,y) → s ∉ rw.map (·.2.1) → ¬ lent G rw b:=by
   rintro b s y h1 h2 ⟨s',z',h3,h4⟩
   rw [h1] at h3
   simp at h3
   exact h2 (h3.1 ▸ h4)
  refine ⟨fun s p h => ?_,fun s p h => ?_,fun b o fl s p hob h1 h2 => ?_,fun b s p h1 h2 => ?_,hblk,fun b s p ms c h1 h2 hb => by rw [hfr b (hm.ow b _ h1).1 (hnl b s p h1 (hoff s h2).2)];exact hb⟩
  ·have h1:s ≠ d:=fun e => absurd (h 0 (by simp [cChg,e])) (by simp)
   by_cases h2:s ∈ rw.map (·.2.1)
   ·
    obtain ⟨x,hx,rfl⟩:=List.mem_map.1 h2
    have hc:=h _ (cChg_mem hx)
    have c2:x.2.2.single = true:=by
     cases hc2:x.2.2.single with
     | true => rfl
     | false => simp [cLv,hc2] at hc
    have h3:p = []:=List.eq_nil_of_length_eq_zero (by simp only [cLv,c2,if_true] at hc;omega)
    subst h3
    obtain ⟨_,_,u,c4,c5,c6⟩:=hrwT x hx
    rw [c2] at c5
    have c5:=c5.symm
    obtain ⟨_,u0,e1,e2⟩:=hrws x.1 x.2.2 (List.mem_map.2 ⟨x,hx,rfl⟩)
    rw [c6] at e1
    simp at e1
    subst e1
    rw [mkV_single c2,mkV_single c5] at e2
    rw [ghdr x.1 x.2.1 x.2.2 [] hx,e2]
    simp [Gh.arg,hxs x hx]
   ·exact ghd0 s p h1 h2
  ·have h1:s ≠ d:=fun e => absurd (h 0 (by simp [cChg,e])) (by simp)
   by_cases h2:s ∈ rw.map (·.2.1)
   ·obtain ⟨x,hx,rfl⟩:=List.mem_map.1 h2
    have hc:=h _ (cChg_mem hx)
    have h3:p = []:=List.eq_nil_of_length_eq_zero (by have:cLv x.2.2 ≤ 1:=(by unfold cLv;split <;> omega);omega)
    subst h3
    exact gadr0 x.1 x.2.1 x.2.2 hx
   ·exact gad0 s p h1 h2
  ·obtain ⟨h3,h4⟩:=hoff s h2
   obtain ⟨y,hy⟩:=hob
   have h5:=hnl b s y hy h4
   exact ⟨glb0 b o _ h5 h1,by simp [cellAt,World.cell?,hfr b (hm.lb b o _ h1).1 h5]⟩
  ·obtain ⟨h3,h4⟩:=hoff s h2
   exact gow0 b _ (hnl b s p h1 h4) h1
 have hmem:Mem (Γ.at (aft Γ.St Sc S')) Gn w':=by
  have hok:∀ b,b < w'.heap.size ∧ (w.heap.size ≤ b ∨ lent G rw b) ∧ S' b = none → BlkOk (Γ.at (aft Γ.St Sc S')) w' b:=fun b ⟨hb,h,hs'⟩ => by
   have hsc:Sc b = none:=by
    cases hs:Sc b with
    | none => rfl
    | some x => rw [hgrow.le b x hs] at hs';cases hs'
   refine ⟨hb,?_,by simp only [aft,hsc];exact hs'⟩
   rcases h with h | ⟨s,z,h1,_⟩
   ·exact .inl (by have:=hm.sz;show Γ.w0.heap.size ≤ b;omega)
   ·exact (hm.ow b _ h1).2.1
  have hold:∀ b,¬ (lent G rw b ∨ w.heap.size ≤ b) → BlkOk Γ w b → BlkOk (Γ.at (aft Γ.St Sc S')) w' b:=fun b h ⟨h1,h2,h3⟩ => by
   refine ⟨by omega,h2,?_⟩
   simp only [aft]
   split
   ·rename_i hs
    cases hs':S' b with
    | none => rfl
    | some x =>
     rcases hgrow.nw b hs (by rw [hs'];simp) with h4 | h4
     ·exact absurd (.inr h4) h
     ·exact absurd (.inl h4) h
   ·exact h3
  refine ⟨fun s z => ?_,fun b o l hl => ?_,fun b l hl => ?_,fun b x hx => ?_,fun b (h1:b < Γ.w0.heap.size) h2 => ?_,Nat.le_trans hm.sz hsz,hm.bk.trans hblk hm'.bk.os hm'.bk.out,hm.gl.up fun b x h => by simp only [aft,hS0 b x h];exact h⟩
  ·by_cases h1:s = d
   ·subst h1
    rw [ghdd]
    unfold ndHd
    split
    ·exact hm'.one _ _
    ·split
     ·split
      ·exact hm'.one _ _
      ·rfl
     ·rfl
   ·by_cases h2:s ∈ rw.map (·.2.1)
    ·obtain ⟨x,hx,rfl⟩:=List.mem_map.1 h2
     rw [ghdr x.1 x.2.1 x.2.2 z hx];exact hm'.one _ _
    ·rw [ghd0 s z h1 h2];exact hm.one _ _
  ·rw [← hGn] at hl
   simp only [Gh.back] at hl
   split at hl
   ·rename_i hc'
    split at hl
    ·rename_i hg
     exact hok b (hm'.lb b o _ hg)
    ·cases hl
   ·rename_i hc'
    exact hold b hc' (hm.lb b o l hl)
  ·rw [← hGn] at hl
   simp only [Gh.back] at hl
   split at hl
   ·rename_i hc'
    split at hl
    ·rename_i hg
     exact hok b (hm'.ow b _ hg)
    ·cases hl
   ·rename_i hc'
    exact hold b hc' (hm.ow b l hl)
  ·simp only [aft] at hx
   split at hx
   ·exact hm'.st b x hx
   have h1:=hm.st b x hx
   have h2:=(Array.getElem?_eq_some_iff.1 h1).1
   have h3:¬ lent G rw b:=by
    rintro ⟨s,z,h4,_⟩
    rw [(hm.ow b _ h4).2.2] at hx;cases hx
   rw [hfr b h2 h3];exact h1
  ·have h3:¬ lent G rw b:=by
    rintro ⟨s,z,h4,_⟩
    rcases (hm.ow b _ h4).2.1 with h5 | h5
    ·omega
    ·exact h2 h5
   rw [hfr b (by have:=hm.sz;omega) h3];exact hm.fr b h1 h2
 have hndl:nd.length = res.length:=by rw [← hnres];simp
 refine ⟨hkeep,hrep.up hup (by simp) hkeep hmem ?_ ?_⟩
 ·intro s hs
  obtain ⟨h1,h2⟩:=cWr_none hs
  refine ⟨fun n hn => ?_,by rw [Array.getElem?_setIfInBounds];simp [Ne.symm h1]⟩
  simp only [cChg,List.mem_cons,Prod.mk.injEq,List.mem_map] at hn
  rcases hn with ⟨e,_⟩ | ⟨x,hx,e,_⟩
  ·exact h1 e
  ·exact h2 (List.mem_map.2 ⟨x,hx,e⟩)
 ·intro s t hs
  rcases cWr_find hs with ⟨rfl,ht⟩ | ⟨hne,i,u,hrw,ht⟩
  ·simp at ht
   subst ht
   rw [Array.getElem?_setIfInBounds]
   simp only [hrep.size,hd,if_true]
   have hres1:res = nd.map (·.2.2):=hnres.symm
   by_cases hl:nd.length = 1
   ·obtain ⟨x,hx⟩:∃ x,nd = [x]:=List.length_eq_one_iff.1 hl
    obtain ⟨tgt,t1,_,t3,t4,t5⟩:=htgt 0 x (by simp [hx])
    obtain rfl:=t1 hl
    have hr:=hresR 0 x (by simp [hx]) [] t3 t4 t5
    obtain ⟨c1,c2,_⟩:=hres x.2.2 (by rw [hres1,hx];simp)
    have hrt:resT res = x.2.2:=by rw [hres1,hx];rfl
    have hnt:∀ ys,x.2.2 ≠ .tup ys:=fun ys e => by rw [e] at c2;simp [T.okTup] at c2
    rw [hrt]
    refine ⟨?_,hr,Top.of_clean _ c1⟩
    rw [mkV_mkV1 Gn s _ [] hnt,mkV1_hd x.2.2 x.2.1 [] t3,hx]
    rfl
   ·have hrt:resT res = .tup res:=by
     rw [hndl] at hl
     match res,hl with
     | [],_ => rfl
     | [u],hl => simp at hl
     | _ :: _ :: _,_ => rfl
    rw [hrt]
    have hhd:∀ k x,nd[k]? = some x → ∀ z,Gn.hd s (z ++ [0 + k]) = G'.hd x.1 (z ++ x.2.1):=fun k x hk z => by
     obtain ⟨tgt,_,t2,t3,_,_⟩:=htgt k x hk
     rw [t2 hl] at t3
     rw [Nat.zero_add];exact t3 z
    refine ⟨?_,?_,?_⟩
    ·have hv:=tupF_nd (Gn:=Gn) (G':=G') (d:=s) nd 0 hhd
     rw [hnres] at hv
     simp only [mkV,hv]
     unfold retV
     split
     ·simp at hl
     ·rfl
    ·simp only [R]
     rw [hres1]
     refine RF_of _ [] 0 (fun k u hu => ?_)
     rw [List.getElem?_map] at hu
     cases hk:nd[k]? with
     | none => simp [hk] at hu
     | some x =>
      simp [hk] at hu
      subst hu
      obtain ⟨tgt,_,t2,t3,t4,t5⟩:=htgt k x hk
      rw [t2 hl] at t3 t4 t5
      rw [Nat.zero_add]
      exact hresR k x hk [k] t3 t4 t5
    ·simp only [Top]
     refine Tops.of_clean _ ?_
     have:∀ us:List T,(∀ u ∈ us,Clean u) → Cleans us:=by
      intro us
      induction us with
      | nil => intro _;trivial
      | cons u us ih => intro h;exact ⟨h u (by simp),ih fun v hv => h v (by simp [hv])⟩
     exact this res fun u hu => (hres u hu).1
  ·simp at ht
   subst ht
   obtain ⟨c1,c3,u0,c4,_,c6⟩:=hrwT _ hrw
   obtain ⟨r1,u1,e1,e2⟩:=hrws i t (List.mem_map.2 ⟨_,hrw,rfl⟩)
   simp only at c4 c6
   rw [c6] at e1
   simp at e1
   subst e1
   refine ⟨?_,?_,Top.of_clean _ c1⟩
   ·rw [Array.getElem?_setIfInBounds]
    simp only [Ne.symm hne,if_false]
    have hxi:=hxs _ hrw
    simp only at hxi
    have m1:mkV Gn s t [] = mkV G' i t []:=mkV_hd t [] [] (fun z => by rw [List.append_nil];exact ghdr i s t z hrw)
    have m2:mkV (G.arg a xs rw) i u0 [] = mkV G s u0 []:=mkV_hd u0 [] [] (fun z => by simp [Gh.arg,hxi])
    rw [(hrep.ent s u0 c4).1,m1,e2,m2]
   ·refine R_move0 (G:=G') (w:=w') (s:=i) (p:=[]) ⟨⟨fun z => by rw [List.append_nil];exact ghdr i s t z hrw,fun z hz => by rw [List.append_nil];exact gadr i s t z hrw hz,fun b o f' z _ _ hl => ?_,fun b z _ hl => ?_,fun b cs e h => ⟨cs,h,rfl⟩,by intros;assumption⟩,fun b o _ hl => ⟨glb1 b o true _ _ _ _ hl (hbk i s t [] hrw),rfl⟩,fun b hl => gow1 b _ _ _ hl (hbk i s t [] hrw)⟩ t (AllR.mono (fun _ _ => False.elim) _ c1) (c3 _ _ _ _ _ hgrow.le r1)
    ·rw [List.append_nil] at hl ⊢;exact ⟨glb1 b o f' _ _ _ _ hl (hbk i s t z hrw),rfl⟩
    ·rw [List.append_nil] at hl ⊢;exact gow1 b _ _ _ hl (hbk i s t z hrw)
end
end Go.Ab

namespace Go.Ab
open Go
def argCl (E:Env) (rs:List Nat) (x:Operand) (t:T):Bool :=
 match x with
 | .tmp s => cloOk E rs s t
 | _ => true
def ArgOk (E:Env) (rw:Rw) (i:Nat) (x:Operand) (u:T):Prop :=
 (∃ s u',x = .tmp s ∧ (i,s,u') ∈ rw ∧ E s = some u ∧ Clean u ∧ u.okTup = true ∧ roFree u = true) ∨ (∃ t,opT E x = some t ∧ clo E t = u ∧ argCl E (rw.map (·.2.1)) x t = true)
def ArgsOk (E:Env) (rw:Rw):Nat → List Operand → List T → Prop
 | _,[],[] => True
 | i,x :: xs,u :: us => ArgOk E rw i x u ∧ ArgsOk E rw (i + 1) xs us
 | _,_,_ => False
theorem ArgsOk.length {E:Env} {rw:Rw}:(xs:List Operand) → (us:List T) → ∀ i,ArgsOk E rw i xs us → xs.length = us.length
 | [],[],_,_ => rfl
 | _ :: xs,_ :: us,i,h => by simp [ArgsOk.length xs us (i + 1) h.2]
 | [],_ :: _,_,h => by simp [ArgsOk] at h
 | _ :: _,[],_,h => by simp [ArgsOk] at h
theorem ArgsOk.get {E:Env} {rw:Rw}:(xs:List Operand) → (us:List T) → ∀ i,ArgsOk E rw i xs us → ∀ (j:Nat) u,us[j]? = some u → ∃ x,xs[j]? = some x ∧ ArgOk E rw (i + j) x u
 | [],[],_,_,_,_,h => by simp at h
 | x :: xs,v :: us,i,h,j,u,hj => by
  cases j with
  | zero => simp at hj;subst hj;exact ⟨x,by simp,h.1⟩
  | succ j =>
   obtain ⟨y,h1,h2⟩:=ArgsOk.get xs us (i + 1) h.2 j u (by simpa using hj)
   exact ⟨y,by simpa using h1,by rwa [show i + (j + 1) = i + 1 + j from by omega]⟩
 | [],_ :: _,_,h,_,_,_ => by simp [ArgsOk] at h
 | _ :: _,[],_,h,_,_,_ => by grind
structure RwOk (E:Env) (d:Nat) (xs:List Operand) (us:List T) (rw:Rw):Prop where
 nodup:(d :: rw.map (·.2.1)).Nodup
 nodup2:(rw.map (·.1)).Nodup
 at_:∀ x ∈ rw,xs[x.1]? = some (.tmp x.2.1)
 tree:∀ x ∈ rw,Clean x.2.2 ∧ roFree x.2.2 = true ∧ ∃ u,E x.2.1 = some u ∧ x.2.2.single = u.single ∧ us[x.1]? = some u
theorem RwOk.nil {E:Env} {d:Nat} {xs:List Operand} {us:List T}:RwOk E d xs us []:=⟨by simp,by simp,by simp,by simp⟩
theorem RwOk.one {E:Env} {d i s:Nat} {u u':T} {xs:List Operand} {us:List T} (h1:d ≠ s) (h2:xs[i]? = some (.tmp s)) (h3:Clean u') (h4:u'.single = true) (h5:roFree u' = true) (h6:E s = some u) (h7:u.single = true) (h8:us[i]? = some u) :
  RwOk E d xs us [(i,s,u')]:=⟨by grind,by simp,by grind,by grind⟩
section
variable {P:Program} {Γ:Ctx} {E:Env} {o:Oper} {d:Nat}
theorem arg_rep {G:Gh} {a:Act} {w:World} (hrep:Rep Γ E G a.tmps w) {rw:Rw} {xs:List Operand} {us:List T} (hr:RwOk E d xs us rw) {Sc:Stb} (hSt:∀ b x,Γ.St b = some x → Sc b = some x)
  (hSc:∀ r,r ∉ rw.map (·.2.1) → ∀ b,(∃ y,G.ow b = some (r,y)) → Sc b = w.heap[b]?) {i:Nat} {x:Operand} {u:T} (hx:xs[i]? = some x) (hu:us[i]? = some u) (h:ArgOk E rw i x u) :
  a.eval x = mkV (G.arg a xs rw) i u [] ∧ R Sc (G.arg a xs rw) w i u []:=by
 rcases h with ⟨s,u',rfl,h1,h2,h3,h4,h5⟩ | ⟨t,h1,rfl,h3⟩
 ·obtain ⟨e1,e2,_⟩:=hrep.ent s u h2
  have hhd:∀ z,(G.arg a xs rw).hd i z = G.hd s z:=by grind[Gh.arg]
  have had:∀ z,(G.arg a xs rw).ad i z = G.ad s z:=by grind[Gh.arg]
  have hi:=rwI_some rw (List.nodup_cons.1 hr.nodup).2 h1
  refine ⟨by grind[eval_tmp,mkV_hd],?_⟩
  refine R_St u [] h5 (R_move0 (St:=Γ.St) (G:=G) (w:=w) (s:=s) (p:=[]) ⟨⟨by grind,by grind,fun b o' f' z _ hob hl => ?_,fun b z _ hl => ?_,fun b cs e h => ⟨cs,h,rfl⟩,by intros;assumption⟩,fun b o' hob hl => ?_,fun b hl => ?_⟩ u (by grind[AllR.mono]) e2)
  ·obtain ⟨y,hy⟩:=hob
   exact ⟨by grind[Gh.arg],rfl⟩
  ·grind[Gh.arg]
  ·obtain ⟨y,hy⟩:=hob
   exact ⟨by grind[Gh.arg],rfl⟩
  grind[Gh.arg]
 ·cases x with
  | tmp s =>
   have hhd:∀ z,(G.arg a xs rw).hd i z = G.hd s z:=by grind[Gh.arg]
   obtain ⟨e1,e2,_⟩:=hrep.ent s t h1
   grind[argCl,eval_tmp,mkV_clo,R_clo]
  | const v =>
   simp only [opT] at h1
   split at h1
   ·rename_i hone
    simp at h1;subst h1
    have hhd:(G.arg a xs rw).hd i [] = v:=by grind[Gh.arg,Act.eval,oneV_of]
    exact ⟨by grind[clo,mkV,Act.eval],by simp [clo,R,hhd]⟩
   ·cases h1
  | func f =>
   simp only [opT] at h1
   simp at h1;subst h1
   have hhd:(G.arg a xs rw).hd i [] = .func (.func f) #[] #[]:=by grind[Gh.arg,Act.eval,oneV,Value.oneCell']
   exact ⟨by grind[clo,mkV,Act.eval],by simp [clo,R,hhd]⟩
  | global g => grind[opT]
theorem lits_flat {E:Env}:(t:T) → t.flat = true → (∀ rs s,cloOk E rs s t = true) ∧ clo E t = t
 | .lit _,_ | .ro _,_ => by simp [cloOk,clo]
 | .agg ts,h => by
  simp only [T.flat] at h
  have:=go ts h
  grind[cloOk,clo]
 | .any,h | .same _ _,h | .addr _ _,h | .sub _ _ _ _ _,h | .sl _ _,h | .ptr _,h | .mp _ _,h | .tup _,h => by grind[T.flat]
where go:(ts:List T) → flats ts = true → (∀ rs s,cloOks E rs s ts = true) ∧ clos E ts = ts
 | [],_ => by simp [cloOks,clos]
 | x :: xs,h => by
  simp only [flats,Bool.and_eq_true] at h
  simp only [cloOks,clos,Bool.and_eq_true]
  exact ⟨fun rs s => ⟨(lits_flat x h.1).1 rs s,(go xs h.2).1 rs s⟩,by rw [(lits_flat x h.1).2,(go xs h.2).2]⟩
theorem wp_enter {a:Act} {w:World} {K:Act → World → Prop} {Q:Exit → Act → World → Prop} {f:FuncId} {xf:Operand} {xs:List Operand} {ats:Array TypeId} (ho:o.op = .call { callee:=.value xf,args:=xs.toArray,argTypes:=ats }) (hdst:o.dst = some d)
  (hcall:∀ args w,(callFunc f args).run P w = .ok (.enter f args) w) (hf:a.eval xf = .func (.func f) #[] #[])
  (h:Calls P f (xs.map a.eval).toArray w fun e w' => ∃ v,e = .returned v ∧ K (a.put (some d) v) w'):o.wp P a w K Q:=by
 have hrun:(execOp a.eval o).run P w = .ok (.enter f (xs.map a.eval).toArray) w:=by
  simp [execOp,ho,resolve,hf,Deferred.ofValue,invoke,hcall]
 unfold Oper.wp
 rw [hrun,Oper.upon_enter]
 refine h.mono ?_
 grind
theorem call_own {G:Gh} {a:Act} {w:World} (hrep:Rep Γ E G a.tmps w) (hd:d < Γ.N) (f:FuncId) (xs:List Operand) (us res:List T) (rw:Rw)
  (hc:FnC P f us res (rw.map fun x => (x.1,x.2.2))) (hargs:ArgsOk E rw 0 xs us) (hr:RwOk E d xs us rw) (hres:Cleans res ∧ okTups res = true ∧ roFrees res = true) :
  Calls P f (xs.map a.eval).toArray w fun e w' => ∃ v,e = .returned v ∧ ∃ S G',Grow Γ.St S Γ.W Γ.w0.heap.size ∧ Keep (cChg d rw) G w G' w' ∧ Rep (Γ.at S) (E.app (cWr d res rw) (cChg d rw)) G' (a.tmps.setIfInBounds d v) w':=by
 classical
 have hm:=hrep.mem
 let Sc:Stb:=fun b => if lent G rw b then none else w.heap[b]?
 have hSt:∀ b x,Γ.St b = some x → Sc b = some x:=fun b x hx => by
  have h3:¬ lent G rw b:=by
   rintro ⟨s,z,h4,_⟩
   rw [(hm.ow b _ h4).2.2] at hx;cases hx
  simp only [Sc,h3,if_false]
  exact hm.st b x hx
 have hSc:∀ r,r ∉ rw.map (·.2.1) → ∀ b,(∃ y,G.ow b = some (r,y)) → Sc b = w.heap[b]?:=fun r hr' b ⟨y,hy⟩ => by
  have h3:¬ lent G rw b:=by
   rintro ⟨s,z,h4,h5⟩
   grind
  grind
 have hget:∀ (us:List T),Cleans us ∧ okTups us = true ∧ roFrees us = true → ∀ u ∈ us,Clean u ∧ u.okTup = true ∧ roFree u = true:=by
  intro us
  induction us with
  | nil => simp
  | cons v us ih =>
   intro ⟨h1,h2,h3⟩ u hu
   simp only [okTups,roFrees,Bool.and_eq_true] at h2 h3
   rcases List.mem_cons.1 hu with rfl | hu
   ·exact ⟨h1.1,h2.1,h3.1⟩
   ·exact ih ⟨h1.2,h2.2,h3.2⟩ u hu
 exact rep_call hrep hd (Sc:=Sc) (rw:=rw) (by grind) hSt hc (ArgsOk.length xs us 0 hargs) (fun i u hu => by
   obtain ⟨x,h1,h2⟩:=ArgsOk.get xs us 0 hargs i u hu
   rw [Nat.zero_add] at h2
   grind[arg_rep]) hr.nodup hr.nodup2 hr.at_
  (by grind[R_St])
  (fun x hx => by
   obtain ⟨h1,h3,h4⟩:=hr.tree x hx
   grind[R_St])
theorem ok_call (f:FuncId) (xf:Operand) (xs:List Operand) (ats:Array TypeId) (us res:List T) (rw:Rw) (ho:o.op = .call { callee:=.value xf,args:=xs.toArray,argTypes:=ats }) (hdst:o.dst = some d) (hd:d < Γ.N)
  (hcall:∀ args w,(callFunc f args).run P w = .ok (.enter f args) w) (hf:opT E xf = some (.lit (.func (.func f) #[] #[])))
  (hc:FnC P f us res (rw.map fun x => (x.1,x.2.2))) (hargs:ArgsOk E rw 0 xs us) (hr:RwOk E d xs us rw) (hres:Cleans res ∧ okTups res = true ∧ roFrees res = true) :
  OpOk P Γ o E (E.app (cWr d res rw) (cChg d rw)):=by
 intro a w K Q ⟨hdf,G,hrep⟩ hK
 refine wp_enter ho hdst hcall (opd_lit hrep hf).1 ?_
 refine (call_own hrep hd f xs us res rw hc hargs hr hres).mono ?_
 rintro e w' ⟨v,rfl,S,G',hS,_,hG'⟩
 exact ⟨v,rfl,hK _ _ ⟨S,hS,hdf,G',hG'⟩⟩
theorem ok_callP (f:FuncId) (xf:Operand) (xs:List Operand) (ats:Array TypeId) (us res:List T) (i ds r:Nat) (q:List Nat) (tr u u':T) (ho:o.op = .call { callee:=.value xf,args:=xs.toArray,argTypes:=ats }) (hdst:o.dst = some d) (hd:d < Γ.N)
  (hcall:∀ args w,(callFunc f args).run P w = .ok (.enter f args) w) (hf:opT E xf = some (.lit (.func (.func f) #[] #[])))
  (hs:E ds = some (.same r q)) (hr:E r = some tr) (hq:tr.get q.reverse = some u) (hu:u.single = true) (huc:Clean u) (hdr:ds ≠ r) (hdr2:d ≠ r) (hok:tr.okB [(ds,1),(r,q.length + 1)] = true) (hc2:okTups1 tr = true)
  (E1 E2:Env) (hE1:E1 = E.app [(ds,some u),(r,some (if q = [] then .same ds [] else tr.set q.reverse .any))] [(ds,1),(r,q.length + 1)]) (hE2:E2 = E1.app (cWr d res [(i,ds,u')]) (cChg d [(i,ds,u')]))
  (hc:FnC P f us res [(i,u')]) (hargs:ArgsOk E1 [(i,ds,u')] 0 xs us) (hrw:RwOk E1 d xs us [(i,ds,u')]) (hres:Cleans res ∧ okTups res = true ∧ roFrees res = true)
  (tr2 v0:T) (hr2:E2 r = some tr2) (hq2:tr2.get q.reverse = some v0) (hv0:v0.single = true) (hs2:E2 ds = some u') (huc':Clean u') (hu':u'.single = true) (hok2:tr2.okB [(r,q.length + 1),(ds,1)] = true) (hc3:okTups1 tr2 = true) (hok3:u'.okB [(r,q.length + 1),(ds,1)] = true) (hc4:okTups1 u' = true) :
  OpOk P Γ o E (E2.app [(r,some (tr2.set q.reverse u')),(ds,some (.same r q))] [(r,q.length + 1),(ds,1)]):=by
 have hlv:cLv u' = 1:=by grind[cLv]
 intro a w K Q ⟨hdf,G,hrep⟩ hK
 refine wp_enter ho hdst hcall (opd_lit hrep hf).1 ?_
 have hsame:G.hd ds [] = G.hd r q:=by have:=(hrep.ent ds _ hs).2.1;simpa only [R] using this
 obtain ⟨hrep1,hhd1⟩:=rep_tr hrep ds [] r q (.same r q) tr u (.same r q) hs rfl rfl hsame hr hq hu huc hdr (by grind[T.okB,refOk]) (by omega) rfl hc2
 have hE1':E.app [(ds,some ((T.same r q).set [].reverse u)),(r,some (if q = [] then .same ds [] else tr.set q.reverse .any))] [(ds,([]:List Nat).length + 1),(r,q.length + 1)] = E1:=by rw [hE1];rfl
 rw [hE1'] at hrep1
 refine (call_own hrep1 hd f xs us res [(i,ds,u')] hc hargs hrw hres).mono ?_
 rintro e w' ⟨v,rfl,S,G',hS,hk,hG'⟩
 rw [← hE2] at hG'
 have hdds:d ≠ ds:=by have:=hrw.nodup;grind
 have h1:G'.hd r q = (G.tr ds [] r q).hd r q:=hk.hd r q (fun n hn => by grind[cChg])
 have h2:G'.hd ds [] = (G.tr ds [] r q).hd ds []:=hk.hd ds [] (fun n hn => by grind[cChg])
 have hsame2:G'.hd r q = G'.hd ds []:=by
  grind
 obtain ⟨hrep3,_⟩:=rep_tr hG' r q ds [] tr2 u' u' v0 hr2 hq2 hv0 hsame2 hs2 rfl hu' huc' (Ne.symm hdr) (by omega) (by omega) hc3 hc4
 refine ⟨v,rfl,hK _ _ ⟨S,hS,hdf,G'.tr r q ds [],?_⟩⟩
 have hw:(if ([]:List Nat) = [] then T.same r q else u'.set ([]:List Nat).reverse .any) = T.same r q:=if_pos rfl
 rw [hw] at hrep3
 exact hrep3
theorem ok_callB (f:FuncId) (xf:Operand) (xs:List Operand) (ats:Array TypeId) (us res:List T) (ho:o.op = .call { callee:=.value xf,args:=xs.toArray,argTypes:=ats }) (hdst:o.dst = some d) (hd:d < Γ.N)
  (hcall:∀ args w,(callFunc f args).run P w = .ok (.enter f args) w) (hf:opT E xf = some (.lit (.func (.func f) #[] #[])))
  (hc:FnC P f us res []) (hlen:xs.length = us.length) (hargs:∀ (i:Nat) u,us[i]? = some u → ∃ x,xs[i]? = some x ∧ opT E x = some u ∧ u.flat = true) (hres:Cleans res ∧ okTups res = true) :
  OpOk P Γ o E (E.app (cWr d res []) (cChg d [])):=by
 intro a w K Q ⟨hdf,G,hrep⟩ hK
 have hm:=hrep.mem
 refine wp_enter ho hdst hcall (opd_lit hrep hf).1 ?_
 have hnl:∀ b,¬ lent G [] b:=by rintro b ⟨s,z,_,h⟩;simp at h
 have hget:∀ (us:List T),Cleans us ∧ okTups us = true → ∀ u ∈ us,Clean u ∧ u.okTup = true:=by
  intro us
  induction us with
  | nil => simp
  | cons v us ih =>
   intro ⟨h1,h2⟩ u hu
   simp only [okTups,Bool.and_eq_true] at h2
   rcases List.mem_cons.1 hu with rfl | hu
   ·exact ⟨h1.1,h2.1⟩
   ·exact ih ⟨h1.2,h2.2⟩ u hu
 have:=rep_call hrep hd (Sc:=Γ.St) (rw:=[]) (fun b x hx => ⟨hm.st b x hx,hnl b⟩) (fun _ _ h => h) hc hlen (fun i u hu => by
   obtain ⟨x,h1,h2,h3⟩:=hargs i u hu
   refine ⟨x,h1,?_⟩
   have hfl:=lits_flat (E:=E) u h3
   cases x with
   | tmp s =>
    have hhd:∀ z,(G.arg a xs []).hd i z = G.hd s z:=by grind[Gh.arg]
    obtain ⟨e1,e2,_⟩:=hrep.ent s u h2
    refine ⟨?_,by grind[R_flat]⟩
    have:=mkV_clo (E:=E) hhd u (hfl.1 [] s)
    grind[eval_tmp]
   | const v =>
    simp only [opT] at h2
    split at h2
    ·rename_i hone
     simp at h2;subst h2
     have hhd:(G.arg a xs []).hd i [] = v:=by grind[Gh.arg,Act.eval,oneV_of]
     exact ⟨by grind[mkV,Act.eval],by simp [R,hhd]⟩
    ·cases h2
   | func f =>
    simp only [opT] at h2
    simp at h2;subst h2
    have hhd:(G.arg a xs []).hd i [] = .func (.func f) #[] #[]:=by grind[Gh.arg,Act.eval,oneV,Value.oneCell']
    exact ⟨by grind[mkV,Act.eval],by simp [R,hhd]⟩
   | global g => grind[opT]) (by simp) (by simp) (by simp)
  (fun u hu => ⟨by grind,by grind,fun S' G w s p hS h => by
   have:aft Γ.St Γ.St S' = S':=funext (by grind[aft])
   grind⟩) (by simp)
 refine this.mono ?_
 rintro e w' ⟨v,rfl,S,G',hS,_,hG'⟩
 exact ⟨v,rfl,hK _ _ ⟨S,hS,hdf,G',hG'⟩⟩
end
end Go.Ab

namespace Go.Ab
open Go
def envL:List (Nat × T) → Env
 | [],_ => none
 | (k,t) :: l,s => if k = s then some t else envL l s
def Env.Has (E:Env):List (Nat × T) → Prop
 | [] => True
 | (s,t) :: l => E s = some t ∧ E.Has l
theorem Env.Has.le {E:Env}:{l:List (Nat × T)} → E.Has l → ∀ s t,envL l s = some t → E s = some t
 | [],_,s,t,h => by grind[envL]
 | (k,u) :: l,hh,s,t,h => by
  simp only [envL] at h
  split at h
  ·rename_i e
   subst e
   rw [hh.1];exact h
  ·exact hh.2.le s t h
theorem Sim.weaken {Γ:Ctx} {E E':Env} {a:Act} {w:World} (h:Sim Γ E a w) (hle:∀ s t,E' s = some t → E s = some t):Sim Γ E' a w:=by
 obtain ⟨h1,G,h2⟩:=h
 exact ⟨h1,G,⟨h2.size,fun s t hs => h2.ent s t (hle s t hs),h2.mem⟩⟩
theorem Sim2.weaken {Γ:Ctx} {E E':Env} {a:Act} {w:World} (h:Sim2 Γ E a w) (hle:∀ s t,E' s = some t → E s = some t):Sim2 Γ E' a w:=by
 obtain ⟨S,h1,h2⟩:=h
 exact ⟨S,h1,h2.weaken hle⟩
abbrev Pins:=List (Nat × Value)
def Pins.Hold (pn:Pins) (a:Act):Prop:=∀ x ∈ pn,a.tmps[x.1]? = some x.2
def Pins.ok (pn:Pins) (d:Option Nat):Bool:=match d with
 | none => true
 | some d => pn.all fun x => x.1 != d
theorem Oper.wp_frame {P:Program} {o:Oper} {a:Act} {w:World} {K:Act → World → Prop} {Q:Exit → Act → World → Prop} (h:o.wp P a w K Q) :
  o.wp P a w (fun a' w' => K a' w' ∧ ∀ s,o.dst ≠ some s → a'.tmps[s]? = a.tmps[s]?) Q:=by
 have key:∀ (v:Value) (ds:List Deferred),∀ s,o.dst ≠ some s → (({ a with defers:=ds }:Act).put o.dst v).tmps[s]? = a.tmps[s]?:=by
  intro v ds s hs
  cases hd:o.dst with
  | none => rfl
  | some d =>
   grind[Act.put]
 have key0:∀ (v:Value),∀ s,o.dst ≠ some s → (a.put o.dst v).tmps[s]? = a.tmps[s]?:=fun v => key v a.defers
 unfold Oper.wp at *
 generalize (execOp a.eval o).run P w = r at *
 cases r with
 | ok n w' =>
  cases n <;> simp only [Oper.upon] at h ⊢
  all_goals grind
 | halt x w' => cases x <;> simp only [Oper.upon] at h ⊢ <;> exact h
theorem Pins.Hold.frame {pn:Pins} {a a':Act} {d:Option Nat} (h:pn.Hold a) (hok:pn.ok d = true) (hf:∀ s,d ≠ some s → a'.tmps[s]? = a.tmps[s]?):pn.Hold a':=by
 intro x hx
 rw [hf x.1 ?_]
 ·exact h x hx
 ·rintro rfl
  have:=List.all_eq_true.1 hok x hx
  grind
section
variable (P:Program) (Γ:Ctx) (pn:Pins)
def CW (c:Code) (E:Env) (Q:Exit → Env → Prop):Prop :=
 ∀ (a:Act) (w:World) (Q':Exit → Act → World → Prop),Sim2 Γ E a w → pn.Hold a → (∀ e E' a' w',Q e E' → Sim2 Γ E' a' w' → pn.Hold a' → Q' e a' w') → c.wp P Q' a w
def IxOk (ops:Array Oper) (o:Oper) (E E':Env):Prop :=
 ∀ (a:Act) (w:World) (K:Act → World → Prop) (Q:Exit → Act → World → Prop),Sim2 Γ E a w → (∀ a' w',Sim2 Γ E' a' w' → (∀ s,o.dst ≠ some s → a'.tmps[s]? = a.tmps[s]?) → K a' w') →
  if Region.wanted o (yielded ops a.tmps) then o.wp P a w K Q ∨ (o.asks P a w ∧ LetsOut Q) else K (a.put o.dst undef) w
def wpL (ops:Array Oper) (Q:Exit → Act → World → Prop):List Oper → Act → World → Prop
 | [],a,w => Q .normal a w
 | o :: os,a,w => if Region.wanted o (yielded ops a.tmps) then o.wp P a w (wpL ops Q os) Q ∨ (o.asks P a w ∧ LetsOut Q) else wpL ops Q os (a.put o.dst undef) w
def RW (ops:Array Oper) (os:List Oper) (E:Env) (Q:Exit → Env → Prop):Prop :=
 ∀ (a:Act) (w:World) (Q':Exit → Act → World → Prop),Sim2 Γ E a w → pn.Hold a → (∀ e E' a' w',Q e E' → Sim2 Γ E' a' w' → pn.Hold a' → Q' e a' w') → wpL P ops Q' os a w
end
section
variable {P:Program} {Γ:Ctx} {pn:Pins} {E E':Env} {Q Q1:Exit → Env → Prop} {c c1 c2:Code} {ops:Array Oper} {o:Oper} {os:List Oper} {d:Nat}
theorem wpL_ops {Q':Exit → Act → World → Prop}:∀ (os:List Oper) (n:Nat) (a:Act) (w:World),ops.toList.drop n = os → wpL P ops Q' os a w → wpOps P ops Q' (List.range' n os.length) a w
 | [],n,a,w,_,h => by simpa [wpOps,wpL] using h
 | o :: os,n,a,w,hd,h => by
  have ho:ops[n]? = some o:=by
   have:=congrArg (·[0]?) hd
   grind
  have hd':ops.toList.drop (n + 1) = os:=by
   have:=congrArg List.tail hd
   grind[List.tail_drop]
  simp only [List.length_cons,List.range'_succ,wpOps,ho]
  simp only [wpL] at h
  split
  ·rename_i hw
   simp only [hw,if_true] at h
   exact h.imp (Oper.wp_mono fun a w => wpL_ops os (n + 1) a w hd') id
  ·rename_i hw
   simp only [hw] at h
   exact wpL_ops os (n + 1) _ w hd' h
theorem CW.region {id:Nat} (h:RW P Γ pn ops ops.toList E Q):CW P Γ pn (.region id ops false) E Q:=by
 intro a w Q' hs hp hQ
 refine wp_region ?_
 have:=wpL_ops (P:=P) ops.toList 0 a w (by simp) (h a w Q' hs hp hQ)
 grind[List.range_eq_range']
theorem RW.nil (h:Q .normal E):RW P Γ pn ops [] E Q:=fun a w Q' hs hp hQ => by
 simp only [wpL]
 grind
theorem RW.cons (h1:IxOk P Γ ops o E E') (h3:RW P Γ pn ops os E' Q) (h2:pn.ok o.dst = true:=by rfl):RW P Γ pn ops (o :: os) E Q:=by
 intro a w Q' hs hp hQ
 simp only [wpL]
 have:=h1 a w (wpL P ops Q' os) Q' hs fun a' w' hs' hf => h3 a' w' Q' hs' (hp.frame h2 hf) hQ
 exact this
theorem IxOk.op (h:∀ S,OpOk P (Γ.at S) o E E') (hg:o.guard = none:=by rfl):IxOk P Γ ops o E E':=by
 intro a w K Q hs hK
 have hw:Region.wanted o (yielded ops a.tmps) = true:=by simp [Region.wanted,hg]
 rw [if_pos hw]
 refine .inl ?_
 obtain ⟨S,hS,hs⟩:=hs
 have:=Oper.wp_frame (h S a w (fun a' w' => Sim2 Γ E' a' w') Q hs fun a' w' h => h.up hS)
 grind[Oper.wp_mono]
theorem yielded_of {a:Act} {w:World} (hs:Sim2 Γ E a w) {g s:Nat} {b:Bool} (hgo:(ops[g]?).bind (·.dst) = some s) (h:E s = some (.lit (.bool b))):yielded ops a.tmps g = some b:=by
 obtain ⟨_,_,_,G,hr⟩:=hs
 obtain ⟨h1,h2,_⟩:=hr.ent s _ h
 simp only [R] at h2
 grind[yielded,mkV]
theorem IxOk.guard (g:Nat) (b:Bool) (s:Nat) (h:∀ S,OpOk P (Γ.at S) o E E') (hg:o.guard = some (g,b):=by rfl) (hgo:(ops[g]?).bind (·.dst) = some s:=by rfl) (hb:E s = some (.lit (.bool b)):=by rfl):IxOk P Γ ops o E E':=by
 intro a w K Q hs hK
 have hw:Region.wanted o (yielded ops a.tmps) = true:=by grind[Region.wanted,yielded_of]
 rw [if_pos hw]
 refine .inl ?_
 obtain ⟨S,hS,hs⟩:=hs
 have:=Oper.wp_frame (h S a w (fun a' w' => Sim2 Γ E' a' w') Q hs fun a' w' h => h.up hS)
 grind[Oper.wp_mono]
def Ghost (Γ:Ctx) (E E':Env):Prop:=∀ (a:Act) (w:World),Sim2 Γ E a w → Sim2 Γ E' a w
theorem Ghost.refl:Ghost Γ E E:=fun _ _ h => h
theorem Ghost.trans {E1 E2 E3:Env} (h:Ghost Γ E1 E2) (h':Ghost Γ E2 E3):Ghost Γ E1 E3:=fun a w hs => h' a w (h a w hs)
theorem Ghost.has {l:List (Nat × T)} (h:E.Has l):Ghost Γ E (envL l):=fun _ _ hs => hs.weaken h.le
theorem CW.ghost (h1:Ghost Γ E E') (h:CW P Γ pn c E' Q):CW P Γ pn c E Q:=fun a w Q' hs => h a w Q' (h1 a w hs)
theorem RW.ghost (h1:Ghost Γ E E') (h:RW P Γ pn ops os E' Q):RW P Γ pn ops os E Q:=fun a w Q' hs => h a w Q' (h1 a w hs)
theorem CW.to (l:List (Nat × T)) (h1:E.Has l) (h:CW P Γ pn c (envL l) Q):CW P Γ pn c E Q:=h.ghost (.has h1)
theorem CW.mono (h:CW P Γ pn c E Q1) (hq:∀ e E',Q1 e E' → Q e E'):CW P Γ pn c E Q:=fun a w Q' hs hp hQ => h a w Q' hs hp (by grind)
theorem CW.skip (h:Q .normal E):CW P Γ pn .skip E Q:=fun _ _ _ hs hp hQ => by grind[wp_skip]
theorem CW.ret (h:Q .ret E):CW P Γ pn .ret E Q:=fun _ _ _ hs hp hQ => by grind[wp_ret]
theorem CW.exit {id:Nat} (h:Q (.exit id) E):CW P Γ pn (.exit id) E Q:=fun _ _ _ hs hp hQ => by grind[wp_exit]
def Andthen (P:Program) (Γ:Ctx) (pn:Pins) (c:Code) (Q:Exit → Env → Prop):Exit → Env → Prop
 | .normal,E => CW P Γ pn c E Q
 | e,E => Q e E
theorem CW.seq (h:CW P Γ pn c1 E (Andthen P Γ pn c2 Q)):CW P Γ pn (.seq c1 c2) E Q:=by
 intro a w Q' hs hp hQ
 refine wp_seq (h a w _ hs hp fun e E' a' w' h1 hs' hp' => ?_)
 cases e with
 | normal => exact h1 a' w' Q' hs' hp' hQ
 | _ => exact hQ _ _ _ _ h1 hs' hp'
theorem CW.cond {x:Operand} (b:Bool) (hb:opT E x = some (.lit (.bool b))) (ht:b = true → CW P Γ pn c1 E Q) (hf:b = false → CW P Γ pn c2 E Q):CW P Γ pn (.cond x c1 c2) E Q:=by
 intro a w Q' hs hp hQ
 obtain ⟨_,_,_,G,hr⟩:=id hs
 refine wp_cond_split (opd_lit hr hb).1 (fun h => ht h a w Q' hs hp hQ) (fun h => hf h a w Q' hs hp hQ)
def InBlock (id:Nat) (Q:Exit → Env → Prop):Exit → Env → Prop
 | .exit id',E => if id' = id then Q .normal E else Q (.exit id') E
 | e,E => Q e E
theorem CW.block {id:Nat} (h:CW P Γ pn c E (InBlock id Q)):CW P Γ pn (.block id c) E Q:=by
 intro a w Q' hs hp hQ
 refine wp_block (h a w _ hs hp fun e E' a' w' h1 hs' hp' => ?_)
 cases e with
 | exit id' =>
  simp only [InBlock] at h1
  simp only [Exit.inBlock]
  grind
 | _ => exact hQ _ _ _ _ h1 hs' hp'
end
def loopN {σ ρ:Type} (body:σ → Option (σ ⊕ ρ)):Nat → σ → Option ρ
 | 0,_ => none
 | n + 1,s => match body s with
  | none => none
  | some (.inl s') => loopN body n s'
  | some (.inr r) => some r
theorem loopN_mono {σ ρ:Type} {body:σ → Option (σ ⊕ ρ)} {r:ρ}:∀ {n m:Nat} {s:σ},loopN body n s = some r → n ≤ m → loopN body m s = some r
 | 0,_,_,h,_ => by grind[loopN]
 | n + 1,0,_,_,hm => by omega
 | n + 1,m + 1,s,h,hm => by
  simp only [loopN] at h ⊢
  cases hb:body s with
  | none => grind
  | some x =>
   cases x with
   | inl s' => simp only [hb] at h ⊢;exact loopN_mono h (by omega)
   | inr r' => grind
open Classical in
noncomputable def loopO {σ ρ:Type} (body:σ → Option (σ ⊕ ρ)) (s:σ):Option ρ :=
 if h:∃ (n:Nat) (r:ρ),loopN body n s = some r then some h.choose_spec.choose else none
theorem loopO_some {σ ρ:Type} {body:σ → Option (σ ⊕ ρ)} {s:σ} {r:ρ}:loopO body s = some r ↔ ∃ n,loopN body n s = some r:=by
 unfold loopO
 constructor
 ·intro h
  split at h
  all_goals grind
 ·rintro ⟨n,hn⟩
  have he:∃ (n:Nat) (r:ρ),loopN body n s = some r:=⟨n,r,hn⟩
  rw [dif_pos he]
  grind[loopN_mono]
theorem loopO_eq {σ ρ:Type} (body:σ → Option (σ ⊕ ρ)) (s:σ):loopO body s = match body s with
  | none => none
  | some (.inl s') => loopO body s'
  | some (.inr r) => some r:=by
 apply Option.ext
 intro r
 rw [loopO_some]
 cases hb:body s with
 | none =>
  simp only [reduceCtorEq,iff_false]
  rintro ⟨n,hn⟩
  cases n <;> simp [loopN,hb] at hn
 | some x =>
  cases x with
  | inl s' =>
   simp only []
   rw [loopO_some]
   constructor
   ·rintro ⟨n,hn⟩
    cases n with
    | zero => grind[loopN]
    | succ n => grind[loopN]
   ·rintro ⟨n,hn⟩
    exact ⟨n + 1,by grind[loopN]⟩
  | inr r' =>
   simp only [Option.some.injEq]
   constructor
   ·rintro ⟨n,hn⟩
    cases n with
    | zero => grind[loopN]
    | succ n => grind[loopN]
   ·rintro rfl
    exact ⟨1,by simp [loopN,hb]⟩
section
variable {P:Program} {Γ:Ctx} {pn:Pins} {E:Env} {Q:Exit → Env → Prop} {c:Code}
def Round {σ ρ:Type} (Γ:Ctx) (en:σ → Env) (Q:ρ → Exit → Env → Prop) (x:σ ⊕ ρ):Exit → Env → Prop:=fun e E' =>
 match x with
 | .inl s' => e = .normal ∧ Ghost Γ E' (en s')
 | .inr r => e ≠ .normal ∧ Q r e E'
theorem least {p:Nat → Prop} (h:∃ m,p m):∃ m,p m ∧ ∀ k,k < m → ¬ p k:=by
 refine Classical.byContradiction fun hn => ?_
 have key:∀ n,∀ k,k < n → ¬ p k:=by
  intro n
  induction n with
  | zero => simp
  | succ n ih =>
   grind
 grind
theorem CW.loop {σ ρ:Type} (body:σ → Option (σ ⊕ ρ)) (en:σ → Env) (Q:ρ → Exit → Env → Prop) (h:∀ s x,body s = some x → CW P Γ pn c (en s) (Round Γ en Q x)) {s:σ} {r:ρ} (hr:loopO body s = some r) :
  CW P Γ pn (.loop c) (en s) (Q r):=by
 classical
 intro a w Q' hs hp hQ
 let p:Act → World → Nat → Prop:=fun a w m => ∃ s,loopN body m s = some r ∧ Sim2 Γ (en s) a w ∧ pn.Hold a
 let μ:Act → World → Nat:=fun a w => if h:∃ m,p a w m then (least h).choose else 0
 obtain ⟨n,hn⟩:=loopO_some.1 hr
 refine wp_loop (fun a w => ∃ m,p a w m) μ (by grind) ?_
 intro a w hex
 have hμ:μ a w = (least hex).choose:=dif_pos hex
 obtain ⟨s,h1,h2,h3⟩:=(least hex).choose_spec.1
 have hmin:=(least hex).choose_spec.2
 rw [← hμ] at h1
 cases hm:μ a w with
 | zero => grind[loopN]
 | succ k =>
  rw [hm] at h1
  simp only [loopN] at h1
  cases hb:body s with
  | none => grind
  | some x =>
   refine h s x hb a w _ h2 h3 fun e E' a' w' hq hs' hp' => ?_
   cases x with
   | inl s' =>
    simp only [hb] at h1
    obtain ⟨rfl,hg⟩:=hq
    have hp2:p a' w' k:=⟨s',h1,hg a' w' hs',hp'⟩
    refine ⟨⟨k,hp2⟩,?_⟩
    have hex':∃ m,p a' w' m:=⟨k,hp2⟩
    grind
   | inr r' =>
    simp only [hb] at h1
    have:r' = r:=by grind
    subst this
    obtain ⟨hne,hq⟩:=hq
    have:=hQ e E' a' w' hq hs' hp'
    cases e with
    | normal => grind
    | _ => exact this
end
end Go.Ab

namespace Go.Ab
open Go
abbrev Nds:=List (Nat × List Nat × T)
def ROk (P:Program) (E:Env):ResultVar → (Nat × List Nat × T) → Prop
 | .tmp s,x => x.1 = s ∧ x.2.1 = [] ∧ E s = some x.2.2 ∧ x.2.2.okTup = true
 | .cell a T,x => x.1 = a ∧ x.2.1 = [0] ∧ E a = some (.ptr x.2.2) ∧ ∃ ds ti,P.underlying T = some ds ∧ P.info? T = some ti ∧ aggB ds = !x.2.2.single ∧ ti.size = x.2.2.size
def RsOk (P:Program) (E:Env):List ResultVar → Nds → Prop
 | [],[] => True
 | x :: xs,y :: ys => ROk P E x y ∧ RsOk P E xs ys
 | _,_ => False
def LOk (E:Env) (us:List T):List (Nat × T) → Prop
 | [] => True
 | (i,u') :: l => (E i = some u' ∧ ∃ u,us[i]? = some u) ∧ LOk E us l
def RetQ (P:Program) (rs:Array ResultVar) (us res:List T) (rws:List (Nat × T)):Exit → Env → Prop:=fun e E =>
 (e = .ret ∨ e = .normal) ∧ ∃ nd:Nds,RsOk P E rs.toList nd ∧ nd.map (·.2.2) = res ∧ (∀ x ∈ nd,us.length ≤ x.1) ∧ (nd.map (·.1)).Nodup ∧ LOk E us rws
def pinsOf (v:Nat → Value) (is:List Nat):Pins:=is.map fun i => (i,v i)
def argE:Nat → List T → List (Nat × T)
 | _,[] => []
 | i,u :: us => (i,u) :: argE (i + 1) us
theorem argE_get:∀ (us:List T) (i s:Nat) (t:T),envL (argE i us) s = some t → i ≤ s ∧ us[s - i]? = some t
 | [],i,s,t,h => by grind[argE,envL]
 | u :: us,i,s,t,h => by
  simp only [argE,envL] at h
  split at h
  ·grind
  ·rename_i e
   obtain ⟨h1,h2⟩:=argE_get us (i + 1) s t h
   grind
def resV (tmps:Array Value):ResultVar → Sem Value
 | .tmp t => pure (tmps.getD t undef)
 | .cell a t => do loadVar t (← asAddr (tmps.getD a undef))
theorem results_eq (fn:Func) (tmps:Array Value):results fn tmps = (do
  let vs ← fn.results.mapM (resV tmps)
  pure (if h:vs.size = 1 then vs[0] else .tuple vs)):=rfl
theorem Tops.get:(xs:List T) → Tops xs → ∀ (i:Nat) (x:T),xs[i]? = some x → Top x
 | [],_,i,x,h => by simp at h
 | y :: ys,ht,i,x,h => by
  simp only [Tops] at ht
  cases i with
  | zero => simp at h;subst h;exact ht.1
  | succ i => exact Tops.get ys ht.2 i x (by simpa using h)
theorem LOk.get {E:Env} {us:List T}:(l:List (Nat × T)) → LOk E us l → ∀ i u',(i,u') ∈ l → E i = some u' ∧ ∃ u,us[i]? = some u
 | [],_,_,_,h => by simp at h
 | x :: l,h,i,u',hm => by
  rcases List.mem_cons.1 hm with rfl | hm
  ·exact h.1
  ·exact LOk.get l h.2 i u' hm
theorem R_nd {P:Program} {Γ:Ctx} {E:Env} {G:Gh} {tmps:Array Value} {w:World} (hrep:Rep Γ E G tmps w) (x:ResultVar) (s:Nat) (q:List Nat) (t:T) (h:ROk P E x (s,q,t)) :
  (resV tmps x).run P w = .ok (mkV1 G s t q) w ∧ R Γ.St G w s t q:=by
 cases x with
 | tmp s' =>
  obtain ⟨h0,h0',h1,h2⟩:=h
  dsimp only at h0 h0' h1 h2
  subst h0 h0'
  obtain ⟨g1,g2,_⟩:=hrep.ent _ _ h1
  have hnt:∀ xs,t ≠ .tup xs:=by rintro xs rfl;grind[T.okTup]
  refine ⟨?_,g2⟩
  rw [← mkV_mkV1 G s t [] hnt]
  simp [resV,Array.getD_eq_getD_getElem?,g1]
 | cell a T' =>
  obtain ⟨h0,h0',h1,ds,ti,h2,h3,h4,h5⟩:=h
  dsimp only at h0 h0' h1 h4 h5
  subst h0 h0'
  obtain ⟨g1,g2,_⟩:=hrep.ent _ _ h1
  simp only [R] at g2
  obtain ⟨b,cs,e,k1,k2,k3,k4,k5,k6⟩:=g2
  refine ⟨?_,k6⟩
  rw [mkV_single rfl,k1] at g1
  have h6:=run_load_at (w:=w) h2 h3 k5 h4 h5
  simp [resV,Array.getD_eq_getD_getElem?,g1,asAddr,h6]
theorem run_results {P:Program} {Γ:Ctx} {E:Env} {G:Gh} {tmps:Array Value} {w:World} (hrep:Rep Γ E G tmps w):(rs:List ResultVar) → (nd:Nds) → RsOk P E rs nd →
  (rs.mapM (resV tmps)).run P w = .ok (nd.map fun x => mkV1 G x.1 x.2.2 x.2.1) w ∧ ∀ x ∈ nd,R Γ.St G w x.1 x.2.2 x.2.1
 | [],[],_ => by simp
 | x :: xs,y :: ys,h => by
  obtain ⟨h1,h2⟩:=run_results hrep xs ys h.2
  obtain ⟨h3,h4⟩:=R_nd hrep x y.1 y.2.1 y.2.2 h.1
  simp_all
 | [],_ :: _,h => by simp [RsOk] at h
 | _ :: _,[],h => by simp [RsOk] at h
theorem FnC.of_body {P:Program} {f:FuncId} {fn:Func} {c:Code} {us res:List T} {rws:List (Nat × T)} (hf:P.funcs[f]? = some fn) (hb:fn.body = some c) (hn:us.length ≤ fn.ntmps) (ht:Tops us) (hr:rws.all (fun x => decide (x.1 < us.length)) = true)
  (h:∀ (Γ:Ctx) (v:Nat → Value),Γ.N = fn.ntmps → CW P Γ (pinsOf v (rws.map (·.1))) c (envL (argE 0 us)) (RetQ P fn.results us res rws)):FnC P f us res rws:=by
 intro St W w G vs hvs hargs hmem
 let Γ:Ctx:=⟨St,W,w,fn.ntmps⟩
 let v:Nat → Value:=fun i => vs.getD i undef
 have hm:Mem Γ G w:=⟨hmem.one,hmem.lb,hmem.ow,hmem.st,hmem.fr,hmem.sz,hmem.bk,hmem.gl⟩
 have hsz:(vs ++ Array.replicate (fn.ntmps - vs.size) undef).size = fn.ntmps:=by simp;omega
 have hsim:Sim Γ (envL (argE 0 us)) { tmps:=vs ++ Array.replicate (fn.ntmps - vs.size) undef,defers:=[] } w:=by
  refine ⟨rfl,G,hsz,?_,hm⟩
  intro s t hs
  obtain ⟨_,h2⟩:=argE_get us 0 s t hs
  simp only [Nat.sub_zero] at h2
  obtain ⟨h3,h4⟩:=hargs s t h2
  have hlt:s < vs.size:=by grind
  exact ⟨by grind,h4,Tops.get us ht s t h2⟩
 have hpin:(pinsOf v (rws.map (·.1))).Hold { tmps:=vs ++ Array.replicate (fn.ntmps - vs.size) undef,defers:=[] }:=by
  intro x hx
  simp only [pinsOf,List.mem_map] at hx
  obtain ⟨i,⟨y,hy,rfl⟩,rfl⟩:=hx
  have h1:=List.all_eq_true.1 hr y hy
  simp at h1
  have h2:y.1 < vs.size:=by omega
  simp [Array.getElem?_append,h2,v]
 refine calls_of_wp hf hb (h Γ v rfl _ _ _ (.of hsim) hpin ?_)
 rintro e E' a' w' ⟨he,nd,h1,h2,h3,h4,h5⟩ ⟨S',hgrow,hdf,G',hrep⟩ hp
 obtain ⟨g1,g2⟩:=run_results hrep _ _ h1
 have hres:(results fn a'.tmps).run P w' = .ok (retV G' nd) w':=by
  rw [results_eq,Array.mapM_eq_mapM_toList]
  simp only [Sem.run_bind,Sem.run_map,g1]
  cases nd with
  | nil => simp [retV]
  | cons y ys =>
   cases ys with
   | nil => simp [retV]
   | cons z zs => simp [retV]
 have hm':Mem ⟨S',W,w,0⟩ G' w':=⟨hrep.mem.one,hrep.mem.lb,hrep.mem.ow,hrep.mem.st,hrep.mem.fr,hrep.mem.sz,hrep.mem.bk,hrep.mem.gl⟩
 have hfin:bodyPost P fn (fun e w' => ∃ (S':Stb) (G':Gh) (nd:List (Nat × List Nat × T)),Grow St S' W w.heap.size ∧ e = .returned (retV G' nd) ∧ Mem ⟨S',W,w,0⟩ G' w' ∧ nd.map (·.2.2) = res ∧
   (∀ x ∈ nd,R S' G' w' x.1 x.2.2 x.2.1 ∧ us.length ≤ x.1) ∧ (nd.map (·.1)).Nodup ∧
   ∀ i u',(i,u') ∈ rws → R S' G' w' i u' [] ∧ ∃ u,us[i]? = some u ∧ mkV G' i u' [] = mkV G i u []) .ret a' w':=by
  refine ⟨hdf,_,hres,S',G',nd,hgrow,rfl,hm',h2,by grind,h4,?_⟩
  intro i u' hiu
  obtain ⟨k1,u,k3⟩:=LOk.get _ h5 i u' hiu
  obtain ⟨k5,k6,_⟩:=hrep.ent i u' k1
  refine ⟨k6,u,k3,?_⟩
  have k7:=hp (i,v i) (by simp only [pinsOf,List.mem_map];grind)
  have k8:=(hargs i u k3).1
  rw [k5] at k7
  simp [v,Array.getD_eq_getD_getElem?,k8] at k7
  exact k7
 rcases he with rfl | rfl <;> exact hfin
end Go.Ab

namespace Go.Ab
open Go
mutual
def frzT:T → T
 | .sl k xs => .ro (strip (.sl k xs))
 | .ptr t => .ro (strip (.ptr t))
 | .agg xs => .agg (frzTs xs)
 | .tup xs => .tup (frzTs xs)
 | .any => .any
 | .lit v => .lit v
 | .ro t => .ro t
 | .same r p => .same r p
 | .addr r p => .addr r p
 | .sub r p k lo hi => .sub r p k lo hi
 | .mp ks xs => .ro (.mp ks xs)
def frzTs:List T → List T
 | [] => []
 | x :: xs => frzT x :: frzTs xs
end
mutual
theorem vals_frz (G:Gh) (s:Nat):(t:T) → ∀ p,vals G s (frzT t) p = vals G s t p
 | .agg xs,p => by simp only [frzT,vals];exact valsF_frz G s xs p 0
 | .sl _ _,_ | .ptr _,_ | .mp _ _,_ | .tup _,_ | .any,_ | .lit _,_ | .ro _,_ | .same _ _,_ | .addr _ _,_ | .sub _ _ _ _ _,_ => by rfl
theorem valsF_frz (G:Gh) (s:Nat):(xs:List T) → ∀ p j,valsF G s (frzTs xs) p j = valsF G s xs p j
 | [],_,_ => by rfl
 | x :: xs,p,j => by simp only [frzTs,valsF,vals_frz G s x,valsF_frz G s xs]
end
theorem mkV1_frz (G:Gh) (s:Nat) (t:T) (p:List Nat):mkV1 G s (frzT t) p = mkV1 G s t p:=by
 cases t <;> simp only [frzT,mkV1,valsF_frz]
theorem tupF_frz (G:Gh) (s:Nat):(xs:List T) → ∀ p j,tupF G s (frzTs xs) p j = tupF G s xs p j
 | [],_,_ => by rfl
 | x :: xs,p,j => by simp only [frzTs,tupF,mkV1_frz,tupF_frz G s xs]
theorem mkV_frz (G:Gh) (s:Nat) (t:T) (p:List Nat):mkV G s (frzT t) p = mkV G s t p:=by
 cases t <;> simp only [frzT,mkV,valsF_frz,tupF_frz]
mutual
theorem frzT_top:(t:T) → Top t → Top (frzT t)
 | .agg xs,h | .tup xs,h => by simp only [frzT,Top] at h ⊢;exact frzTs_top xs h
 | .sl _ _,_ | .ptr _,_ | .mp _ _,_ | .any,_ | .lit _,_ | .ro _,_ | .same _ _,_ | .addr _ _,_ | .sub _ _ _ _ _,_ => by simp only [frzT,Top]
theorem frzTs_top:(xs:List T) → Tops xs → Tops (frzTs xs)
 | [],_ => by grind[frzTs]
 | x :: xs,h => by simp only [frzTs,Tops] at h ⊢;exact ⟨frzT_top x h.1,frzTs_top xs h.2⟩
end
section
variable {St Sc:Stb} {G G':Gh} {w:World} {s:Nat} (hone:∀ s p,(G.hd s p).oneCell' = true) (hSt:∀ b x,St b = some x → Sc b = some x) (hSc:∀ b,(∃ y,G.ow b = some (s,y)) → Sc b = w.heap[b]?) (hhd:∀ s z,G'.hd s z = G.hd s z) (had:∀ s z,G'.ad s z = G.ad s z)
 include hone hSt hSc hhd had
mutual
theorem R_frz:(t:T) → ∀ (p:List Nat),R St G w s t p → R Sc G' w s (frzT t) p
 | .agg xs,p,hr | .tup xs,p,hr => by simp only [frzT,R] at hr ⊢;exact RF_frz xs p 0 hr
 | .sl k xs,p,hr => by
  have:=frz1 hone hSt hSc (.sl k xs) p rfl hr
  simp only [frzT,R,hhd];exact this
 | .ptr t,p,hr => by
  have:=frz1 hone hSt hSc (.ptr t) p rfl hr
  simp only [frzT,R,hhd];exact this
 | .ro u,p,hr => by simp only [frzT,R,hhd] at hr ⊢;grind[RoC_mono]
 | .mp ks xs,p,hr => by
  have:=frz1 hone hSt hSc (.mp ks xs) p rfl hr
  simp only [strip] at this
  simp only [frzT,R,hhd];exact this
 | .any,_,_ => by simp only [frzT,R]
 | .lit _,_,hr | .same _ _,_,hr | .sub _ _ _ _ _,_,hr => by simp only [frzT,R,hhd] at hr ⊢;exact hr
 | .addr _ _,_,hr => by simp only [frzT,R,hhd,had] at hr ⊢;exact hr
theorem RF_frz:(xs:List T) → ∀ (p:List Nat) (j:Nat),RF St G w s xs p j → RF Sc G' w s (frzTs xs) p j
 | [],_,_,_ => by have _:=hone;have _:=hSt;have _:=hSc;have _:=hhd;have _:=had;simp only [frzTs,RF]
 | x :: xs,p,j,hr => by simp only [frzTs,RF] at hr ⊢;exact ⟨R_frz x _ hr.1,RF_frz xs p (j + 1) hr.2⟩
end
end
theorem Ghost.freeze {Γ:Ctx} {E:Env} (s:Nat) (t:T) (hs:E s = some t):Ghost Γ E (E.app [(s,some (frzT t))] [(s,1)]):=by
 classical
 rintro a w ⟨S,hS,hdf,G,hrep⟩
 have hm:=hrep.mem
 let own:Nat → Prop:=fun b => ∃ y,G.ow b = some (s,y)
 let Sc:Stb:=fun b => if own b then w.heap[b]? else S b
 let G':Gh:={ hd:=G.hd,ad:=G.ad,lb:=fun b o => if own b then none else G.lb b o,ow:=fun b => if own b then none else G.ow b }
 have hup:∀ b x,S b = some x → Sc b = some x:=fun b x hx => by
  have:¬ own b:=by
   rintro ⟨y,hy⟩
   have:=(hm.ow b _ hy).2.2
   grind
  grind
 have hgr:Grow S Sc Γ.W Γ.w0.heap.size:=⟨hup,fun b hb hb' => by
  by_cases h:own b
  ·obtain ⟨y,hy⟩:=h
   exact (hm.ow b _ hy).2.1
  grind⟩
 have hmem:Mem ((Γ.at S).at Sc) G' w:=by
  refine ⟨hm.one,fun b o l hl => ?_,fun b l hl => ?_,fun b x hx => ?_,hm.fr,hm.sz,hm.bk,hm.gl.up hup⟩
  ·by_cases h:own b
   ·grind
   ·simp only [G',h,if_false] at hl
    have:=hm.lb b o l hl
    exact ⟨this.1,this.2.1,by simp only [Sc,h,if_false];exact this.2.2⟩
  ·by_cases h:own b
   ·grind
   ·simp only [G',h,if_false] at hl
    have:=hm.ow b l hl
    exact ⟨this.1,this.2.1,by simp only [Sc,h,if_false];exact this.2.2⟩
  ·by_cases h:own b
   ·grind
   ·simp only [Sc,h,if_false] at hx;exact hm.st b x hx
 have hkeep:Keep [(s,1)] G w G' w:=by
  have hno:∀ b s0 y,G.ow b = some (s0,y) → (∀ n,(s0,n) ∉ ([(s,1)]:Chg)) → ¬ own b:=by
   grind
  refine ⟨fun _ _ _ => rfl,fun _ _ _ => rfl,by grind,by grind,fun b cs e h => ⟨cs,h,rfl⟩,by intros;assumption⟩
  all_goals grind
 obtain ⟨e1,e2,e3⟩:=hrep.ent s t hs
 refine ⟨Sc,hS.trans hgr,hdf,G',hrep.up hup rfl hkeep hmem (fun s0 h0 => ⟨fun n hn => ?_,rfl⟩) (fun s0 t0 h0 => ?_)⟩
 ·grind[find_one]
 ·rw [find_one] at h0
  split at h0
  ·rename_i he;subst he
   simp at h0;subst h0
   have hR:=R_frz (G':=G') hm.one hup (fun b hb => by grind) (fun _ _ => rfl) (fun _ _ => rfl) t [] e2
   refine ⟨?_,hR,frzT_top t e3⟩
   rw [e1]
   have h1:mkV G' s (frzT t) [] = mkV G s (frzT t) []:=mkV_hd _ _ _ (fun _ => rfl)
   rw [h1,mkV_frz]
  ·cases h0
end Go.Ab

namespace Go.Ab
open Go
abbrev Apps:=List (Wr × Chg)
def Env.apps (E:Env) (l:Apps):Env:=l.foldl (fun E x => E.app x.1 x.2) E
structure Stp where
 rd:List (Nat × T)
 l:Apps
def wrSlots (wr:Wr):List Nat:=wr.map (·.1)
def Stp.slots (X:Stp):List Nat:=X.l.flatMap fun x => wrSlots x.1
def oOk (chg:Chg):Option T → Bool
 | none => true
 | some t => t.okB chg
def wrOk (chg:Chg) (wr:Wr):Bool:=wr.all fun x => oOk chg x.2
def disj (a b:List Nat):Bool:=a.all fun x => !b.contains x
def appsOk (a b:Apps):Bool:=a.all fun x => b.all fun y => disj (wrSlots x.1) (wrSlots y.1) && wrOk y.2 x.1 && wrOk x.2 y.1
def Stp.apart (a b:Stp):Bool:=appsOk a.l b.l && disj a.slots (b.rd.map (·.1)) && disj b.slots (a.rd.map (·.1)) && a.rd.all fun x => b.l.all fun y => x.2.okB y.2
theorem find_none {wr:Wr} {s:Nat} (h:s ∉ wrSlots wr):wr.find s = none:=by
 induction wr with
 | nil => rfl
 | cons x wr ih =>
  simp only [wrSlots,List.map_cons,List.mem_cons,not_or] at h
  simp only [Wr.find,Ne.symm h.1,if_false]
  exact ih h.2
theorem find_some {wr:Wr} {s:Nat} {x:Option T} (h:wr.find s = some x):s ∈ wrSlots wr ∧ ∃ y ∈ wr,y.2 = x:=by
 induction wr with
 | nil => grind[Wr.find]
 | cons y wr ih =>
  grind[Wr.find,wrSlots]
theorem disj_not {a b:List Nat} (h:disj a b = true) {s:Nat} (hs:s ∈ a):s ∉ b:=by
 have:=List.all_eq_true.1 h s hs
 grind
theorem app_comm (E:Env) (w1 w2:Wr) (c1 c2:Chg) (h:disj (wrSlots w1) (wrSlots w2) = true) (h1:wrOk c2 w1 = true) (h2:wrOk c1 w2 = true) :
  (E.app w1 c1).app w2 c2 = (E.app w2 c2).app w1 c1:=by
 funext s
 have ok:∀ {c:Chg} {w:Wr} {s:Nat} {x:Option T},wrOk c w = true → w.find s = some x → (match x with | some t => if t.okB c then some t else none | none => none) = x:=by
  intro c w s x hw hf
  obtain ⟨_,y,hy,rfl⟩:=find_some hf
  have:=List.all_eq_true.1 hw y hy
  grind[oOk]
 unfold Env.app
 cases hf1:w1.find s with
 | some x =>
  grind[find_none,disj_not,find_some]
 | none =>
  grind
theorem apps_app_comm (w:Wr) (c:Chg):∀ (l:Apps) (E:Env),(∀ y ∈ l,disj (wrSlots w) (wrSlots y.1) = true ∧ wrOk y.2 w = true ∧ wrOk c y.1 = true) → (E.app w c).apps l = (E.apps l).app w c
 | [],E,_ => rfl
 | y :: l,E,h => by
  obtain ⟨h1,h2,h3⟩:=h y (by simp)
  show ((E.app w c).app y.1 y.2).apps l = _
  rw [app_comm E w y.1 c y.2 h1 h2 h3]
  exact apps_app_comm w c l _ (by grind)
theorem apps_comm:∀ (l1 l2:Apps) (E:Env),appsOk l1 l2 = true → (E.apps l1).apps l2 = (E.apps l2).apps l1
 | [],l2,E,_ => rfl
 | x :: l1,l2,E,h => by
  simp only [appsOk,List.all_cons,Bool.and_eq_true] at h
  show ((E.app x.1 x.2).apps l1).apps l2 = ((E.apps l2).app x.1 x.2).apps l1
  rw [apps_comm l1 l2 _ (by grind[appsOk]),apps_app_comm x.1 x.2 l2 E (by grind)]
def runD:Env → List (Bool × Stp) → Env
 | E,[] => E
 | E,(b,X) :: l => runD (if b then E.apps X.l else E) l
theorem runD_append:∀ (l1 l2:List (Bool × Stp)) (E:Env),runD E (l1 ++ l2) = runD (runD E l1) l2
 | [],_,_ => rfl
 | (b,X) :: l1,l2,E => by simp only [List.cons_append,runD];exact runD_append l1 l2 _
theorem runD_late:∀ (l:List (Bool × Stp)) (X:Stp) (E:Env),(∀ y ∈ l,y.1 = true → appsOk X.l y.2.l = true) → runD (E.apps X.l) l = (runD E l).apps X.l
 | [],_,_,_ => rfl
 | (b,Y) :: l,X,E,h => by
  simp only [runD]
  cases b with
  | false => exact runD_late l X E (by grind)
  | true =>
   have:=h (true,Y) (by simp) rfl
   simp only [if_true]
   rw [apps_comm X.l Y.l E this]
   exact runD_late l X _ (by grind)
theorem apps_other {s:Nat}:∀ (l:Apps) (E:Env),s ∉ l.flatMap (fun x => wrSlots x.1) → ∀ t,(E.apps l) s = some t → E s = some t
 | [],_,_,_,h => h
 | x :: l,E,hs,t,h => by
  simp only [List.flatMap_cons,List.mem_append,not_or] at hs
  have:=apps_other l (E.app x.1 x.2) hs.2 t h
  grind[Env.app,find_none]
theorem apps_keep {s:Nat} {t:T}:∀ (l:Apps) (E:Env),s ∉ l.flatMap (fun x => wrSlots x.1) → (∀ y ∈ l,t.okB y.2 = true) → E s = some t → (E.apps l) s = some t
 | [],_,_,_,h => h
 | x :: l,E,hs,hok,h => by
  simp only [List.flatMap_cons,List.mem_append,not_or] at hs
  refine apps_keep l (E.app x.1 x.2) hs.2 (by grind) ?_
  grind[Env.app,find_none]
theorem apps_mono {s:Nat}:∀ (l:Apps) (E1 E2:Env),(∀ t,E2 s = some t → E1 s = some t) → ∀ t,(E2.apps l) s = some t → (E1.apps l) s = some t
 | [],_,_,h,t,ht => h t ht
 | x :: l,E1,E2,h,t,ht => by
  refine apps_mono l (E1.app x.1 x.2) (E2.app x.1 x.2) (fun u hu => ?_) t ht
  grind[Env.app]
theorem runD_less {s:Nat}:∀ (l:List (Bool × Stp)) (E1 E2:Env),(∀ y ∈ l,y.1 = false → s ∉ y.2.slots) → (∀ t,E2 s = some t → E1 s = some t) →
  ∀ t,runD E2 (l.map fun y => (true,y.2)) s = some t → runD E1 l s = some t
 | [],_,_,_,h,t,ht => h t ht
 | (b,X) :: l,E1,E2,hl,h,t,ht => by
  simp only [List.map_cons,runD,if_true] at ht ⊢
  refine runD_less l _ _ (by grind) (fun u hu => ?_) t ht
  cases b with
  | true => grind[apps_mono]
  | false => exact h u (apps_other X.l E2 (hl (false,X) (by simp) rfl) u hu)
theorem runD_keep {s:Nat} {t:T}:∀ (l:List (Bool × Stp)) (E:Env),(∀ y ∈ l,y.1 = true → s ∉ y.2.slots ∧ ∀ z ∈ y.2.l,t.okB z.2 = true) → E s = some t → runD E l s = some t
 | [],_,_,h => h
 | (b,X) :: l,E,hl,h => by
  simp only [runD]
  refine runD_keep l _ (fun y hy => hl y (by simp [hy])) ?_
  cases b with
  | false => exact h
  | true => obtain ⟨h1,h2⟩:=hl (true,X) (by simp) rfl;exact apps_keep X.l E h1 h2 h
theorem Env.Has.of {E E':Env}:{l:List (Nat × T)} → E.Has l → (∀ s t,(s,t) ∈ l → E s = some t → E' s = some t) → E'.Has l
 | [],_,_ => trivial
 | (s,t) :: l,h,h' => ⟨h' s t (by simp) h.1,Env.Has.of h.2 fun s t hm => h' s t (by simp [hm])⟩
end Go.Ab

namespace Go.Ab
open Go
def preds (o:Oper):List Nat:=(o.after.toList.filter (Region.binds .any)).map (·.on)
def fwdFrom:Nat → List Oper → Bool
 | _,[] => true
 | i,o :: os => ((preds o).all fun m => decide (m < i)) && fwdFrom (i + 1) os
def ancFrom (an:List (List Nat)):List (List Nat) → List Oper → Bool
 | [],_ => true
 | _ :: _,[] => false
 | l :: ls,o :: os => (l.all fun k => (preds o).contains k || (preds o).any fun m => (an.getD m []).contains k) && ancFrom an ls os
def pairsFrom (Xs:List Stp):Nat → List (List Nat) → List Stp → Bool
 | _,_,[] => true
 | j,an,Y :: Ys => ((List.range j).all fun i => (an.headD []).contains i || match Xs[i]? with
   | some X => X.apart Y
   | none => true) && pairsFrom Xs (j + 1) an.tail Ys
theorem fwd_get:∀ (os:List Oper) (i0 j:Nat) (o:Oper),fwdFrom i0 os = true → os[j]? = some o → ∀ m ∈ preds o,m < i0 + j
 | [],_,j,_,_,h => by simp at h
 | x :: os,i0,j,o,hf,h => by
  simp only [fwdFrom,Bool.and_eq_true] at hf
  cases j with
  | zero =>
   grind
  | succ j =>
   intro m hm
   have:=fwd_get os (i0 + 1) j o hf.2 (by grind) m hm
   omega
theorem anc_get (an:List (List Nat)):∀ (ls:List (List Nat)) (os:List Oper) (j:Nat) (l:List Nat),ancFrom an ls os = true → ls[j]? = some l → ∃ o,os[j]? = some o ∧ ∀ k ∈ l,k ∈ preds o ∨ ∃ m ∈ preds o,k ∈ an.getD m []
 | [],_,j,_,_,h => by simp at h
 | _ :: _,[],_,_,h,_ => by grind[ancFrom]
 | x :: ls,o :: os,j,l,ha,h => by
  simp only [ancFrom,Bool.and_eq_true] at ha
  cases j with
  | zero =>
   simp_all
  | succ j =>
   obtain ⟨o',h1,h2⟩:=anc_get an ls os j l ha.2 (by grind)
   grind
theorem pairs_get (Xs:List Stp):∀ (Ys:List Stp) (j0:Nat) (an:List (List Nat)) (j:Nat) (Y:Stp),pairsFrom Xs j0 an Ys = true → Ys[j]? = some Y → ∀ i X,i < j0 + j → Xs[i]? = some X → i ∈ an.getD j [] ∨ X.apart Y = true
 | [],_,_,j,_,_,h => by simp at h
 | Z :: Ys,j0,an,j,Y,hp,h => by
  simp only [pairsFrom,Bool.and_eq_true] at hp
  intro i X hi hX
  cases j with
  | zero =>
   simp at h;subst h
   have:=List.all_eq_true.1 hp.1 i (by grind)
   simp only [hX,Bool.or_eq_true,List.contains_eq_mem,decide_eq_true_eq] at this
   rcases this with h | h
   ·left
    cases an with
    | nil => simp at h
    | cons l an => grind
   grind
  | succ j =>
   rcases pairs_get Xs Ys (j0 + 1) an.tail j Y hp.2 (by grind) i X (by omega) hX with h | h
   all_goals grind
section
variable {P:Program} {Γ:Ctx} {pn:Pins} {ops:Array Oper}
def Closed (ops:Array Oper) (L:List Bool):Prop:=∀ (i:Nat) (o:Oper),ops[i]? = some o → L[i]? = some true → ∀ m ∈ preds o,L[m]? = some true
theorem anc_listed {L:List Bool} {an:List (List Nat)} (hf:fwdFrom 0 ops.toList = true) (ha:ancFrom an an ops.toList = true) (hc:Closed ops L) :
  ∀ (n i:Nat),i ≤ n → ∀ o,ops[i]? = some o → (∀ m ∈ preds o,L[m]? = some true) → ∀ k ∈ an.getD i [],L[k]? = some true:=by
 intro n
 induction n with
 | zero =>
  intro i hi o ho hp k hk
  have hi0:i = 0:=by omega
  subst hi0
  cases hl:an[0]? with
  | none => grind
  | some l =>
   obtain ⟨o',h1,h2⟩:=anc_get an an ops.toList 0 l ha hl
   rw [Array.getElem?_toList,ho] at h1
   simp at h1;subst h1
   simp only [List.getD,hl,Option.getD_some] at hk
   rcases h2 k hk with h | ⟨m,h,_⟩
   ·grind
   ·have:=fwd_get ops.toList 0 0 o hf (by grind) m h
    omega
 | succ n ih =>
  intro i hi o ho hp k hk
  cases hl:an[i]? with
  | none => grind
  | some l =>
   obtain ⟨o',h1,h2⟩:=anc_get an an ops.toList i l ha hl
   rw [Array.getElem?_toList,ho] at h1
   simp at h1;subst h1
   simp only [List.getD,hl,Option.getD_some] at hk
   rcases h2 k hk with h | ⟨m,h,hkm⟩
   ·grind
   ·have hlt:=fwd_get ops.toList 0 i o hf (by grind) m h
    have hLm:=hp m h
    cases hom:ops[m]? with
    | none =>
     grind
    | some om => exact ih m (by omega) om hom (hc m om hom hLm) k hkm
theorem zip_split {L:List Bool} {Xs:List Stp} {i:Nat} {b:Bool} {X:Stp} (hL:L[i]? = some b) (hX:Xs[i]? = some X):L.zip Xs = (L.take i).zip (Xs.take i) ++ (b,X) :: (L.drop (i + 1)).zip (Xs.drop (i + 1)):=by
 have h1:L = L.take i ++ b :: L.drop (i + 1):=by
  obtain ⟨h,rfl⟩:=List.getElem?_eq_some_iff.1 hL
  simp
 have h2:Xs = Xs.take i ++ X :: Xs.drop (i + 1):=by
  obtain ⟨h,rfl⟩:=List.getElem?_eq_some_iff.1 hX
  simp
 grind[List.zip_cons_cons]
theorem zip_get {L:List Bool} {Xs:List Stp} {y:Bool × Stp} (h:y ∈ L.zip Xs):∃ j:Nat,L[j]? = some y.1 ∧ Xs[j]? = some y.2:=by
 grind[List.mem_iff_getElem?,List.getElem?_zip_eq_some]
def HasFrom:Env → List Stp → Prop
 | _,[] => True
 | E,X :: Xs => E.Has X.rd ∧ HasFrom (E.apps X.l) Xs
theorem HasFrom.get:∀ (Xs:List Stp) (E:Env),HasFrom E Xs → ∀ (i:Nat) (X:Stp),Xs[i]? = some X → (runD E ((Xs.take i).map fun y => (true,y))).Has X.rd
 | [],_,_,i,_,h => by simp at h
 | Y :: Xs,E,hh,i,X,h => by
  cases i with
  | zero => simp at h;subst h;simpa [runD] using hh.1
  | succ i =>
   have:=HasFrom.get Xs _ hh.2 i X (by grind)
   grind[runD]
theorem Stp.apart_spec {a b:Stp} (h:a.apart b = true):appsOk a.l b.l = true ∧ (∀ s ∈ a.slots,s ∉ b.rd.map (·.1)) ∧ (∀ s ∈ b.slots,s ∉ a.rd.map (·.1)) ∧ ∀ x ∈ a.rd,∀ y ∈ b.l,x.2.okB y.2 = true:=by
 simp only [Stp.apart,Bool.and_eq_true] at h
 refine ⟨h.1.1.1,by grind[disj_not],by grind[disj_not],fun x hx y hy => ?_⟩
 exact List.all_eq_true.1 (List.all_eq_true.1 h.2 x hx) y hy
def StepsOk (P:Program) (Γ:Ctx) (ops:Array Oper):List Oper → List Stp → Prop
 | [],[] => True
 | o :: os,X :: Xs => (∀ E:Env,E.Has X.rd → IxOk P Γ ops o E (E.apps X.l)) ∧ StepsOk P Γ ops os Xs
 | _,_ => False
theorem StepsOk.get:∀ (os:List Oper) (Xs:List Stp),StepsOk P Γ ops os Xs → os.length = Xs.length ∧ ∀ (i:Nat) (o:Oper) (X:Stp),os[i]? = some o → Xs[i]? = some X → ∀ E:Env,E.Has X.rd → IxOk P Γ ops o E (E.apps X.l)
 | [],[],_ => by simp
 | o :: os,X :: Xs,h => by
  obtain ⟨h1,h2⟩:=StepsOk.get os Xs h.2
  refine ⟨by simp [h1],fun i o' X' ho hX => ?_⟩
  cases i with
  | zero => simp at ho hX;subst ho hX;exact h.1
  | succ i => exact h2 i o' X' (by grind) (by grind)
 | [],_ :: _,h => by grind[StepsOk]
 | _ :: _,[],h => by grind[StepsOk]
theorem wpAny_steps {E0:Env} {Xs:List Stp} {an:List (List Nat)} {Q':Exit → Act → World → Prop} (hf:fwdFrom 0 ops.toList = true) (ha:ancFrom an an ops.toList = true) (hp:pairsFrom Xs 0 an Xs = true)
  (hst:StepsOk P Γ ops ops.toList Xs) (hh:HasFrom E0 Xs) (hpn:ops.toList.all (fun o => pn.ok o.dst) = true) (hQ:∀ a' w',Sim2 Γ (runD E0 (Xs.map fun y => (true,y))) a' w' → pn.Hold a' → Q' .normal a' w') :
  ∀ (fuel:Nat) (L:List Bool) (a:Act) (w:World),L.length = ops.size → L.count false = fuel → Closed ops L → Sim2 Γ (runD E0 (L.zip Xs)) a w → pn.Hold a → wpAny P .any ops Q' fuel L.toArray a w:=by
 obtain ⟨hlen,hstep⟩:=StepsOk.get _ _ hst
 have hlen':Xs.length = ops.size:=by grind
 intro fuel
 induction fuel with
 | zero =>
  intro L a w hL hcnt hcl hs hpa
  have hall:∀ b ∈ L,b = true:=by grind
  have hLt:L = List.replicate ops.size true:=by
   rw [← hL];exact List.eq_replicate_iff.2 ⟨rfl,hall⟩
  refine ⟨?_,?_⟩
  ·apply List.eq_nil_iff_forall_not_mem.2
   intro j hj
   obtain ⟨h1,o,ho,_⟩:=mem_ready.1 hj
   have hlt:=(Array.getElem?_eq_some_iff.1 ho).1
   rw [hLt] at h1
   simp [hlt] at h1
  ·refine hQ a w ?_ hpa
   have:L.zip Xs = Xs.map fun y => (true,y):=by
    rw [hLt,← hlen']
    clear hs hL hLt hall hcnt hcl hst hh hp hlen hlen' hstep hQ
    induction Xs with
    | nil => rfl
    | cons X Xs ih => simp [List.replicate_succ,ih]
   grind
 | succ fuel ih =>
  intro L a w hL hcnt hcl hs hpa
  refine ⟨fun hr => ?_,fun i hi => ?_⟩
  ·
   exfalso
   have hex:∃ m:Nat,L[m]? = some false:=by
    have:false ∈ L:=by
     apply Classical.byContradiction
     grind
    grind[List.mem_iff_getElem?]
   obtain ⟨m,hm,hmin⟩:=least hex
   have hmlt:=(List.getElem?_eq_some_iff.1 hm).1
   have hom:ops[m]? = some ops[m]:=by simp
   have:m ∈ Region.ready .any ops L.toArray:=by
    refine mem_ready.2 ⟨by simp_all,ops[m],hom,fun e he hb => ?_⟩
    have hpm:e.on ∈ preds ops[m]:=by
     simp only [preds,List.mem_map,List.mem_filter]
     exact ⟨e,by grind,rfl⟩
    have hlt:=fwd_get ops.toList 0 m _ hf (by simp) _ hpm
    rw [Nat.zero_add] at hlt
    cases hL1:L[e.on]? with
    | none => grind
    | some b =>
     cases b with
     | false => grind
     | true => simp_all
   grind
  ·obtain ⟨h1,o,ho,hall⟩:=mem_ready.1 hi
   have hlt:=(Array.getElem?_eq_some_iff.1 ho).1
   have hLi:L[i]? = some false:=by
    simp_all
   have hpr:∀ m ∈ preds o,L[m]? = some true:=by
    intro m hm
    simp only [preds,List.mem_map,List.mem_filter] at hm
    obtain ⟨e,⟨he,hb⟩,rfl⟩:=hm
    have:=hall e (by grind) hb
    cases hL1:L[e.on]? with
    | none => grind
    | some b => simp_all
   have hanc:=anc_listed hf ha hcl i i (Nat.le_refl _) o ho hpr
   have hXi:Xs[i]? = some Xs[i]:=by simp
   generalize hXe:Xs[i] = X at hXi
   have hlate:∀ (j:Nat) (Y:Stp),Xs[j]? = some Y → i < j → L[j]? = some true → X.apart Y = true:=by
    intro j Y hY hij hj
    rcases pairs_get Xs Xs 0 an j Y hp hY i X (by omega) hXi with h | h
    ·have hjlt:=(List.getElem?_eq_some_iff.1 hY).1
     have hoj:ops[j]? = some ops[j]:=by simp
     have:=anc_listed hf ha hcl j j (Nat.le_refl _) _ hoj (hcl j _ hoj hj) i h
     grind
    ·exact h
   have hearly:∀ (j:Nat) (Y:Stp),Xs[j]? = some Y → j < i → L[j]? = some false → Y.apart X = true:=by
    grind[pairs_get]
   have hpre:∀ y ∈ (L.take i).zip (Xs.take i),∃ j:Nat,j < i ∧ L[j]? = some y.1 ∧ Xs[j]? = some y.2:=by
    intro y hy
    obtain ⟨j,g1,g2⟩:=zip_get hy
    rw [List.getElem?_take] at g1 g2
    grind
   have hpost:∀ y ∈ (L.drop (i + 1)).zip (Xs.drop (i + 1)),∃ j:Nat,i < j ∧ L[j]? = some y.1 ∧ Xs[j]? = some y.2:=by
    intro y hy
    obtain ⟨j,g1,g2⟩:=zip_get hy
    rw [List.getElem?_drop] at g1 g2
    grind
   have hsp:=zip_split hLi hXi
   have hhas:(runD E0 (L.zip Xs)).Has X.rd:=by
    rw [hsp,runD_append]
    simp only [runD,Bool.false_eq_true,if_false]
    have h0:=HasFrom.get Xs E0 hh i X hXi
    refine h0.of fun s t hst hs0 => ?_
    have hsm:s ∈ X.rd.map (·.1):=List.mem_map.2 ⟨_,hst,rfl⟩
    refine runD_keep _ _ (fun y hy hb => ?_) ?_
    ·obtain ⟨j,g1,g2,g3⟩:=hpost y hy
     have:=Stp.apart_spec (hlate j y.2 g3 g1 (by rw [g2,hb]))
     grind
    ·have hmp:((L.take i).zip (Xs.take i)).map (fun y => (true,y.2)) = (Xs.take i).map fun y => (true,y):=by
      have hl2:(L.take i).length = (Xs.take i).length:=by simp;omega
      rw [show (fun y:Bool × Stp => (true,y.2)) = (fun y => (true,y)) ∘ Prod.snd from rfl,← List.map_map,List.map_snd_zip (by omega)]
     refine runD_less _ E0 E0 (fun y hy hb hs' => ?_) (fun _ h => h) t (by grind)
     obtain ⟨j,g1,g2,g3⟩:=hpre y hy
     have:=Stp.apart_spec (hearly j y.2 g3 g1 (by rw [g2,hb]))
     grind
   have hnext:runD E0 ((L.set i true).zip Xs) = (runD E0 (L.zip Xs)).apps X.l:=by
    have hLs:(L.set i true)[i]? = some true:=by grind
    rw [zip_split hLs hXi,hsp,runD_append,runD_append]
    simp only [runD,if_true,Bool.false_eq_true,if_false,List.take_set_of_le (Nat.le_refl i),List.drop_set_of_lt (Nat.lt_succ_self i)]
    refine runD_late _ X _ fun y hy hb => ?_
    obtain ⟨j,g1,g2,g3⟩:=hpost y hy
    exact (Stp.apart_spec (by grind)).1
   have hstp:=hstep i o X (by grind) hXi _ hhas
   unfold wpOp
   simp only [ho]
   refine hstp a w _ Q' hs fun a' w' hs' hfr => ?_
   rw [List.setIfInBounds_toArray]
   have hok:pn.ok o.dst = true:=List.all_eq_true.1 hpn o (by grind)
   refine ih (L.set i true) a' w' (by simp [hL]) (by grind) ?_ (by grind) (hpa.frame hok hfr)
   intro k ok hk hkt m hm
   by_cases hki:k = i
   ·subst hki
    rw [ho] at hk;simp at hk;subst hk
    rw [List.getElem?_set]
    split
    ·grind
    grind
   ·rw [List.getElem?_set_ne (Ne.symm hki)] at hkt
    rw [List.getElem?_set]
    split
    ·grind
    ·exact hcl k ok hk hkt m hm
mutual
theorem okB_nil:(t:T) → t.okB [] = true
 | .same _ _ | .addr _ _ | .sub _ _ _ _ _ => by rfl
 | .agg xs | .tup xs => by simp only [T.okB];exact okBs_nil xs
 | .any | .lit _ | .ro _ | .sl _ _ | .ptr _ | .mp _ _ => by rfl
theorem okBs_nil:(xs:List T) → okBs [] xs = true
 | [] => by rfl
 | x :: xs => by simp only [okBs,okB_nil x,okBs_nil xs,Bool.and_self]
end
theorem Rep.heap {E:Env} {G:Gh} {tmps:Array Value} {w w':World} (h:Rep Γ E G tmps w) (hw:w'.heap = w.heap) (ho:w'.os = w.os:=by rfl) (hq:w'.output = w.output:=by rfl):Rep Γ E G tmps w' where
 size:=h.size
 ent s t hs:=Ent.keep (chg:=[]) ⟨fun _ _ _ => rfl,fun _ _ _ => rfl,by grind[cellAt,World.cell?],fun _ _ _ h _ => h,fun b cs e h => ⟨cs,by grind,rfl⟩,fun b _ _ ms c _ _ h => by grind⟩ (by simp) (okB_nil t) (h.ent s t hs)
 mem:=by
  have hm:=h.mem
  exact ⟨hm.one,fun b o l hl => by have:=hm.lb b o l hl;exact ⟨by rw [hw];exact this.1,this.2⟩,fun b l hl => by have:=hm.ow b l hl;exact ⟨by rw [hw];exact this.1,this.2⟩,
   fun b x hx => by rw [hw];exact hm.st b x hx,fun b h1 h2 => by rw [hw];exact hm.fr b h1 h2,by rw [hw];exact hm.sz,hm.bk.trans (fun b cs e hb => ⟨cs,by grind,rfl⟩) ho hq,hm.gl⟩
end
end Go.Ab

namespace Go.Ab
open Go
abbrev I (n:Int):T:=.lit (.int .i64 n)
abbrev B (b:Bool):T:=.lit (.bool b)
abbrev L {α:Type} (k:Nat) (f:α → T) (xs:List α):T:=.sl k (xs.map f)
theorem info_of {P:Program} {t:TypeId} {ti:TypeInfo} (h:P.types[t]? = some ti):P.info? t = some ti:=by
 grind[Tables.info?]
def Ok (P:Program) (Γ:Ctx) (o:Oper) (E E':Env):Prop:=∀ S,OpOk P (Γ.at S) o E E'
section
variable {P:Program} {Γ:Ctx} {pn:Pins} {ops:Array Oper} {o:Oper} {os:List Oper} {E E':Env} {Q:Exit → Env → Prop} {d:Nat}
theorem RW.op (h:Ok P Γ o E E') (k:RW P Γ pn ops os E' Q) (hg:o.guard = none:=by rfl) (hp:pn.ok o.dst = true:=by rfl):RW P Γ pn ops (o :: os) E Q:=RW.cons (IxOk.op h hg) k hp
def neD (x:Operand) (d:Nat):Bool:=match x with
 | .tmp s => s != d
 | _ => true
theorem neD_spec {x:Operand} {d:Nat} (h:neD x d = true):∀ s,x = .tmp s → s ≠ d:=by
 rintro s rfl;grind[neD]
theorem okTup_ne {t:T} (h:t.okTup = true):∀ xs,t ≠ .tup xs:=by rintro xs rfl;grind[T.okTup]
abbrev mvB (Γ:Ctx) (x:Operand) (t:T) (d:Nat):Bool:=Nat.blt d Γ.N && t.okTup && neD x d && T.okB [(d,0)] (opCp x t)
section
variable {x y:Operand} {t:T} {ty:TypeId} {ps:String} {af:Array Edge} {gd:Option (Nat × Bool)}
theorem blt_lt {a b:Nat} (h:Nat.blt a b = true):a < b:=by grind[Nat.blt_eq]
theorem x_mv (hx:opT E x = some t) (sd:mvB Γ x t d = true):Ok P Γ ⟨some d,.move x,ty,ps,af,gd⟩ E (E.app [(d,some (opCp x t))] [(d,0)]):=by
 simp only [mvB,Bool.and_eq_true] at sd
 exact fun S => ok_move x t (.inl rfl) rfl (blt_lt sd.1.1.1) hx (okTup_ne sd.1.1.2) (neD_spec sd.1.2) sd.2
theorem x_as (hx:opT E x = some t) (sd:mvB Γ x t d = true):Ok P Γ ⟨some d,.assign x,ty,ps,af,gd⟩ E (E.app [(d,some (opCp x t))] [(d,0)]):=by
 simp only [mvB,Bool.and_eq_true] at sd
 exact fun S => ok_move x t (.inr rfl) rfl (blt_lt sd.1.1.1) hx (okTup_ne sd.1.1.2) (neD_spec sd.1.2) sd.2
def inR (n:Int):Bool:=decide (-9223372036854775808 ≤ n) && decide (n ≤ 9223372036854775807)
theorem wrap_inR {n:Int} (h:inR n = true):IntKind.i64.wrap n = n:=by
 simp only [inR,Bool.and_eq_true,decide_eq_true_eq] at h
 have hb:IntKind.i64.bits = 64:=rfl
 have hs:IntKind.i64.signed = true:=rfl
 simp only [IntKind.wrap,hb,hs,Bool.true_and]
 grind
def rng (n:Int):Option Int:=if inR n then some n else none
theorem rng_some {n m:Int} (h:rng n = some m):m = n ∧ inR n = true:=by
 grind[rng]
theorem x_add {m n c:Int} {xt yt:TypeId} (hv:rng (m + n) = some c) (hx:opT E x = some (I m)) (hy:opT E y = some (I n)) (sd:Nat.blt d Γ.N = true):Ok P Γ ⟨some d,.binOp .add xt x y yt,ty,ps,af,gd⟩ E (E.app [(d,some (I c))] [(d,0)]):=by
 obtain ⟨rfl,h⟩:=rng_some hv
 exact fun S => ok_binI .add xt yt x y .i64 m n _ rfl rfl (blt_lt sd) hx hy (by grind[binI,wrap_inR])
theorem x_lss {m n:Int} {xt yt:TypeId} (hx:opT E x = some (I m)) (hy:opT E y = some (I n)) (sd:Nat.blt d Γ.N = true):Ok P Γ ⟨some d,.binOp .lss xt x y yt,ty,ps,af,gd⟩ E (E.app [(d,some (B (decide (m < n))))] [(d,0)]) :=
 fun _S => ok_binI .lss xt yt x y .i64 m n _ rfl rfl (blt_lt sd) hx hy rfl
theorem x_nil (k:Nat) (sd:Nat.blt d Γ.N = true):Ok P Γ ⟨some d,.assign (.const (.slice none 0 0)),ty,ps,af,gd⟩ E (E.app [(d,some (.sl k []))] [(d,0)]) :=
 fun _ => ok_nilslice k _ (.inr rfl) rfl rfl (blt_lt sd)
def lenOk (n:Int):Option Nat:=if 0 ≤ n ∧ n ≤ 68719476736 then some n.toNat else none
theorem lenOk_some {n:Int} {m:Nat} (h:lenOk n = some m):n = (m:Int) ∧ m ≤ 68719476736:=by
 grind[lenOk]
class ElT (P:Program) (t:TypeId) (e:outParam TypeId) (ti:outParam TypeInfo) (k:outParam Nat) (u:outParam T):Prop where
 un:P.underlying t = some (.slice e)
 info:P.info? e = some ti
 zero:∃ z,ti.zero = some z ∧ zvals u = z.cells.toList
 size:ti.size = k
 pos:0 < k
 zok:u.zOk = true
 us:u.size = k
 bytes:ti.bytes ≤ 2048
theorem x_make {t e:TypeId} {ti:TypeInfo} {k:Nat} {u:T} {n m:Nat} {a b:Int} (ht:ElT P t e ti k u) (hn:lenOk a = some n) (hx:opT E x = some (I a)) (hm:lenOk b = some m) (hy:opT E y = some (I b)) (hnm:n ≤ m) (sd:Nat.blt d Γ.N = true) :
  Ok P Γ ⟨some d,.makeSlice t x y,ty,ps,af,gd⟩ E (E.app [(d,some (.sl k (List.replicate n u)))] [(d,0)]):=by
 obtain ⟨rfl,h1⟩:=lenOk_some hn
 obtain ⟨rfl,h2⟩:=lenOk_some hm
 obtain ⟨z,hz,hv⟩:=ht.zero
 exact fun S => ok_make t e ti z u k x y n m .i64 .i64 rfl rfl (blt_lt sd) ht.un ht.info hz ht.size ht.pos ht.zok hv ht.us (Nat.le_trans ht.bytes (by decide)) hx hy hnm h2
end
end
end Go.Ab

namespace Go.Ab
open Go
def ixO {α:Type} (xs:List α) (i:Int):Option α:=if 0 ≤ i then xs[i.toNat]? else none
theorem ixO_some {α:Type} {xs:List α} {i:Int} {v:α} (h:ixO xs i = some v):0 ≤ i ∧ xs[i.toNat]? = some v:=by
 grind[ixO]
def notSame:T → Bool
 | .same _ _ => false
 | _ => true
theorem locA {E:Env} {s r:Nat} {q:List Nat} {t u:T} (h1:E s = some (.same r q)) (h2:E r = some t) (h3:t.get q.reverse = some u) (h4:notSame u = true):locT E (.tmp s) = some (r,q,u):=by
 have hg:∀ t:T,t.get [] = some t:=fun t => by rfl
 grind[notSame,locT,follow]
theorem locB {E:Env} {s:Nat} {t:T} (h1:E s = some t) (h4:notSame t = true):locT E (.tmp s) = some (s,[],t):=by
 have hg:∀ t:T,t.get [] = some t:=fun t => by rfl
 grind[notSame,locT,follow]
section
variable {P:Program} {Γ:Ctx} {E:Env} {d:Nat} {x y:Operand} {ty:TypeId} {ps:String} {af:Array Edge} {gd:Option (Nat × Bool)}
class RowT (P:Program) (t:TypeId) (e:outParam TypeId) (ti:outParam TypeInfo) (k:outParam Nat):Prop where
 un:P.underlying t = some (.slice e)
 info:P.info? e = some ti
 size:ti.size = k
theorem x_ix {α:Type} {t e:TypeId} {ti:TypeInfo} {r k:Nat} {q:List Nat} {f:α → T} {xs:List α} {v:α} {i:Int} (ht:RowT P t e ti k) (hv:ixO xs i = some v) (hx:locT E x = some (r,q,L k f xs)) (hy:opT E y = some (I i)) (sd:Nat.blt d Γ.N = true) :
  Ok P Γ ⟨some d,.indexAddr t x y,ty,ps,af,gd⟩ E (E.app [(d,some (.addr r (i.toNat :: q)))] [(d,0)]):=by
 obtain ⟨h1,h2⟩:=ixO_some hv
 exact fun S => ok_ix x y t e ti r q k _ .i64 i rfl rfl (blt_lt sd) ht.un ht.info ht.size hx hy h1 (by grind)
theorem x_ixr {α:Type} {t e:TypeId} {ti:TypeInfo} {r k:Nat} {q:List Nat} {f:α → T} {xs:List α} {v:α} {i:Int} (ht:RowT P t e ti k) (hv:ixO xs i = some v) (hx:locT E x = some (r,q,.ro (L k f xs))) (hy:opT E y = some (I i)) (sd:Nat.blt d Γ.N = true) :
  Ok P Γ ⟨some d,.indexAddr t x y,ty,ps,af,gd⟩ E (E.app [(d,some (.ro (.ptr (f v))))] [(d,0)]):=by
 obtain ⟨h1,h2⟩:=ixO_some hv
 exact fun S => ok_ix_ro x y t e ti r q k _ .i64 i _ rfl rfl (blt_lt sd) ht.un ht.info ht.size hx hy h1 (by simp [h2])
theorem x_len {α:Type} {t e:TypeId} {r k:Nat} {q:List Nat} {f:α → T} {xs:List α} (hu:P.underlying t = some (.slice e)) (hx:locT E x = some (r,q,L k f xs)) (sd:Nat.blt d Γ.N = true) :
  Ok P Γ ⟨some d,.call { callee:=.builtin .len,args:=#[x],argTypes:=#[t] },ty,ps,af,gd⟩ E (E.app [(d,some (I xs.length))] [(d,0)]) :=
 fun _ => ok_len x t _ r q (L k f xs) xs.length rfl rfl (blt_lt sd) hu hx (by simp [lenT]) rfl
theorem x_lenr {α:Type} {t e:TypeId} {r k:Nat} {q:List Nat} {f:α → T} {xs:List α} (hu:P.underlying t = some (.slice e)) (hx:locT E x = some (r,q,.ro (L k f xs))) (sd:Nat.blt d Γ.N = true) :
  Ok P Γ ⟨some d,.call { callee:=.builtin .len,args:=#[x],argTypes:=#[t] },ty,ps,af,gd⟩ E (E.app [(d,some (I xs.length))] [(d,0)]) :=
 fun _ => ok_len x t _ r q (.ro (L k f xs)) xs.length rfl rfl (blt_lt sd) hu hx (by simp [lenT]) rfl
structure VarT (P:Program) (t:TypeId) (u:T):Prop where
 h:∃ ds ti,P.underlying t = some ds ∧ P.info? t = some ti ∧ aggB ds = !u.single ∧ ti.size = u.size
theorem x_ldr {t:TypeId} {u:T} (ht:VarT P t u) (hx:opT E x = some (.ro (.ptr u))) (sd:Nat.blt d Γ.N = true):Ok P Γ ⟨some d,.load t x,ty,ps,af,gd⟩ E (E.app [(d,some (roT u))] [(d,0)]):=by
 obtain ⟨ds,ti,h1,h2,h3,h4⟩:=ht.h
 exact fun S => ok_load_ro x t ds ti u rfl rfl (blt_lt sd) h1 h2 h3 h4 hx
theorem x_ld {t:TypeId} {u tr:T} {r:Nat} {q:List Nat} (ht:VarT P t u) (hx:opT E x = some (.addr r q)) (hr:E r = some tr) (hg:tr.get q.reverse = some u) (sd:(Nat.blt d Γ.N && tr.locd q.reverse && (r != d) && T.okB [(d,0)] (cpT r u q)) = true) :
  Ok P Γ ⟨some d,.load t x,ty,ps,af,gd⟩ E (E.app [(d,some (cpT r u q))] [(d,0)]):=by
 obtain ⟨ds,ti,h1,h2,h3,h4⟩:=ht.h
 simp only [Bool.and_eq_true] at sd
 exact fun S => ok_load x t ds ti r q tr u rfl rfl (blt_lt sd.1.1.1) h1 h2 h3 h4 hx hr hg sd.1.1.2 (by grind) sd.2
end
end Go.Ab

namespace Go.Ab
open Go
section
variable {P:Program} {Γ:Ctx} {E:Env} {x:Operand} {ty:TypeId} {ps:String} {af:Array Edge} {gd:Option (Nat × Bool)}
theorem x_stc {t:TypeId} {ti:TypeInfo} {r:Nat} {q:List Nat} {tr tr' u0:T} {v:Value} (hi:P.info? t = some ti) (hsz:ti.size = 1) (hx:opT E x = some (.addr r q)) (hr:E r = some tr) (hg:tr.get q.reverse = some u0) (hset:tr.set q.reverse (.lit v) = tr')
  (sd:(tr.single && tr.locd q.reverse && sameFl (.lit v) u0 && (T.lit v).zOk) = true) (hz:zvals (.lit v) = v.cells.toList):Ok P Γ ⟨none,.store t x (.const v),ty,ps,af,gd⟩ E (E.app [(r,some tr')] [(r,q.length)]):=by
 simp only [Bool.and_eq_true] at sd
 subst hset
 intro S
 have:=ok_store (P:=P) (Γ:=Γ.at S) (E:=E) (o:=⟨none,.store t x (.const v),ty,ps,af,gd⟩) t ti x (.const v) r q tr u0 (.zero (.lit v)) rfl rfl hi (by rw [hsz];rfl) (by omega) hx hr sd.1.1.1 hg sd.1.1.2 sd.1.2 (.zero v _ hz)
  ⟨by simp,by grind,by simp [pSlots]⟩
 exact this
end
end Go.Ab

namespace Go.Ab
open Go
theorem Ghost.tr {Γ:Ctx} {E:Env} (d r:Nat) (u:T) (hd:E d = some (.same r [])) (hr:E r = some u) (huc:Clean u) (sd:(u.single && okTups1 u && u.okB [(d,1),(r,1)] && (d != r)) = true) :
  Ghost Γ E (E.app [(d,some u),(r,some (.same d []))] [(d,1),(r,1)]):=by
 simp only [Bool.and_eq_true] at sd
 rintro a w ⟨S,hS,hs⟩
 have hne:d ≠ r:=by grind
 have hg:∀ t:T,t.get [] = some t:=fun t => by rfl
 have:=sim_tr hs d [] r [] (.same r []) u u hd rfl hr (hg u) sd.1.1.1 huc hne (by simp [T.okB,refOk]) sd.1.2 rfl sd.1.1.2
 exact ⟨S,hS,this⟩
theorem cleans_map {α:Type} {f:α → T} (hf:∀ x,Clean (f x)):(xs:List α) → Cleans (xs.map f)
 | [] => trivial
 | x :: xs => ⟨hf x,cleans_map hf xs⟩
theorem clean_L {α:Type} {f:α → T} {k:Nat} {xs:List α} (hf:∀ x,Clean (f x)):Clean (L k f xs):=by
 simp only [Clean,AllR];grind[cleans_map]
theorem clean_B (b:Bool):Clean (B b):=by simp [Clean,AllR]
end Go.Ab

namespace Go.Ab
open Go
section
variable {P:Program} {Γ:Ctx} {E:Env} {d:Nat} {x y:Operand} {ty:TypeId} {ps:String} {af:Array Edge} {gd:Option (Nat × Bool)} {m n c:Int} {xt yt:TypeId}
theorem x_sub (hv:rng (m - n) = some c) (hx:opT E x = some (I m)) (hy:opT E y = some (I n)) (sd:Nat.blt d Γ.N = true):Ok P Γ ⟨some d,.binOp .sub xt x y yt,ty,ps,af,gd⟩ E (E.app [(d,some (I c))] [(d,0)]):=by
 obtain ⟨rfl,h⟩:=rng_some hv
 exact fun _ => ok_binI .sub xt yt x y .i64 m n _ rfl rfl (blt_lt sd) hx hy (by grind[binI,wrap_inR])
theorem x_mul (hv:rng (m * n) = some c) (hx:opT E x = some (I m)) (hy:opT E y = some (I n)) (sd:Nat.blt d Γ.N = true):Ok P Γ ⟨some d,.binOp .mul xt x y yt,ty,ps,af,gd⟩ E (E.app [(d,some (I c))] [(d,0)]):=by
 obtain ⟨rfl,h⟩:=rng_some hv
 exact fun _ => ok_binI .mul xt yt x y .i64 m n _ rfl rfl (blt_lt sd) hx hy (by grind[binI,wrap_inR])
def quoO (m n:Int):Option Int:=if n = 0 then none else rng (m.tdiv n)
def remO (m n:Int):Option Int:=if n = 0 then none else some (m.tmod n)
theorem x_quo (hv:quoO m n = some c) (hx:opT E x = some (I m)) (hy:opT E y = some (I n)) (sd:Nat.blt d Γ.N = true):Ok P Γ ⟨some d,.binOp .quo xt x y yt,ty,ps,af,gd⟩ E (E.app [(d,some (I c))] [(d,0)]):=by
 unfold quoO at hv
 split at hv
 ·cases hv
 ·rename_i h0
  obtain ⟨rfl,h⟩:=rng_some hv
  exact fun _ => ok_binI .quo xt yt x y .i64 m n _ rfl rfl (blt_lt sd) hx hy (by simp only [binI,h0,if_false,wrap_inR h])
theorem x_rem (hv:remO m n = some c) (hx:opT E x = some (I m)) (hy:opT E y = some (I n)) (sd:Nat.blt d Γ.N = true):Ok P Γ ⟨some d,.binOp .rem xt x y yt,ty,ps,af,gd⟩ E (E.app [(d,some (I c))] [(d,0)]):=by
 unfold remO at hv
 split at hv
 ·cases hv
 ·rename_i h0
  simp at hv;subst hv
  exact fun _ => ok_binI .rem xt yt x y .i64 m n _ rfl rfl (blt_lt sd) hx hy (by simp only [binI,h0,if_false])
theorem x_leq (hx:opT E x = some (I m)) (hy:opT E y = some (I n)) (sd:Nat.blt d Γ.N = true):Ok P Γ ⟨some d,.binOp .leq xt x y yt,ty,ps,af,gd⟩ E (E.app [(d,some (B (decide (m ≤ n))))] [(d,0)]) :=
 fun _ => ok_binI .leq xt yt x y .i64 m n _ rfl rfl (blt_lt sd) hx hy rfl
theorem x_gtr (hx:opT E x = some (I m)) (hy:opT E y = some (I n)) (sd:Nat.blt d Γ.N = true):Ok P Γ ⟨some d,.binOp .gtr xt x y yt,ty,ps,af,gd⟩ E (E.app [(d,some (B (decide (m > n))))] [(d,0)]) :=
 fun _ => ok_binI .gtr xt yt x y .i64 m n _ rfl rfl (blt_lt sd) hx hy rfl
theorem x_geq (hx:opT E x = some (I m)) (hy:opT E y = some (I n)) (sd:Nat.blt d Γ.N = true):Ok P Γ ⟨some d,.binOp .geq xt x y yt,ty,ps,af,gd⟩ E (E.app [(d,some (B (decide (m ≥ n))))] [(d,0)]) :=
 fun _ => ok_binI .geq xt yt x y .i64 m n _ rfl rfl (blt_lt sd) hx hy rfl
theorem x_eql (hx:opT E x = some (I m)) (hy:opT E y = some (I n)) (sd:Nat.blt d Γ.N = true):Ok P Γ ⟨some d,.binOp .eql xt x y yt,ty,ps,af,gd⟩ E (E.app [(d,some (B (m == n)))] [(d,0)]) :=
 fun _ => ok_binI .eql xt yt x y .i64 m n _ rfl rfl (blt_lt sd) hx hy rfl
theorem x_neq (hx:opT E x = some (I m)) (hy:opT E y = some (I n)) (sd:Nat.blt d Γ.N = true):Ok P Γ ⟨some d,.binOp .neq xt x y yt,ty,ps,af,gd⟩ E (E.app [(d,some (B (m != n)))] [(d,0)]) :=
 fun _ => ok_binI .neq xt yt x y .i64 m n _ rfl rfl (blt_lt sd) hx hy rfl
theorem x_not {b:Bool} (hx:opT E x = some (B b)) (sd:Nat.blt d Γ.N = true):Ok P Γ ⟨some d,.unOp .not xt x,ty,ps,af,gd⟩ E (E.app [(d,some (B (!b)))] [(d,0)]) :=
 fun _ => ok_not xt x b rfl rfl (blt_lt sd) hx
theorem x_neg (hv:rng (0 - n) = some c) (hx:opT E x = some (I n)) (sd:Nat.blt d Γ.N = true):Ok P Γ ⟨some d,.unOp .neg xt x,ty,ps,af,gd⟩ E (E.app [(d,some (I c))] [(d,0)]):=by
 obtain ⟨rfl,h⟩:=rng_some hv
 have:=fun S => ok_neg (P:=P) (Γ:=Γ.at S) (E:=E) (o:=⟨some d,.unOp .neg xt x,ty,ps,af,gd⟩) xt x .i64 n rfl rfl (blt_lt sd) hx
 rw [wrap_inR h] at this
 exact this
end
end Go.Ab

namespace Go.Ab
open Go
section
variable {P:Program} {Γ:Ctx} {E:Env} {d:Nat} {x y:Operand} {ty:TypeId} {ps:String} {af:Array Edge} {gd:Option (Nat × Bool)}
class ZerT (P:Program) (t:TypeId) (u:outParam T):Prop where
 h:∃ ti z,P.info? t = some ti ∧ ti.zero = some z ∧ u.zOk = true ∧ zvals u = z.cells.toList ∧ z.cells.size = u.size
theorem x_alloc {t:TypeId} {u:T} (ht:ZerT P t u) (sd:Nat.blt d Γ.N = true):Ok P Γ ⟨some d,.alloc t,ty,ps,af,gd⟩ E (E.app [(d,some (.ptr u))] [(d,0)]):=by
 obtain ⟨ti,z,h1,h2,h3,h4,h5⟩:=ht.h
 exact fun S => ok_alloc t ti z u rfl rfl (blt_lt sd) h1 h2 h3 h4 h5
theorem x_ext {s i:Nat} {ts:List T} {t:T} (hs:E s = some (.tup ts)) (hi:ts[i]? = some t) (sd:(Nat.blt d Γ.N && t.okTup && (s != d) && T.okB [(d,0)] (cpT s t [i])) = true) :
  Ok P Γ ⟨some d,.extract (.tmp s) i,ty,ps,af,gd⟩ E (E.app [(d,some (cpT s t [i]))] [(d,0)]):=by
 simp only [Bool.and_eq_true] at sd
 exact fun S => ok_extract s i ts t rfl rfl (blt_lt sd.1.1.1) hs hi (okTup_ne sd.1.1.2) (by grind) sd.2
theorem x_nilc {t:T} (hx:opT E x = some t) (hp:isPtr E x = true) (sd:mvB Γ x t d = true):Ok P Γ ⟨some d,.nilCheck x,ty,ps,af,gd⟩ E (E.app [(d,some (opCp x t))] [(d,0)]):=by
 simp only [mvB,Bool.and_eq_true] at sd
 exact fun S => ok_nil x t rfl rfl (blt_lt sd.1.1.1) hx hp (okTup_ne sd.1.1.2) (neD_spec sd.1.2) sd.2
theorem x_pick {c:Operand} {b:Bool} {t:T} (hc:opT E c = some (B b)) (hx:opT E (if b then x else y) = some t) (sd:mvB Γ (if b then x else y) t d = true):Ok P Γ ⟨some d,.pick c x y,ty,ps,af,gd⟩ E (E.app [(d,some (opCp (if b then x else y) t))] [(d,0)]):=by
 simp only [mvB,Bool.and_eq_true] at sd
 exact fun S => ok_pick c x y b t rfl rfl (blt_lt sd.1.1.1) hc hx (okTup_ne sd.1.1.2) (neD_spec sd.1.2) sd.2
theorem x_box {t:TypeId} {s:Nat} {u:T} (hs:E s = some u) (hu:Clean u) (sd:(Nat.blt d Γ.N && u.okTup && (s != d)) = true) :
  Ok P Γ ⟨some d,.box t (.tmp s),ty,ps,af,gd⟩ E (E.app ((d,some (.ptr u)) :: pWr d [.slot s u] 0) ((d,0) :: pChg [.slot s u])):=by
 simp only [Bool.and_eq_true] at sd
 have hne:s ≠ d:=by grind
 refine fun S => ok_box t (.tmp s) (.slot s u) rfl rfl (blt_lt sd.1.1) (.slot s u) ⟨by grind,by simp,?_⟩
 simp only [pSlots]
 grind
end
end Go.Ab

namespace Go.Ab
open Go
def appO {α:Type} (xs ys:List α):Option (List α):=if xs.length + ys.length ≤ 68719476736 then some (xs ++ ys) else none
theorem appO_some {α:Type} {xs ys zs:List α} (h:appO xs ys = some zs):zs = xs ++ ys ∧ xs.length + ys.length ≤ 68719476736:=by
 grind[appO]
section
variable {P:Program} {Γ:Ctx} {E:Env} {d:Nat} {x y:Operand} {ty:TypeId} {ps:String} {af:Array Edge} {gd:Option (Nat × Bool)}
theorem ElT.zsize {t e:TypeId} {ti:TypeInfo} {k:Nat} {u:T} (h:ElT P t e ti k u):∃ z,ti.zero = some z ∧ z.cells.size = k:=by
 obtain ⟨z,h1,h2⟩:=h.zero
 exact ⟨z,h1,by rw [← Array.length_toList,← h2,zvals_length u h.zok,h.us]⟩
theorem x_appm {α:Type} {t e:TypeId} {ti:TypeInfo} {k:Nat} {u:T} {f:α → T} {xs ys zs:List α} {s0 s1:Nat} (ht:ElT P t e ti k u) (hv:appO xs ys = some zs) (h0:E s0 = some (L k f xs)) (h1:E s1 = some (L k f ys)) (sd:(Nat.blt d Γ.N && (s0 != d) && (s1 != d) && (s1 != s0)) = true) :
  Ok P Γ ⟨some d,.call { callee:=.builtin .append,args:=#[.tmp s0,.tmp s1],argTypes:=#[t,t] },ty,ps,af,gd⟩ E (E.app [(d,some (L k f zs)),(s0,some .any),(s1,some .any)] [(d,0),(s0,1),(s1,1)]):=by
 obtain ⟨rfl,hl⟩:=appO_some hv
 obtain ⟨z,hz,hzk⟩:=ht.zsize
 simp only [Bool.and_eq_true] at sd
 intro S
 have:=ok_append_mv (P:=P) (Γ:=Γ.at S) (E:=E) (o:=⟨some d,.call { callee:=.builtin .append,args:=#[.tmp s0,.tmp s1],argTypes:=#[t,t] },ty,ps,af,gd⟩) t e ti z k s0 s1 (xs.map f) (ys.map f) rfl rfl (blt_lt sd.1.1.1) ht.un ht.info hz ht.size ht.pos hzk ht.bytes h0 h1
  (by grind) (by grind) (by grind) (by grind)
 rw [← List.map_append] at this
 exact this
theorem flats_map {α:Type} {f:α → T} (hf:∀ x,(f x).flat = true):(xs:List α) → flats (xs.map f) = true
 | [] => rfl
 | x :: xs => by simp only [List.map_cons,flats,hf x,flats_map hf xs,Bool.and_self]
theorem x_appc {α:Type} {t e:TypeId} {ti:TypeInfo} {k r:Nat} {q:List Nat} {u:T} {f:α → T} {xs ys zs:List α} {s0:Nat} (ht:ElT P t e ti k u) (hf:∀ x,(f x).flat = true) (hv:appO xs ys = some zs) (h0:E s0 = some (L k f xs)) (h1:locT E y = some (r,q,L k f ys)) (sd:(Nat.blt d Γ.N && (s0 != d)) = true) :
  Ok P Γ ⟨some d,.call { callee:=.builtin .append,args:=#[.tmp s0,y],argTypes:=#[t,t] },ty,ps,af,gd⟩ E (E.app [(d,some (L k f zs)),(s0,some .any)] [(d,0),(s0,1)]):=by
 obtain ⟨rfl,hl⟩:=appO_some hv
 obtain ⟨z,hz,hzk⟩:=ht.zsize
 simp only [Bool.and_eq_true] at sd
 intro S
 have:=ok_append_cp (P:=P) (Γ:=Γ.at S) (E:=E) (o:=⟨some d,.call { callee:=.builtin .append,args:=#[.tmp s0,y],argTypes:=#[t,t] },ty,ps,af,gd⟩) t e ti z k s0 y r q (xs.map f) (ys.map f) rfl rfl (blt_lt sd.1) ht.un ht.info hz ht.size ht.pos hzk ht.bytes h0 h1 (flats_map hf ys)
  (by grind) (by grind)
 rw [← List.map_append] at this
 exact this
end
end Go.Ab

namespace Go.Ab
open Go
abbrev IK (k:IntKind) (n:Int):T:=.lit (.int k n)
abbrev Str (s:ByteArray):T:=.lit (.string s)
abbrev Pt {α:Type} (f:α → T) (x:α):T:=.ptr (f x)
abbrev Ro {α:Type} (f:α → T) (x:α):T:=.ro (f x)
theorem bd {α β:Type} {o:Option α} {f:α → Option β} {r:β} (h:o.bind f = some r):∃ v,o = some v ∧ f v = some r:=by
 cases o with
 | none => simp at h
 | some v => grind
theorem cT {α:Type} {b:Bool} {x y:α} {z:α} (hc:b = true) (h:cond b x y = z):x = z:=by grind
theorem cF {α:Type} {b:Bool} {x y:α} {z:α} (hc:b = false) (h:cond b x y = z):y = z:=by grind
theorem sI {α:Type} {x y:α} (h:some x = some y):x = y:=Option.some.inj h
section
variable {P:Program} {Γ:Ctx} {pn:Pins} {E E':Env} {Q:Exit → Env → Prop} {c:Code} {id id':Nat}
theorem nA (h:CW P Γ pn c E Q):Andthen P Γ pn c Q .normal E:=h
theorem xA (h:Q (.exit id) E):Andthen P Γ pn c Q (.exit id) E:=h
theorem rA (h:Q .ret E):Andthen P Γ pn c Q .ret E:=h
theorem nB (h:Q .normal E):InBlock id Q .normal E:=h
theorem rB (h:Q .ret E):InBlock id Q .ret E:=h
theorem xB (h:Q .normal E):InBlock id Q (.exit id) E:=by simp only [InBlock,if_true];exact h
theorem neX:Exit.exit id ≠ .normal:=by simp
theorem neR:Exit.ret ≠ .normal:=by simp
theorem RW.cases {ops:Array Oper} {os:List Oper} (s:Nat) (b:Bool) (hb:E s = some (B b)) (ht:b = true → RW P Γ pn ops os (E.app [(s,some (B true))] []) Q) (hf:b = false → RW P Γ pn ops os (E.app [(s,some (B false))] []) Q):RW P Γ pn ops os E Q:=by
 have key:∀ c:Bool,b = c → Ghost Γ E (E.app [(s,some (B c))] []):=by
  rintro c rfl a w hs
  refine hs.weaken fun s' t h => ?_
  by_cases e:s = s'
  ·grind[Env.app,Wr.find]
  ·simp only [Env.app,Wr.find,e,if_false] at h
   grind
 cases hc:b with
 | true => grind[ghost]
 | false => grind[ghost]
end
theorem getc {α:Type} {k:Nat} {f:α → T} {xs:List α} {i:Int} {v:α} {p:List Nat} {u:T} (h:ixO xs i = some v) (hr:(f v).get p = some u):(L k f xs).get (i.toNat :: p) = some u:=by
 simp [T.get,(ixO_some h).2,hr]
theorem getp {t u:T} {p:List Nat} (h:t.get p = some u):(T.ptr t).get (0 :: p) = some u:=h
theorem geta {xs:List T} {x u:T} {j:Nat} {p:List Nat} (hj:xs[j]? = some x) (h:x.get p = some u):(T.agg xs).get (j :: p) = some u:=by grind[T.get]
theorem setc {α:Type} {k:Nat} {f:α → T} {xs:List α} {i:Int} {v w:α} {p:List Nat} {u:T} (h:ixO xs i = some v) (hr:(f v).set p u = f w):(L k f xs).set (i.toNat :: p) u = L k f (xs.set i.toNat w):=by
 simp [L,T.set,(ixO_some h).2,hr,List.map_set]
theorem setp {t u t':T} {p:List Nat} (h:t.set p u = t'):(T.ptr t).set (0 :: p) u = T.ptr t':=by simp [T.set,h]
theorem seta {xs:List T} {x u x':T} {j:Nat} {p:List Nat} (hj:xs[j]? = some x) (h:x.set p u = x'):(T.agg xs).set (j :: p) u = .agg (xs.set j x'):=by grind[T.set]
class Enc {α:Type} (f:α → T):Prop where
 clean:∀ x,Clean (f x)
 rofree:∀ x,roFree (f x) = true
 strip:∀ x,strip (f x) = f x
 okTup:∀ x,(f x).okTup = true
 rook:∀ x,RoOk (f x) = true
theorem roFrees_of {α:Type} {f:α → T} (h:∀ x,roFree (f x) = true):(xs:List α) → roFrees (xs.map f) = true
 | [] => rfl
 | x :: xs => by simp only [List.map_cons,roFrees,h x,roFrees_of h xs,Bool.and_self]
theorem rooks_of {α:Type} {f:α → T} (h:∀ x,RoOk (f x) = true):(xs:List α) → RoOks (xs.map f) = true
 | [] => rfl
 | x :: xs => by simp only [List.map_cons,RoOks,h x,rooks_of h xs,Bool.and_self]
theorem strips_of {α:Type} {f g:α → T} (h:∀ x,strip (f x) = g x):(xs:List α) → strips (xs.map f) = xs.map g
 | [] => rfl
 | x :: xs => by simp only [List.map_cons,strips,h x,strips_of h xs]
instance:Enc B:=⟨clean_B,fun _ => rfl,fun _ => rfl,fun _ => rfl,fun _ => rfl⟩
instance {k:IntKind}:Enc (IK k):=⟨fun _ => by simp [Clean,AllR],fun _ => rfl,fun _ => rfl,fun _ => rfl,fun _ => rfl⟩
instance:Enc Str:=⟨fun _ => by simp [Clean,AllR],fun _ => rfl,fun _ => rfl,fun _ => rfl,fun _ => rfl⟩
instance {α:Type} {k:Nat} {f:α → T} [h:Enc f]:Enc (L k f) :=
 ⟨fun _ => clean_L h.clean,fun xs => by simp only [roFree];exact roFrees_of h.rofree xs,fun xs => by simp only [L,strip,strips_of h.strip xs],fun _ => rfl,fun xs => by simp only [RoOk,rooks_of h.rook xs]⟩
instance {α:Type} {f:α → T} [h:Enc f]:Enc (Pt f) :=
 ⟨fun x => by simp only [Clean,AllR];exact h.clean x,fun x => by simp only [roFree,h.rofree],fun x => by simp only [Pt,strip,h.strip],fun _ => rfl,fun x => by simp only [RoOk,h.rook]⟩
class StripTo {α:Type} (f g:α → T):Prop where
 h:∀ x,strip (f x) = g x
instance {α:Type} {f:α → T} [h:Enc f]:StripTo f f:=⟨h.strip⟩
instance {α:Type} {k:Nat} {f g:α → T} [h:StripTo f g]:StripTo (L k f) (L k g):=⟨fun xs => by simp only [L,strip,strips_of h.h xs]⟩
instance {α:Type} {k:Nat} {g:α → T}:StripTo (Ro (L k g)) (L k g):=⟨fun _ => rfl⟩
instance {α:Type} {g:α → T}:StripTo (Ro (Pt g)) (Pt g):=⟨fun _ => rfl⟩
theorem stA {xs ys:List T} (h:strips xs = ys):strip (.agg xs) = .agg ys:=by grind[strip]
theorem stC {x y:T} {xs ys:List T} (h:strip x = y) (h2:strips xs = ys):strips (x :: xs) = y :: ys:=by grind[strips]
section
variable {E:Env} {rw:Rw} {i s r:Nat} {q:List Nat} {x:Operand}
theorem cloO {α:Type} {k:Nat} {f g:α → T} {xs:List α} (h:StripTo f g):clo E (L k f xs) = .ro (L k g xs):=by
 simp only [clo,L,strip,strips_of h.h xs]
theorem cloP {t u:T} (h:strip t = u):clo E (.ptr t) = .ro (.ptr u):=by grind[clo,strip]
theorem follow_at {tr u:T} (hr:E r = some tr) (hg:tr.get q.reverse = some u) (h4:notSame u = true):follow E 4 r q = some (r,q,u):=by
 grind[notSame,follow]
theorem cloS {α:Type} {k:Nat} {f g:α → T} {xs:List α} {tr:T} (hr:E r = some tr) (hg:tr.get q.reverse = some (L k f xs)) (h:StripTo f g):clo E (.same r q) = .ro (L k g xs):=by
 simp only [clo,follow_at hr hg rfl,T.single,if_true,L,strip,strips_of h.h xs]
theorem cloSP {t u tr:T} (hr:E r = some tr) (hg:tr.get q.reverse = some (.ptr t)) (h:strip t = u):clo E (.same r q) = .ro (.ptr u):=by
 simp only [clo,follow_at hr hg rfl,T.single,if_true,strip,h]
theorem cloSub {α:Type} {k l h:Nat} {f g:α → T} {xs:List α} {tr:T} (hr:E r = some tr) (hg:tr.get q.reverse = some (L k f xs)) (hs:StripTo f g) (h1:l ≤ h) (h2:h ≤ xs.length):clo E (.sub r q k l h) = .ro (L k g ((xs.drop l).take (h - l))):=by
 simp only [clo,follow_at hr hg rfl,L,strips_of hs.h xs,List.length_map,h1,h2,and_self,if_true,List.map_drop,List.map_take]
theorem cloA {xs ys:List T} (h:clos E xs = ys):clo E (.agg xs) = .agg ys:=by grind[clo]
theorem cloN:clos E [] = []:=rfl
theorem cloC {x y:T} {xs ys:List T} (h:clo E x = y) (h2:clos E xs = ys):clos E (x :: xs) = y :: ys:=by grind[clos]
mutual
theorem cloOk_nil (s:Nat):(t:T) → t.okTup = true → cloOk E [] s t = true
 | .agg xs,h => by simp only [cloOk,T.okTup] at h ⊢;exact cloOks_nil s xs h
 | .tup _,h => by grind[T.okTup]
 | .same r q,_ | .sub r q _ _ _,_ => by grind[cloOk]
 | .sl _ _,_ | .ptr _,_ | .mp _ _,_ => by rfl
 | .lit _,_ | .ro _,_ | .any,_ | .addr _ _,_ => by rfl
theorem cloOks_nil (s:Nat):(xs:List T) → okTups xs = true → cloOks E [] s xs = true
 | [],_ => rfl
 | x :: xs,h => by
  simp only [okTups,Bool.and_eq_true] at h
  simp only [cloOks,cloOk_nil s x h.1,cloOks_nil s xs h.2,Bool.and_self]
end
theorem agC {u:T} (t:T) (h:opT E x = some t) (h1:clo E t = u) (h2:t.okTup = true):ArgOk E [] i x u:=.inr ⟨t,h,h1,by
 cases x with
 | tmp s => exact cloOk_nil s t h2
 | _ => rfl⟩
end
section
variable {P:Program} {Γ:Ctx} {E:Env} {d:Nat} {x y:Operand} {ty:TypeId} {ps:String} {af:Array Edge} {gd:Option (Nat × Bool)}
abbrev ResOk (res:List T):Prop:=Cleans res ∧ okTups res = true ∧ roFrees res = true
theorem resN:ResOk []:=⟨trivial,rfl,rfl⟩
theorem resC {α:Type} {f:α → T} {x:α} {ts:List T} (h:Enc f) (h2:ResOk ts):ResOk (f x :: ts) :=
 ⟨⟨h.clean x,h2.1⟩,by simp only [okTups,h.okTup,h2.2.1,Bool.and_self],by simp only [roFrees,h.rofree,h2.2.2,Bool.and_self]⟩
abbrev CallsF (P:Program) (f:FuncId):Prop:=∀ args w,(callFunc f args).run P w = .ok (.enter f args) w
theorem x_call {f:FuncId} {xs:List Operand} {ats:Array TypeId} {us res:List T} (hcall:CallsF P f) (hc:FnC P f us res []) (hargs:ArgsOk E [] 0 xs us) (hres:ResOk res) (sd:Nat.blt d Γ.N = true) :
  Ok P Γ ⟨some d,.call { callee:=.value (.func f),args:=xs.toArray,argTypes:=ats },ty,ps,af,gd⟩ E (E.app (cWr d res []) (cChg d [])) :=
 fun _S => ok_call f (.func f) xs ats us res [] rfl rfl (blt_lt sd) hcall rfl hc hargs .nil hres
theorem x_callB {f:FuncId} {xs:List Operand} {ats:Array TypeId} {us res:List T} (hcall:CallsF P f) (hc:FnC P f us res []) (hlen:xs.length = us.length) (hargs:∀ (i:Nat) u,us[i]? = some u → ∃ x,xs[i]? = some x ∧ opT E x = some u ∧ u.flat = true) (hres:Cleans res ∧ okTups res = true) (sd:Nat.blt d Γ.N = true) :
  Ok P Γ ⟨some d,.call { callee:=.value (.func f),args:=xs.toArray,argTypes:=ats },ty,ps,af,gd⟩ E (E.app (cWr d res []) (cChg d [])) :=
 fun _S => ok_callB f (.func f) xs ats us res rfl rfl (blt_lt sd) hcall rfl hc hlen hargs hres
class FldT (P:Program) (S:TypeId) (j:Nat) (off:outParam Nat):Prop where
 h:∃ fs f fi,P.underlying S = some (.struct fs) ∧ fs[j]? = some f ∧ P.info? f.type = some fi ∧ fi.size ≠ 0 ∧ off = f.offset
theorem x_fa {S:TypeId} {j off r:Nat} {q:List Nat} {xs:List T} {u:T} (ht:FldT P S j off) (hx:locT E x = some (r,q,.ptr (.agg xs))) (hu:xs[j]? = some u) (hoff:T.sizes (xs.take j) = off) (sd:Nat.blt d Γ.N = true) :
  Ok P Γ ⟨some d,.fieldAddr S x j,ty,ps,af,gd⟩ E (E.app [(d,some (.addr r (j :: 0 :: q)))] [(d,0)]):=by
 obtain ⟨fs,f,fi,h1,h2,h3,h4,h5⟩:=ht.h
 exact fun _ => ok_fa x S fs f fi j r q xs u rfl rfl (blt_lt sd) h1 h2 h3 h4 hx hu (by omega)
theorem x_faa {S:TypeId} {j off r:Nat} {q:List Nat} {t:T} {xs:List T} {u:T} (ht:FldT P S j off) (hx:opT E x = some (.addr r q)) (hr:E r = some t) (hg:t.get q.reverse = some (.agg xs)) (hu:xs[j]? = some u) (hoff:T.sizes (xs.take j) = off) (sd:(Nat.blt d Γ.N && t.locd q.reverse) = true) :
  Ok P Γ ⟨some d,.fieldAddr S x j,ty,ps,af,gd⟩ E (E.app [(d,some (.addr r (j :: q)))] [(d,0)]):=by
 obtain ⟨fs,f,fi,h1,h2,h3,h4,h5⟩:=ht.h
 simp only [Bool.and_eq_true] at sd
 exact fun _ => ok_fa_addr x S fs f fi j r q t xs u rfl rfl (blt_lt sd.1) h1 h2 h3 h4 hx hr hg sd.2 hu (by omega)
theorem x_far {S:TypeId} {j off:Nat} {xs:List T} {u:T} (ht:FldT P S j off) (hx:opT E x = some (.ro (.ptr (.agg xs)))) (hu:xs[j]? = some u) (hoff:T.sizes (xs.take j) = off) (sd:Nat.blt d Γ.N = true) :
  Ok P Γ ⟨some d,.fieldAddr S x j,ty,ps,af,gd⟩ E (E.app [(d,some (.ro (.ptr u)))] [(d,0)]):=by
 obtain ⟨fs,f,fi,h1,h2,h3,h4,h5⟩:=ht.h
 exact fun _ => ok_fa_ro x S fs f fi j xs u rfl rfl (blt_lt sd) h1 h2 h3 h4 hx hu (by omega)
def sliceO {α:Type} (xs:List α) (l h:Int):Option (List α):=if 0 ≤ l ∧ l ≤ h ∧ h ≤ (xs.length:Int) then some ((xs.drop l.toNat).take (h.toNat - l.toNat)) else none
theorem x_slr {α:Type} {t e:TypeId} {ti:TypeInfo} {r k:Nat} {q:List Nat} {f:α → T} {xs ys:List α} {lo hi:Option Operand} {l h:Int} (ht:RowT P t e ti k) (hv:sliceO xs l h = some ys) (hx:locT E x = some (r,q,.ro (L k f xs))) (hlo:optI E lo 0 l.toNat) (hhi:optI E hi xs.length h.toNat) (sd:Nat.blt d Γ.N = true) :
  Ok P Γ ⟨some d,.slice t x lo hi none,ty,ps,af,gd⟩ E (E.app [(d,some (.ro (L k f ys)))] [(d,0)]):=by
 unfold sliceO at hv
 split at hv
 ·rename_i hc
  simp at hv;subst hv
  intro S
  have:=ok_slice_ro (P:=P) (Γ:=Γ.at S) (E:=E) (o:=⟨some d,.slice t x lo hi none,ty,ps,af,gd⟩) x lo hi t e ti r q k (xs.map f) l.toNat h.toNat rfl rfl (blt_lt sd) ht.un ht.info ht.size hx hlo (by grind) (by omega) (by simp;omega)
  simpa [L,List.map_drop,List.map_take] using this
 ·cases hv
theorem x_slo {α:Type} {t e:TypeId} {ti:TypeInfo} {r k:Nat} {q:List Nat} {f:α → T} {xs ys:List α} {lo hi:Option Operand} {l h:Int} (ht:RowT P t e ti k) (hv:sliceO xs l h = some ys) (hx:locT E x = some (r,q,L k f xs)) (hlo:optI E lo 0 l.toNat) (hhi:optI E hi xs.length h.toNat) (sd:(Nat.blt d Γ.N && (r != d)) = true) :
  Ok P Γ ⟨some d,.slice t x lo hi none,ty,ps,af,gd⟩ E (E.app [(d,some (.sub r q k l.toNat h.toNat))] [(d,0)]):=by
 unfold sliceO at hv
 simp only [Bool.and_eq_true] at sd
 split at hv
 ·rename_i hc
  intro S
  exact ok_slice_own (P:=P) (Γ:=Γ.at S) (E:=E) (o:=⟨some d,.slice t x lo hi none,ty,ps,af,gd⟩) x lo hi t e ti r q k (xs.map f) l.toNat h.toNat rfl rfl (blt_lt sd.1) ht.un ht.info ht.size hx hlo (by grind) (by omega) (by simp;omega) (by grind)
 ·cases hv
end
end Go.Ab

namespace Go.Ab
open Go
theorem clean_of {t:T} (h:Clean t):Clean t:=h
theorem cleanL {α:Type} {f:α → T} {k:Nat} {xs:List α} (hf:∀ x,Clean (f x)):Clean (L k f xs):=clean_L hf
theorem cleanP {t:T} (h:Clean t):Clean (.ptr t):=by simpa only [Clean,AllR] using h
theorem cleanA {xs:List T} (h:Cleans xs):Clean (.agg xs):=by simpa only [Clean,AllR] using h
section
variable {P:Program} {Γ:Ctx} {pn:Pins} {E E':Env} {Q:Exit → Env → Prop} {c c1 c2:Code} {x:Operand}
theorem CW.condT (hx:opT E x = some (B true)) (h:CW P Γ pn c1 E Q):CW P Γ pn (.cond x c1 c2) E Q:=by grind[CW.cond]
theorem CW.condF (hx:opT E x = some (B false)) (h:CW P Γ pn c2 E Q):CW P Γ pn (.cond x c1 c2) E Q:=by grind[CW.cond]
theorem CW.casesB (b:Bool) (ht:b = true → CW P Γ pn c E Q) (hf:b = false → CW P Γ pn c E Q):CW P Γ pn c E Q:=by
 grind
theorem keepE {wr:Wr} {chg:Chg} {s:Nat} {t:T} (h:E s = some t) (hf:wr.find s = none:=by rfl) (hb:t.okB chg = true:=by rfl):E.app wr chg s = some t:=by
 grind[Env.app]
theorem IxOk.gh {ops:Array Oper} {o:Oper} {E1:Env} (hg:Ghost Γ E E1) (h:IxOk P Γ ops o E1 E'):IxOk P Γ ops o E E':=fun a w K Q hs hK => h a w K Q (hg a w hs) hK
theorem isPtr_ro {t:T} (h:opT E x = some (.ro (.ptr t))):isPtr E x = true:=by simp [isPtr,h]
theorem isPtr_own {r:Nat} {q:List Nat} {t:T} (h:locT E x = some (r,q,.ptr t)):isPtr E x = true:=by
 grind[isPtr]
end
theorem optN {E:Env} {n:Nat}:optI E none n (n:Int).toNat:=by simp [optI]
theorem optS {E:Env} {x:Operand} {n:Int} {d:Nat} (h0:0 ≤ n) (h:opT E x = some (I n)):optI E (some x) d n.toNat:=⟨.i64,by grind⟩
theorem sliceO_some {α:Type} {xs ys:List α} {l h:Int} (hv:sliceO xs l h = some ys):0 ≤ l ∧ l ≤ h ∧ h ≤ xs.length ∧ ys = (xs.drop l.toNat).take (h.toNat - l.toNat):=by
 grind[sliceO]
theorem sliceO_lo {α:Type} {xs ys:List α} {l h:Int} (hv:sliceO xs l h = some ys):0 ≤ l:=(sliceO_some hv).1
theorem sliceO_hi {α:Type} {xs ys:List α} {l h:Int} (hv:sliceO xs l h = some ys):0 ≤ h:=by have:=sliceO_some hv;omega
theorem cloSubV {E:Env} {r k:Nat} {q:List Nat} {α:Type} {l h:Int} {f g:α → T} {xs ys:List α} {tr:T} (hr:E r = some tr) (hg:tr.get q.reverse = some (L k f xs)) (hs:StripTo f g) (hv:sliceO xs l h = some ys) :
  clo E (.sub r q k l.toNat h.toNat) = .ro (L k g ys):=by
 obtain ⟨h1,h2,h3,rfl⟩:=sliceO_some hv
 grind[cloSub]
section
variable {P:Program} {Γ:Ctx} {E E':Env} {d:Nat} {x y:Operand} {ty:TypeId} {ps:String} {af:Array Edge} {gd:Option (Nat × Bool)}
theorem okB_eq {o:Oper} {e b:Bool} {d:Nat} {wr:Wr} {chg:Chg} (he:e = b) (h:Ok P Γ o E (E.app ((d,some (B e)) :: wr) chg)):Ok P Γ o E (E.app ((d,some (B b)) :: wr) chg):=he ▸ h
theorem x_ldp {t:TypeId} {u tr t0:T} {r:Nat} {q:List Nat} (ht:VarT P t u) (hx:locT E x = some (r,q,.ptr t0)) (hr:E r = some tr) (hg:tr.get (0 :: q).reverse = some u) (sd:(Nat.blt d Γ.N && tr.locd (0 :: q).reverse && (r != d) && T.okB [(d,0)] (cpT r u (0 :: q))) = true) :
  Ok P Γ ⟨some d,.load t x,ty,ps,af,gd⟩ E (E.app [(d,some (cpT r u (0 :: q)))] [(d,0)]):=by
 obtain ⟨ds,ti,h1,h2,h3,h4⟩:=ht.h
 simp only [Bool.and_eq_true] at sd
 exact fun S => ok_loadA x t ds ti r (0 :: q) tr u rfl rfl (blt_lt sd.1.1.1) h1 h2 h3 h4 (AdrOf.ptr hx) hr hg sd.1.1.2 (by grind) sd.2
theorem x_stA {t:TypeId} {ti:TypeInfo} {r s:Nat} {q:List Nat} {tr tr' u0 u:T} (hi:P.info? t = some ti) (hsz:(ti.size == u.size && Nat.blt 0 ti.size) = true) (hx:∀ S,AdrOf (Γ.at S) E x r q) (hr:E r = some tr) (hg:tr.get q.reverse = some u0) (hset:tr.set q.reverse u = tr') (hy:E s = some u) (hu:Clean u)
  (sd:(tr.single && tr.locd q.reverse && sameFl u u0 && (r != s) && u.okTup) = true):Ok P Γ ⟨none,.store t x (.tmp s),ty,ps,af,gd⟩ E (E.app ((r,some tr') :: sWr r q (.slot s u)) ((r,q.length) :: pChg [.slot s u])):=by
 simp only [Bool.and_eq_true] at sd hsz
 subst hset
 intro S
 refine ok_storeA (P:=P) (Γ:=Γ.at S) (E:=E) (o:=⟨none,.store t x (.tmp s),ty,ps,af,gd⟩) t ti x (.tmp s) r q tr u0 (.slot s u) rfl rfl hi (by grind[Part.tree]) (blt_lt hsz.2) (hx S) hr sd.1.1.1.1 hg sd.1.1.1.2 sd.1.1.2 (.slot s _)
  ⟨by grind,by simp,?_⟩
 grind[pSlots]
theorem x_st {t:TypeId} {ti:TypeInfo} {r s:Nat} {q:List Nat} {tr tr' u0 u:T} (hi:P.info? t = some ti) (hsz:(ti.size == u.size && Nat.blt 0 ti.size) = true) (hx:opT E x = some (.addr r q)) (hr:E r = some tr) (hg:tr.get q.reverse = some u0) (hset:tr.set q.reverse u = tr') (hy:E s = some u) (hu:Clean u)
  (sd:(tr.single && tr.locd q.reverse && sameFl u u0 && (r != s) && u.okTup) = true):Ok P Γ ⟨none,.store t x (.tmp s),ty,ps,af,gd⟩ E (E.app ((r,some tr') :: sWr r q (.slot s u)) ((r,q.length) :: pChg [.slot s u])) :=
 x_stA hi hsz (fun _ => AdrOf.addr hx) hr hg hset hy hu sd
theorem x_stp {t:TypeId} {ti:TypeInfo} {r s:Nat} {q:List Nat} {tr tr' u0 u t0:T} (hi:P.info? t = some ti) (hsz:(ti.size == u.size && Nat.blt 0 ti.size) = true) (hx:locT E x = some (r,q,.ptr t0)) (hr:E r = some tr) (hg:tr.get (0 :: q).reverse = some u0) (hset:tr.set (0 :: q).reverse u = tr') (hy:E s = some u) (hu:Clean u)
  (sd:(tr.single && tr.locd (0 :: q).reverse && sameFl u u0 && (r != s) && u.okTup) = true):Ok P Γ ⟨none,.store t x (.tmp s),ty,ps,af,gd⟩ E (E.app ((r,some tr') :: sWr r (0 :: q) (.slot s u)) ((r,(0 :: q).length) :: pChg [.slot s u])) :=
 x_stA hi hsz (fun _ => AdrOf.ptr hx) hr hg hset hy hu sd
theorem x_stcA {t:TypeId} {ti:TypeInfo} {r:Nat} {q:List Nat} {tr tr' u0 u:T} {v:Value} (hi:P.info? t = some ti) (hsz:(ti.size == u.size && Nat.blt 0 ti.size) = true) (hx:∀ S,AdrOf (Γ.at S) E x r q) (hr:E r = some tr) (hg:tr.get q.reverse = some u0) (hset:tr.set q.reverse u = tr')
  (sd:(tr.single && tr.locd q.reverse && sameFl u u0 && u.zOk) = true) (hz:zvals u = v.cells.toList):Ok P Γ ⟨none,.store t x (.const v),ty,ps,af,gd⟩ E (E.app [(r,some tr')] [(r,q.length)]):=by
 simp only [Bool.and_eq_true] at sd hsz
 subst hset
 intro S
 have:=ok_storeA (P:=P) (Γ:=Γ.at S) (E:=E) (o:=⟨none,.store t x (.const v),ty,ps,af,gd⟩) t ti x (.const v) r q tr u0 (.zero u) rfl rfl hi (by grind[Part.tree]) (blt_lt hsz.2) (hx S) hr sd.1.1.1 hg sd.1.1.2 sd.1.2 (.zero v _ hz)
  ⟨by simp,by grind,by simp [pSlots]⟩
 exact this
theorem x_stcT {t:TypeId} {ti:TypeInfo} {r:Nat} {q:List Nat} {tr tr' u0 u:T} {v:Value} (hi:P.info? t = some ti) (hsz:(ti.size == u.size && Nat.blt 0 ti.size) = true) (hx:opT E x = some (.addr r q)) (hr:E r = some tr) (hg:tr.get q.reverse = some u0) (hset:tr.set q.reverse u = tr')
  (sd:(tr.single && tr.locd q.reverse && sameFl u u0 && u.zOk) = true) (hz:zvals u = v.cells.toList):Ok P Γ ⟨none,.store t x (.const v),ty,ps,af,gd⟩ E (E.app [(r,some tr')] [(r,q.length)]) :=
 by grind[x_stcA,AdrOf.addr]
theorem valsF_drop {G:Gh} {s:Nat}:(xs:List T) → okTups xs = true → ∀ (p:List Nat) (i j:Nat) (u:T),xs[j]? = some u → ∃ l1 l2,valsF G s xs p i = l1 ++ vals G s u ((i + j) :: p) ++ l2 ∧ l1.length = T.sizes (xs.take j)
 | [],_,_,_,_,_,h => by simp at h
 | x :: xs,ht,p,i,j,u,h => by
  simp only [okTups,Bool.and_eq_true] at ht
  cases j with
  | zero => simp at h;subst h;exact ⟨[],valsF G s xs p (i + 1),by rfl,by rfl⟩
  | succ j =>
   obtain ⟨l1,l2,h1,h2⟩:=valsF_drop xs ht.2 p (i + 1) j u (by grind)
   refine ⟨vals G s x (i :: p) ++ l1,l2,by rw [valsF,h1,show i + (j + 1) = i + 1 + j from by omega];simp,?_⟩
   rw [List.length_append,vals_length x _ (by rintro ys rfl;grind[T.okTup]),h2,List.take_succ_cons,T.sizes]
theorem x_fld {S:TypeId} {j off s:Nat} {xs:List T} {u:T} (ht:FldT P S j off) (hv:∃ ds ti fs f,P.underlying S = some (.struct fs) ∧ fs[j]? = some f ∧ P.underlying f.type = some ds ∧ P.info? f.type = some ti ∧ aggB ds = !u.single ∧ ti.size = u.size) (hx:E s = some (.agg xs)) (hu:xs[j]? = some u) (hoff:T.sizes (xs.take j) = off)
  (sd:(Nat.blt d Γ.N && okTups xs && u.okTup && (s != d) && T.okB [(d,0)] (cpT s u [j])) = true) :
  Ok P Γ ⟨some d,.field S (.tmp s) j,ty,ps,af,gd⟩ E (E.app [(d,some (cpT s u [j]))] [(d,0)]):=by
 obtain ⟨fs,f,fi,h1,h2,h3,h4,h5⟩:=ht.h
 obtain ⟨ds,ti,fs',f',g1,g2,g3,g4,g5,g6⟩:=hv
 simp only [Bool.and_eq_true] at sd
 rw [h1] at g1;simp at g1;subst g1
 rw [h2] at g2;simp at g2;subst g2
 rw [h3] at g4;simp at g4;subst g4
 intro S'
 refine OpOk.value rfl fun a w G hrep => ?_
 obtain ⟨k1,k2,_⟩:=hrep.ent s _ hx
 simp only [R] at k2
 have k3:=RF_get xs [] 0 j u k2 hu
 simp only [Nat.zero_add] at k3
 have hne:s ≠ d:=by grind
 have hnt:∀ ys,u ≠ .tup ys:=okTup_ne sd.1.1.2
 have hk:=G.put_keep (w:=w) (w':=w) rfl d (fun z => G.hd s (z ++ [j]))
 have hz:∀ z,(G.put d (fun z => G.hd s (z ++ [j]))).hd d (z ++ []) = G.hd s (z ++ [j]):=by grind[Gh.put_self]
 refine ⟨mkV1 G s u [j],w,?_,_,rep_put hrep rfl (blt_lt sd.1.1.1.1) (fun z => G.hd s (z ++ [j])) (fun z => hrep.mem.one _ _) _ _ (by grind[mkV_copy])
  (R_copy (fun p => G.put_other _ p hne) u [j] [] hz hnt (hk.keepR (by grind[okB_all,cpT_top])) k3) (cpT_top s u [j])⟩
 obtain ⟨l1,l2,e1,e2⟩:=valsF_drop (G:=G) (s:=s) xs sd.1.1.1.2 [] 0 j u hu
 simp only [Nat.zero_add] at e1
 have e3:l1.length = f.offset:=by omega
 have e4:=vals_length (G:=G) (s:=s) u [j] hnt
 have hpart:(part f.type (valsF G s xs [] 0).toArray f.offset).run P w = .ok (mkV1 G s u [j]) w:=by
  rw [e1]
  cases u with
  | agg ys =>
   simp [T.single] at g5
   simp only [vals,T.size] at e4 g6 ⊢
   simp [part,run_isAgg g3,g5,sizeOf,typeInfo,h3,mkV1]
   grind
  | tup ys => grind
  | _ =>
   simp [T.single] at g5
   simp [part,run_isAgg g3,g5,mkV1,vals,← e3]
 simp [execOp,eval_tmp k1,mkV,Instr.field,run_underlying h1,h2,asAgg,hpart]
theorem x_makeL {α:Type} {t e:TypeId} {ti:TypeInfo} {k:Nat} {u:T} {n:Nat} {a:Int} {f:α → T} {z:α} (ht:ElT P t e ti k u) (hz:f z = u) (hn:lenOk a = some n) (hx:opT E x = some (I a)) (hy:opT E y = some (I a)) (sd:Nat.blt d Γ.N = true) :
  Ok P Γ ⟨some d,.makeSlice t x y,ty,ps,af,gd⟩ E (E.app [(d,some (L k f (List.replicate n z)))] [(d,0)]):=by
 have:=x_make (P:=P) (Γ:=Γ) (E:=E) (d:=d) (ty:=ty) (ps:=ps) (af:=af) (gd:=gd) ht hn hx hn hy (Nat.le_refl _) sd
 rw [← hz] at this
 simpa [L] using this
theorem x_bs0 {t e:TypeId} {ti:TypeInfo} {k:Nat} {u:T} (ht:ElT P t e ti k u) (sd:Nat.blt d Γ.N = true):Ok P Γ ⟨some d,.buildSlice t 0 #[],ty,ps,af,gd⟩ E (E.app [(d,some (.sl k []))] [(d,0)]) :=
 fun _ => ok_buildSlice0 t e ti k rfl rfl (blt_lt sd) ht.un ht.info
theorem x_lenS {t:TypeId} {s:ByteArray} (hu:P.underlying t = some .string) (hx:opT E x = some (Str s)) (sd:Nat.blt d Γ.N = true) :
  Ok P Γ ⟨some d,.call { callee:=.builtin .len,args:=#[x],argTypes:=#[t] },ty,ps,af,gd⟩ E (E.app [(d,some (I s.size))] [(d,0)]):=by
 intro S
 refine ok_lit (.int .i64 s.size) rfl rfl (blt_lt sd) fun a w G hrep => ?_
 have h1:=(opd_lit hrep hx).1
 simp [execOp,resolve,invoke,builtin,h1,Builtin.len_,run_underlying hu,goInt]
theorem run_eqB {P:Program} {w:World} {t:TypeId} {a b:Bool} (n:Nat) (h:P.underlying t = some .bool):(Op.equalIn (n + 1) t (.bool a) (.bool b)).run P w = .ok (a == b) w:=by
 simp only [Op.equalIn,Sem.run_bind,run_underlying h];rfl
theorem eq_depth (t:TypeId) (x y:Value):Op.equal t x y = Op.equalIn (9999 + 1) t x y:=rfl
theorem x_neqB {a b:Bool} {xt yt:TypeId} (hu:P.underlying xt = some .bool) (hx:opT E x = some (B a)) (hy:opT E y = some (B b)) (sd:Nat.blt d Γ.N = true):Ok P Γ ⟨some d,.binOp .neq xt x y yt,ty,ps,af,gd⟩ E (E.app [(d,some (B (a != b)))] [(d,0)]):=by
 intro S
 refine ok_lit _ rfl rfl (blt_lt sd) fun c w G hrep => ?_
 have h1:=(opd_lit hrep hx).1
 have h2:=(opd_lit hrep hy).1
 have h3:=run_eqB (P:=P) (w:=w) (a:=a) (b:=b) 9999 hu
 simp [execOp,h1,h2,eqGuard,binOp,eq_depth,h3,bne]
theorem run_eqI {P:Program} {w:World} {t:TypeId} {k:IntKind} {a b:Int} (n:Nat) (h:P.underlying t = some (.int k)):(Op.equalIn (n + 1) t (.int k a) (.int k b)).run P w = .ok (a == b) w:=by
 simp only [Op.equalIn,Sem.run_bind,run_underlying h];simp
end
end Go.Ab

namespace Go.Ab
open Go
def nodupB:List Nat → Bool
 | [] => true
 | x :: xs => !xs.contains x && nodupB xs
theorem nodupB_ok:{l:List Nat} → nodupB l = true → l.Nodup
 | [],_ => by simp
 | x :: xs,h => by
  simp only [nodupB,Bool.and_eq_true,Bool.not_eq_true',List.contains_eq_mem,decide_eq_false_iff_not] at h
  exact List.nodup_cons.2 ⟨h.1,nodupB_ok h.2⟩
def PkOk (E:Env):List Part → Prop
 | [] => True
 | .slot s t :: l => (E s = some t ∧ Clean t ∧ t.okTup = true) ∧ PkOk E l
 | .zero u :: l => u.zOk = true ∧ PkOk E l
theorem PkOk.get {E:Env}:(l:List Part) → PkOk E l → (∀ s t,Part.slot s t ∈ l → E s = some t ∧ Clean t ∧ t.okTup = true) ∧ ∀ u,Part.zero u ∈ l → u.zOk = true
 | [],_ => ⟨fun _ _ h => by simp at h,fun _ h => by simp at h⟩
 | .slot s t :: l,h => by
  obtain ⟨h1,h2⟩:=PkOk.get l h.2
  exact ⟨fun s' t' hm => by
   rcases List.mem_cons.1 hm with e | hm
   ·cases e;exact h.1
   ·exact h1 s' t' hm,fun u hm => by
   rcases List.mem_cons.1 hm with e | hm
   ·cases e
   ·exact h2 u hm⟩
 | .zero u :: l,h => by
  obtain ⟨h1,h2⟩:=PkOk.get l h.2
  exact ⟨fun s' t' hm => by
   rcases List.mem_cons.1 hm with e | hm
   ·cases e
   ·exact h1 s' t' hm,fun u' hm => by
   rcases List.mem_cons.1 hm with e | hm
   ·cases e;exact h.1
   ·exact h2 u' hm⟩
section
variable {E:Env}
theorem pkN:PkOk E []:=trivial
theorem pkS {s:Nat} {t:T} {l:List Part} (h:E s = some t) (hc:Clean t) (h3:t.okTup = true) (hl:PkOk E l):PkOk E (.slot s t :: l):=⟨⟨h,hc,h3⟩,hl⟩
theorem pkZ {u:T} {l:List Part} (h:u.zOk = true) (hl:PkOk E l):PkOk E (.zero u :: l):=⟨h,hl⟩
theorem PkOk.parts {d:Nat} {l:List Part} (h:PkOk E l) (hn:nodupB (d :: pSlots l) = true):PartsOk E d l:=⟨(PkOk.get l h).1,(PkOk.get l h).2,nodupB_ok hn⟩
def BqOk (E:Env) (zs:List T) (ps:List Part):List (Nat × Operand) → List (Nat × Part) → Prop
 | [],[] => True
 | x :: xs,q :: qs => (x.1 = q.1 ∧ PartOf E x.2 q.2 ∧ ps[q.1]? = some q.2 ∧ ∃ u,zs[q.1]? = some u ∧ u.size = q.2.tree.size) ∧ BqOk E zs ps xs qs
 | _,_ => False
theorem bqN {zs:List T} {ps:List Part}:BqOk E zs ps [] []:=trivial
theorem bqC {zs:List T} {ps:List Part} {i:Nat} {x:Operand} {q:Part} {xs:List (Nat × Operand)} {qs:List (Nat × Part)} (h:PartOf E x q) (hl:BqOk E zs ps xs qs) (h1:ps[i]? = some q:=by rfl) (h2:∃ u,zs[i]? = some u ∧ u.size = q.tree.size:=by exact ⟨_,rfl,rfl⟩):BqOk E zs ps ((i,x) :: xs) ((i,q) :: qs):=⟨⟨rfl,h,h1,h2⟩,hl⟩
theorem BqOk.ix {zs:List T} {ps:List Part}:(pl:List (Nat × Operand)) → (qs:List (Nat × Part)) → BqOk E zs ps pl qs → pl.map (·.1) = qs.map (·.1)
 | [],[],_ => rfl
 | x :: xs,q :: qs,h => by simp [h.1.1,BqOk.ix xs qs h.2]
 | [],_ :: _,h => by simp [BqOk] at h
 | _ :: _,[],h => by simp [BqOk] at h
theorem BqOk.get {zs:List T} {ps:List Part}:(pl:List (Nat × Operand)) → (qs:List (Nat × Part)) → BqOk E zs ps pl qs → ∀ (j:Nat) (x:Nat × Operand) (q:Nat × Part),pl[j]? = some x → qs[j]? = some q → PartOf E x.2 q.2 ∧ q.2 ∈ ps ∧ ∃ u,zs[q.1]? = some u ∧ u.size = q.2.tree.size
 | [],[],_,j,_,_,h,_ => by simp at h
 | x :: xs,q :: qs,h,j,x',q',h1,h2 => by
  cases j with
  | zero => simp at h1 h2;subst h1;subst h2;exact ⟨h.1.2.1,List.mem_of_getElem? h.1.2.2.1,h.1.2.2.2⟩
  | succ j => exact BqOk.get xs qs h.2 j x' q' (by simpa using h1) (by simpa using h2)
 | [],_ :: _,h,_,_,_,_,_ => by simp [BqOk] at h
 | _ :: _,[],h,_,_,_,_,_ => by simp [BqOk] at h
end
class BldT (P:Program) (t:TypeId) (zs:outParam (List T)):Prop where
 h:∃ (place:Nat → Option (Nat × Nat)) (z:Value),(∀ parts,P.built t parts = Instr.fill place z.cells parts) ∧ zvalsF zs = z.cells.toList ∧ zOks zs = true ∧ ∀ i u,zs[i]? = some u → place i = some (T.sizes (zs.take i),u.size)
section
variable {P:Program} {Γ:Ctx} {E E':Env} {d:Nat} {x y:Operand} {ty:TypeId} {ps:String} {af:Array Edge} {gd:Option (Nat × Bool)}
theorem x_build {t:TypeId} {zs:List T} {pa:Array (Nat × Operand)} (hb:BldT P t zs) (pl:List (Nat × Operand)) (qs:List (Nat × Part)) (pp:List Part) (hok:PkOk E pp) (hq:BqOk E zs pp pl qs) (sd:(Nat.blt d Γ.N && nodupB (d :: pSlots pp)) = true)
  (hpa:pa = pl.toArray:=by rfl) (hps:qs.foldl (fun ps q => ps.set q.1 q.2) (zs.map Part.zero) = pp:=by rfl):Ok P Γ ⟨some d,.build t pa,ty,ps,af,gd⟩ E (E.app ((d,some (.agg (pp.map Part.tree))) :: pWr d pp 0) ((d,0) :: pChg pp)):=by
 obtain ⟨place,z,h1,h2,h3,h4⟩:=hb.h
 simp only [Bool.and_eq_true] at sd
 subst hpa
 exact fun S => ok_build t place z zs pl qs pp rfl rfl (blt_lt sd.1) h1 h2 h3 h4 hps (hok.parts sd.2) (BqOk.ix _ _ hq) (BqOk.get _ _ hq)
def szAll (k:Nat):List Part → Bool
 | [] => true
 | p :: l => (p.tree.size == k) && szAll k l
theorem szAll_ok {k:Nat}:(l:List Part) → szAll k l = true → ∀ p ∈ l,p.tree.size = k
 | [],_,_,h => by simp at h
 | p :: l,h,q,hm => by
  simp only [szAll,Bool.and_eq_true,beq_iff_eq] at h
  rcases List.mem_cons.1 hm with rfl | hm
  ·exact h.1
  ·exact szAll_ok l h.2 q hm
theorem x_bs {α:Type} {t e:TypeId} {ti:TypeInfo} {k n:Nat} {u:T} {pa:Array (Nat × Operand)} (ht:ElT P t e ti k u) (xs:List Operand) (pp:List Part) (ys:List α) (f:α → T) (hx:PartsOf E xs pp) (hok:PkOk E pp)
  (sd:(Nat.blt d Γ.N && nodupB (d :: pSlots pp) && szAll k pp && Nat.blt 0 n && Nat.ble (n * k) 65536) = true) (hn:xs.length = n) (hpa:pa = ((xs.zipIdx 0).map fun x => (x.2,x.1)).toArray:=by rfl) (hy:pp.map Part.tree = ys.map f:=by rfl) :
  Ok P Γ ⟨some d,.buildSlice t n pa,ty,ps,af,gd⟩ E (E.app ((d,some (L k f ys)) :: pWr d pp 0) ((d,0) :: pChg pp)):=by
 obtain ⟨z,hz,_⟩:=ht.zero
 simp only [Bool.and_eq_true] at sd
 subst hpa
 intro S
 have hle:n * k ≤ 65536:=by simpa [Nat.ble_eq] using sd.2
 have:=ok_buildSlice (P:=P) (Γ:=Γ.at S) (E:=E) (o:=⟨some d,.buildSlice t n ((xs.zipIdx 0).map fun x => (x.2,x.1)).toArray,ty,ps,af,gd⟩) t e ti z k n xs pp rfl rfl (blt_lt sd.1.1.1.1) ht.un ht.info hz ht.size ht.pos hn (blt_lt sd.1.2) (by omega) hx (hok.parts sd.1.1.1.2) (szAll_ok pp sd.1.1.2)
 rw [hy] at this
 exact this
theorem roTs_map {α:Type} {f g:α → T} (h:∀ y,roT (g y) = f y):(ys:List α) → roT.roTs (ys.map g) = ys.map f
 | [] => rfl
 | y :: ys => by simp only [List.map_cons,roT.roTs,h y,roTs_map h ys]
theorem x_appr {α:Type} {t e:TypeId} {ti:TypeInfo} {k r:Nat} {q:List Nat} {u:T} {f g:α → T} {xs ys zs:List α} {s0:Nat} (ht:ElT P t e ti k u) (hfg:∀ y,roT (g y) = f y) (hsz:∀ y,(g y).size = k) (hg:Enc g) (hv:appO xs ys = some zs) (h0:E s0 = some (L k f xs)) (h1:locT E y = some (r,q,.ro (L k g ys))) (sd:(Nat.blt d Γ.N && (s0 != d)) = true) :
  Ok P Γ ⟨some d,.call { callee:=.builtin .append,args:=#[.tmp s0,y],argTypes:=#[t,t] },ty,ps,af,gd⟩ E (E.app [(d,some (L k f zs)),(s0,some .any)] [(d,0),(s0,1)]):=by
 obtain ⟨rfl,hl⟩:=appO_some hv
 obtain ⟨z,hz,hzk⟩:=ht.zsize
 simp only [Bool.and_eq_true] at sd
 intro S
 have:=ok_append_ro (P:=P) (Γ:=Γ.at S) (E:=E) (o:=⟨some d,.call { callee:=.builtin .append,args:=#[.tmp s0,y],argTypes:=#[t,t] },ty,ps,af,gd⟩) t e ti z k s0 y r q (xs.map f) (ys.map g) rfl rfl (blt_lt sd.1) ht.un ht.info hz ht.size ht.pos hzk ht.bytes h0 h1 (rooks_of hg.rook ys)
  (by intro v hv;obtain ⟨y,_,rfl⟩:=List.mem_map.1 hv;exact hsz y) (by simpa using sd.2) (by simpa using hl)
 rw [roTs_map hfg,← List.map_append] at this
 exact this
def appzO {α:Type} (xs:List α) (m:Int) (z:α):Option (List α):=if 0 ≤ m ∧ xs.length + m.toNat ≤ 68719476736 then some (xs ++ List.replicate m.toNat z) else none
theorem x_appz {α:Type} {t t2 e:TypeId} {k2:IntKind} {ti:TypeInfo} {k:Nat} {u:T} {f:α → T} {z:α} {xs zs:List α} {s0:Nat} {m:Int} (ht:ElT P t e ti k u) (ht2:P.underlying t2 = some (.int k2)) (hz:f z = u) (hv:appzO xs m z = some zs) (h0:E s0 = some (L k f xs)) (h1:opT E y = some (I m)) (sd:(Nat.blt d Γ.N && (s0 != d)) = true) :
  Ok P Γ ⟨some d,.call { callee:=.builtin .append,args:=#[.tmp s0,y],argTypes:=#[t,t2] },ty,ps,af,gd⟩ E (E.app [(d,some (L k f zs)),(s0,some .any)] [(d,0),(s0,1)]):=by
 unfold appzO at hv
 split at hv
 ·rename_i hc
  simp at hv;subst hv
  obtain ⟨zv,hz1,hz2⟩:=ht.zero
  simp only [Bool.and_eq_true] at sd
  obtain ⟨n,rfl⟩:∃ n:Nat,m = n:=⟨m.toNat,by omega⟩
  intro S
  have:=ok_append_zero (P:=P) (Γ:=Γ.at S) (E:=E) (o:=⟨some d,.call { callee:=.builtin .append,args:=#[.tmp s0,y],argTypes:=#[t,t2] },ty,ps,af,gd⟩) t t2 e k2 ti zv u k s0 y .i64 n (xs.map f) rfl rfl (blt_lt sd.1) ht.un ht2 ht.info hz1 ht.size ht.pos ht.bytes ht.zok hz2 ht.us h0 h1
   (by simpa using sd.2) (by simp at hc ⊢;omega)
  have e:xs.map f ++ List.replicate n u = (xs ++ List.replicate n z).map f:=by simp [hz]
  rw [e] at this
  have h2:((n:Int)).toNat = n:=by simp
  rw [h2]
  exact this
 ·cases hv
end
section
variable {Γ:Ctx} {E:Env}
theorem Ghost.trq (d r:Nat) (q:List Nat) {tr u tr':T} (hd:E d = some (.same r q)) (hr:E r = some tr) (hg:tr.get q.reverse = some u) (huc:Clean u) (sd:(u.single && okTups1 tr && tr.okB [(d,1),(r,q.length + 1)] && (d != r)) = true) (hset:(if q = [] then .same d [] else tr.set q.reverse .any) = tr':=by rfl) :
  Ghost Γ E (E.app [(d,some u),(r,some tr')] [(d,1),(r,q.length + 1)]):=by
 simp only [Bool.and_eq_true] at sd
 rintro a w ⟨S,hS,hs⟩
 have hne:d ≠ r:=by simpa using sd.2
 have:=sim_tr hs d [] r q (.same r q) tr u hd rfl hr hg sd.1.1.1 huc hne (by simp [T.okB,refOk,hne]) sd.1.2 rfl sd.1.1.2
 subst hset
 exact ⟨S,hS,this⟩
theorem Ghost.trf (d:Nat) (g:List Nat) (r:Nat) (q:List Nat) (td tr:T) {u td' tr':T} (hd:E d = some td) (hgd:td.get g.reverse = some (.same r q)) (hr:E r = some tr) (hg:tr.get q.reverse = some u) (hset:td.set g.reverse u = td') (huc:Clean u)
  (sd:(u.single && okTups1 td && okTups1 tr && td.okB [(d,g.length + 1),(r,q.length + 1)] && tr.okB [(d,g.length + 1),(r,q.length + 1)] && (d != r)) = true) (hset2:(if q = [] then .same d g else tr.set q.reverse .any) = tr':=by rfl) :
  Ghost Γ E (E.app [(d,some td'),(r,some tr')] [(d,g.length + 1),(r,q.length + 1)]):=by
 simp only [Bool.and_eq_true] at sd
 rintro a w ⟨S,hS,hs⟩
 have hne:d ≠ r:=by simpa using sd.2
 have:=sim_tr hs d g r q td tr u hd hgd hr hg sd.1.1.1.1.1 huc hne sd.1.1.2 sd.1.2 sd.1.1.1.1.2 sd.1.1.1.2
 subst hset hset2
 exact ⟨S,hS,this⟩
theorem Ghost.frz {α:Type} (s:Nat) {k:Nat} {f g:α → T} (xs:List α) (hs:E s = some (L k f xs)) (h:StripTo f g):Ghost Γ E (E.app [(s,some (.ro (L k g xs)))] [(s,1)]):=by
 have:=Ghost.freeze (Γ:=Γ) s _ hs
 simp only [frzT,strip,strips_of h.h xs] at this
 exact this
theorem Ghost.res (d r:Nat) (q:List Nat) (tr:T) {u:T} (hd:E d = some (.same r q)) (hr:E r = some tr) (hg:tr.get q.reverse = some (.ro u)):Ghost Γ E (E.app [(d,some (.ro u))] []):=by
 rintro a w ⟨S,hS,hdf,G,hrep⟩
 refine ⟨S,hS,hdf,G,?_⟩
 have hk:Keep [] G w G w:=⟨fun _ _ _ => rfl,fun _ _ _ => rfl,fun _ _ _ _ _ _ h _ => ⟨h,rfl⟩,fun _ _ _ h _ => h,fun b cs e h => ⟨cs,h,rfl⟩,by intros;assumption⟩
 refine rep_step hrep rfl hk hrep.mem (fun s _ => ⟨fun n hn => by simp at hn,rfl⟩) fun s t hs => ?_
 simp only [Wr.find] at hs
 split at hs
 ·rename_i e;subst e
  simp at hs;subst hs
  obtain ⟨h1,h2,_⟩:=hrep.ent d _ hd
  obtain ⟨_,h4,_⟩:=hrep.ent r _ hr
  simp only [R] at h2
  have h5:=(R_get q.reverse tr _ [] h4 hg).1
  simp only [rp,List.reverse_reverse,List.append_nil,R] at h5
  exact ⟨by rw [h1];rfl,by simp only [R];rw [h2];exact h5,by simp [Top]⟩
 ·cases hs
end
theorem get_set:(p:List Nat) → ∀ (t u0 a:T),t.get p = some u0 → (t.set p a).get p = some a
 | [],t,_,a,_ => by cases t <;> cases a <;> rfl
 | i :: p,t,u0,a,h => by
  cases t with
  | sl k xs | agg xs | tup xs =>
   simp only [T.get,T.set] at h ⊢
   cases hx:xs[i]? with
   | none => rw [hx] at h;cases h
   | some x =>
    rw [hx] at h
    have hi:=(List.getElem?_eq_some_iff.1 hx).1
    simp only []
    simp only [T.get,List.getElem?_set_self hi]
    exact get_set p x u0 a h
  | ptr t =>
   simp only [T.get,T.set] at h ⊢
   split at h
   ·rename_i e;subst e;simp only [if_true,T.get];exact get_set p t u0 a h
   ·cases h
  | _ => simp [T.get] at h
theorem set_set:(p:List Nat) → ∀ (t u0 a b:T),t.get p = some u0 → (t.set p a).set p b = t.set p b
 | [],t,_,a,_,_ => by cases t <;> cases a <;> rfl
 | i :: p,t,u0,a,b,h => by
  cases t with
  | sl k xs | agg xs | tup xs =>
   simp only [T.get,T.set] at h ⊢
   cases hx:xs[i]? with
   | none => rw [hx] at h;cases h
   | some x =>
    rw [hx] at h
    have hi:=(List.getElem?_eq_some_iff.1 hx).1
    simp only []
    simp only [T.set,List.getElem?_set_self hi,List.set_set,set_set p x u0 a b h]
  | ptr t =>
   simp only [T.get,T.set] at h ⊢
   split at h
   ·rename_i e;subst e;simp only [if_true,T.set,set_set p t u0 a b h]
   ·cases h
  | _ => simp [T.get] at h
def isSP:T → Bool
 | .sl _ _ | .ptr _ => true
 | _ => false
theorem isSP_set {t:T} (h:isSP t = true) (p:List Nat) {u:T} (hp:p ≠ []):isSP (t.set p u) = true:=by
 cases p with
 | nil => exact absurd rfl hp
 | cons i p => cases t <;> simp [isSP] at h <;> simp only [T.set] <;> split <;> rfl
theorem isSP_ok {t:T} (h:isSP t = true) (chg:Chg):t.okB chg = true ∧ okTups1 t = true ∧ t.single = true:=by
 cases t <;> simp [isSP] at h <;> simp [T.okB,okTups1,T.single]
section
variable {P:Program} {Γ:Ctx} {E E':Env} {d:Nat} {ty:TypeId} {ps:String} {af:Array Edge} {gd:Option (Nat × Bool)}
theorem agM {E:Env} {rw:Rw} {i:Nat} {x:Operand} {u:T} (t:T) (h:opT E x = some t) (h1:clo E t = u) (h2:argCl E (rw.map (·.2.1)) x t = true):ArgOk E rw i x u:=.inr ⟨t,h,h1,h2⟩
theorem agLd {E:Env} {rw:Rw} {i s:Nat} {u u':T} (h:E s = some u) (hc:Clean u) (hr:roFree u = true) (hs:u.okTup = true:=by rfl) (hm:(i,s,u') ∈ rw:=by exact List.mem_singleton.2 rfl):ArgOk E rw i (.tmp s) u:=.inl ⟨s,u',rfl,hm,h,hc,hs,hr⟩
abbrev lendE (E:Env) (ds r:Nat) (q:List Nat) (tr u:T):Env:=E.app [(ds,some u),(r,some (if q = [] then .same ds [] else tr.set q.reverse .any))] [(ds,1),(r,q.length + 1)]
theorem x_callM {f:FuncId} {xs:List Operand} {ats:Array TypeId} {us res:List T} {tr u u' tr':T} (i ds r:Nat) (q:List Nat) (hcall:CallsF P f) (hc:FnC P f us res [(i,u')]) (hs:E ds = some (.same r q)) (hr:E r = some tr) (hq:tr.get q.reverse = some u)
  (huc:Clean u) (huc':Clean u') (_:roFree u = true) (hrf':roFree u' = true) (hargs:ArgsOk (lendE E ds r q tr u) [(i,ds,u')] 0 xs us) (hres:ResOk res) (hset:tr.set q.reverse u' = tr')
  (sd:(Nat.blt d Γ.N && (d != ds) && (d != r) && (ds != r) && isSP u && isSP u' && isSP tr) = true) (hx:xs[i]? = some (.tmp ds)) (hu:us[i]? = some u) :
  Ok P Γ ⟨some d,.call { callee:=.value (.func f),args:=xs.toArray,argTypes:=ats },ty,ps,af,gd⟩ E ((((lendE E ds r q tr u).app (cWr d res [(i,ds,u')]) (cChg d [(i,ds,u')]))).app [(r,some tr'),(ds,some (.same r q))] [(r,q.length + 1),(ds,1)]):=by
 simp only [Bool.and_eq_true] at sd
 obtain ⟨⟨⟨⟨⟨⟨s1,s2⟩,s3⟩,s4⟩,s5⟩,s6⟩,s7⟩:=sd
 have d1:d ≠ ds:=by simpa using s2
 have d2:d ≠ r:=by simpa using s3
 have d3:ds ≠ r:=by simpa using s4
 obtain ⟨u1,u2,u3⟩:=isSP_ok s5 []
 obtain ⟨v1,v2,v3⟩:=isSP_ok s6 []
 have hlv:cLv u' = 1:=by simp [cLv,v3]
 subst hset
 intro S
 by_cases hq0:q = []
 ·subst hq0
  have htu:tr = u:=by
   have:tr.get [] = some tr:=by cases tr <;> rfl
   simp only [List.reverse_nil] at hq;rw [this] at hq;exact Option.some.inj hq
  subst htu
  have hset0:∀ a b:T,a.set [] b = b:=fun a b => by cases a <;> rfl
  have hE1:(lendE E ds r [] tr tr) ds = some tr:=by simp [lendE,Env.app,Wr.find]
  have hE2r:((lendE E ds r [] tr tr).app (cWr d res [(i,ds,u')]) (cChg d [(i,ds,u')])) r = some (.same ds []):=by
   have h1:(lendE E ds r [] tr tr) r = some (.same ds []):=by simp [lendE,Env.app,Wr.find,d3]
   have h2:(cWr d res [(i,ds,u')]).find r = none:=by simp [cWr,Wr.find,d2,d3]
   have h3:(T.same ds []).okB (cChg d [(i,ds,u')]) = true:=by simp [T.okB,refOk,cChg,d1,hlv]
   simp only [Env.app,h2,h1,h3,if_true]
  have hE2d:((lendE E ds r [] tr tr).app (cWr d res [(i,ds,u')]) (cChg d [(i,ds,u')])) ds = some u':=by
   simp [Env.app,Wr.find,cWr,d1]
  have:=ok_callP (P:=P) (Γ:=Γ.at S) (E:=E) (o:=⟨some d,.call { callee:=.value (.func f),args:=xs.toArray,argTypes:=ats },ty,ps,af,gd⟩) f (.func f) xs ats us res i ds r [] tr tr u' rfl rfl (blt_lt s1) hcall rfl hs hr hq u3 huc d3 d2 (isSP_ok s7 _).1 (isSP_ok s7 []).2.1
   (lendE E ds r [] tr tr) _ rfl rfl hc hargs (.one d1 hx huc' v3 hrf' hE1 u3 hu) hres (.same ds []) (.same ds []) hE2r rfl rfl hE2d huc' v3 (by simp [T.okB,refOk]) rfl (isSP_ok s6 _).1 v2
  rw [List.reverse_nil,hset0] at this ⊢
  exact this
 ·have hqr:q.reverse ≠ []:=by simpa using hq0
  have hE1:(lendE E ds r q tr u) ds = some u:=by simp [lendE,Env.app,Wr.find]
  have hSP:=isSP_set s7 q.reverse (u:=.any) hqr
  have hE2r:((lendE E ds r q tr u).app (cWr d res [(i,ds,u')]) (cChg d [(i,ds,u')])) r = some (tr.set q.reverse .any):=by
   have h1:(lendE E ds r q tr u) r = some (tr.set q.reverse .any):=by simp [lendE,Env.app,Wr.find,d3,hq0]
   have h2:(cWr d res [(i,ds,u')]).find r = none:=by simp [cWr,Wr.find,d2,d3]
   simp [Env.app,h2,h1,(isSP_ok hSP _).1]
  have hE2d:((lendE E ds r q tr u).app (cWr d res [(i,ds,u')]) (cChg d [(i,ds,u')])) ds = some u':=by
   simp [Env.app,Wr.find,cWr,d1]
  have:=ok_callP (P:=P) (Γ:=Γ.at S) (E:=E) (o:=⟨some d,.call { callee:=.value (.func f),args:=xs.toArray,argTypes:=ats },ty,ps,af,gd⟩) f (.func f) xs ats us res i ds r q tr u u' rfl rfl (blt_lt s1) hcall rfl hs hr hq u3 huc d3 d2 (isSP_ok s7 _).1 (isSP_ok s7 []).2.1
   (lendE E ds r q tr u) _ rfl rfl hc hargs (.one d1 hx huc' v3 hrf' hE1 u3 hu) hres (tr.set q.reverse .any) .any hE2r (get_set _ _ _ _ hq) rfl hE2d huc' v3 (isSP_ok hSP _).1 (isSP_ok hSP []).2.1 (isSP_ok s6 _).1 v2
  rw [set_set _ _ _ _ _ hq] at this
  exact this
def AfOk (E:Env):List Operand → List T → Prop
 | [],[] => True
 | x :: xs,u :: us => (opT E x = some u ∧ u.flat = true) ∧ AfOk E xs us
 | _,_ => False
theorem afN:AfOk E [] []:=trivial
theorem afC {x:Operand} {xs:List Operand} {u:T} {us:List T} (h:opT E x = some u) (h1:u.flat = true) (h2:AfOk E xs us):AfOk E (x :: xs) (u :: us):=⟨⟨h,h1⟩,h2⟩
theorem AfOk.get:(xs:List Operand) → (us:List T) → AfOk E xs us → ∀ (i:Nat) u,us[i]? = some u → ∃ x,xs[i]? = some x ∧ opT E x = some u ∧ u.flat = true
 | [],[],_,i,u,h => by simp at h
 | x :: xs,v :: us,h,i,u,hi => by
  cases i with
  | zero => simp at hi;subst hi;exact ⟨x,by simp,h.1⟩
  | succ i => obtain ⟨y,h1,h2⟩:=AfOk.get xs us h.2 i u (by simpa using hi);exact ⟨y,by simpa using h1,h2⟩
 | [],_ :: _,h,_,_,_ => by simp [AfOk] at h
 | _ :: _,[],h,_,_,_ => by simp [AfOk] at h
theorem x_callF {f:FuncId} {xs:List Operand} {ats:Array TypeId} {us res:List T} (hcall:CallsF P f) (hc:FnC P f us res []) (ha:AfOk E xs us) (hlen:xs.length = us.length) (hres:Cleans res) (hres2:okTups res = true) (sd:Nat.blt d Γ.N = true) :
  Ok P Γ ⟨some d,.call { callee:=.value (.func f),args:=xs.toArray,argTypes:=ats },ty,ps,af,gd⟩ E (E.app (cWr d res []) (cChg d [])) :=
 x_callB hcall hc hlen (AfOk.get _ _ ha) ⟨hres,hres2⟩ sd
end
noncomputable def fuelO {α:Type} (g:Nat → Option α):Option α :=
 open Classical in if h:∃ r,∃ n,∀ m,n ≤ m → g m = some r then some h.choose else none
theorem fuelO_some {α:Type} {g:Nat → Option α} {r:α} (h:fuelO g = some r):∃ n,g n = some r:=by
 unfold fuelO at h
 split at h
 ·rename_i he
  simp at h
  obtain ⟨n,hn⟩:=he.choose_spec
  exact ⟨n,by rw [← h];exact hn n (Nat.le_refl _)⟩
 ·cases h
theorem fuelO_of {α:Type} {g:Nat → Option α} {r:α} (n:Nat) (h:∀ m,n ≤ m → g m = some r):fuelO g = some r:=by
 have he:∃ r,∃ n,∀ m,n ≤ m → g m = some r:=⟨r,n,h⟩
 unfold fuelO
 rw [dif_pos he]
 obtain ⟨n',hn'⟩:=he.choose_spec
 have h1:=h (max n n') (by omega)
 have h2:=hn' (max n n') (by omega)
 rw [h1] at h2
 exact h2.symm
end Go.Ab

namespace Go.Ab
open Go
section
variable {P:Program} {Γ:Ctx} {ops:Array Oper} {o:Oper} {E:Env}
theorem IxOk.skipW {d:Nat} (hd:o.dst = some d) (sd:Nat.blt d Γ.N = true) (hw:∀ (a:Act) (w:World),Sim2 Γ E a w → Region.wanted o (yielded ops a.tmps) = false):IxOk P Γ ops o E (E.app [(d,some (.tup []))] [(d,0)]):=by
 intro a w K Q hs hK
 rw [if_neg (by grind)]
 obtain ⟨S,hS,hdf,G,hrep⟩:=hs
 refine hK _ _ ⟨S,hS,by rw [hd];exact hdf,G.put d (fun _ => .bool false),?_⟩ ?_
 ·rw [hd]
  have hu:(Value.bool false).oneCell' = true:=rfl
  refine rep_step hrep (by simp [Act.put]) (G.put_keep rfl d _) (hrep.mem.put rfl d _ fun _ => hu) ?_ ?_
  ·grind[find_one,Act.put]
  ·intro s t' hs
   rw [find_one] at hs
   split at hs
   ·rename_i e;subst e
    simp at hs;subst hs
    have hsz:=hrep.size
    have hlt:=blt_lt sd
    refine ⟨?_,by simp [R,RF],by simp [Top,Tops]⟩
    grind[Act.put,mkV,tupF,undef]
   ·cases hs
 grind[Act.put]
theorem IxOk.skip2 {d:Nat} (g:Nat) (b b':Bool) (s:Nat) (hd:o.dst = some d) (sd:Nat.blt d Γ.N = true) (hbb:(b == b') = false) (hg:o.guard = some (g,b)) (hgo:(ops[g]?).bind (·.dst) = some s) (hb:E s = some (.lit (.bool b'))) :
  IxOk P Γ ops o E (E.app [(d,some (.tup []))] [(d,0)]):=.skipW hd sd fun a w hs => by
 simp only [Region.wanted,hg,yielded_of hs hgo hb]
 grind
theorem IxOk.skip3 {d:Nat} (g:Nat) (b:Bool) (s:Nat) (hd:o.dst = some d) (sd:Nat.blt d Γ.N = true) (hg:o.guard = some (g,b)) (hgo:(ops[g]?).bind (·.dst) = some s) (hb:E s = some (.tup [])) :
  IxOk P Γ ops o E (E.app [(d,some (.tup []))] [(d,0)]):=.skipW hd sd fun a w hs => by
 obtain ⟨_,_,_,G,hr⟩:=hs
 obtain ⟨h1,_,_⟩:=hr.ent s _ hb
 grind[Region.wanted,yielded,mkV]
theorem IxOk.opE {E1 E':Env} (h:Ok P Γ o E E1) (e:E1 = E') (hg:o.guard = none:=by rfl):IxOk P Γ ops o E E':=e ▸ IxOk.op h hg
theorem IxOk.guardE {E1 E':Env} (g:Nat) (b:Bool) (s:Nat) (h:Ok P Γ o E E1) (hg:o.guard = some (g,b)) (hgo:(ops[g]?).bind (·.dst) = some s) (hb:E s = some (.lit (.bool b))) (e:E1 = E'):IxOk P Γ ops o E E':=e ▸ IxOk.guard g b s h hg hgo hb
end
def RetG (Γ:Ctx) (P:Program) (rs:Array ResultVar) (us res:List T) (rws:List (Nat × T)):Exit → Env → Prop:=fun e E => ∃ E',Ghost Γ E E' ∧ RetQ P rs us res rws e E'
theorem FnC.of_bodyG {P:Program} {f:FuncId} {fn:Func} {c:Code} {us res:List T} {rws:List (Nat × T)} (hf:P.funcs[f]? = some fn) (hb:fn.body = some c) (hn:us.length ≤ fn.ntmps) (ht:Tops us) (hr:rws.all (fun x => decide (x.1 < us.length)) = true)
  (h:∀ (Γ:Ctx) (v:Nat → Value),Γ.N = fn.ntmps → CW P Γ (pinsOf v (rws.map (·.1))) c (envL (argE 0 us)) (RetG Γ P fn.results us res rws)):FnC P f us res rws:=by
 refine FnC.of_body hf hb hn ht hr fun Γ v hN => ?_
 intro a w Q' hs hp hQ
 refine h Γ v hN a w Q' hs hp ?_
 rintro e E a' w' ⟨E',hg,hq⟩ hs' hp'
 exact hQ e E' a' w' hq (hg a' w' hs') hp'
def EncT (t:T):Prop:=Clean t ∧ roFree t = true ∧ strip t = t ∧ t.okTup = true ∧ RoOk t = true
def EncTs:List T → Prop
 | [] => True
 | x :: xs => EncT x ∧ EncTs xs
theorem Enc.t {α:Type} {f:α → T} (h:Enc f) (x:α):EncT (f x):=⟨h.clean x,h.rofree x,h.strip x,h.okTup x,h.rook x⟩
theorem Enc.of {α:Type} {f:α → T} (h:∀ x,EncT (f x)):Enc f:=⟨fun x => (h x).1,fun x => (h x).2.1,fun x => (h x).2.2.1,fun x => (h x).2.2.2.1,fun x => (h x).2.2.2.2⟩
theorem encA {xs:List T} (h:EncTs xs):EncT (.agg xs):=by
 have key:∀ xs:List T,EncTs xs → Cleans xs ∧ roFrees xs = true ∧ strips xs = xs ∧ okTups xs = true ∧ RoOks xs = true:=by
  intro xs
  induction xs with
  | nil => intro _;exact ⟨trivial,rfl,rfl,rfl,rfl⟩
  | cons x xs ih =>
   rintro ⟨⟨h1,h2,h3,h4,h5⟩,h⟩
   obtain ⟨g1,g2,g3,g4,g5⟩:=ih h
   exact ⟨⟨h1,g1⟩,by grind[roFrees],by grind[strips],by grind[okTups],by grind[RoOks]⟩
 obtain ⟨g1,g2,g3,g4,g5⟩:=key xs h
 exact ⟨cleanA g1,by grind[roFree],by grind[strip],by grind[T.okTup],by grind[RoOk]⟩
end Go.Ab

namespace Go.Ab
open Go
section
variable {Γ:Ctx} {E:Env} {d:Nat}
def Gh.cut (G:Gh) (d s0 b lo hi:Nat) (v:Value):Gh where
 hd s z:=if s = d then (if z = [] then v else G.hd s0 z) else G.hd s z
 ad s z:=if s = d then G.ad s0 z else G.ad s z
 lb b' o:=if b' = b ∧ lo ≤ o ∧ o < hi then some (true,d,[]) else match G.lb b' o with
  | some (f,s,z) => if s = s0 then some (f,d,z) else some (f,s,z)
  | none => none
 ow b':=match G.ow b' with
  | some (s,z) => if s = s0 then some (d,z) else some (s,z)
  | none => none
theorem rep_cut {G:Gh} {tmps:Array Value} {w:World} (hrep:Rep Γ E G tmps w) (hd:d < Γ.N) {s0 k h cap':Nat} {xs:List T} (hs0:E s0 = some (.sl k xs)) (hne:s0 ≠ d) (hk:0 < k)
  {b o0 cap:Nat} {cs:Array Value} {e:TypeId} (h1:G.hd s0 [] = .slice (some ⟨b,o0,none⟩) xs.length cap) (h2:w.heap[b]? = some (.cells cs e (0,0))) (_h3:xs.length ≤ cap) (h4:cap ≤ maxLen) (h5:o0 + cap * k ≤ cs.size) (h6:G.ow b = some (s0,[]))
  (h7:∀ o,o0 + xs.length * k ≤ o → o < o0 + cap * k → G.lb b o = some (true,s0,[])) (h8:RL Γ.St G w s0 xs [] 0 b o0 k) (hh:h ≤ xs.length) (hc:h ≤ cap') (hc2:cap' ≤ cap) :
  ∃ G',Rep Γ (E.app [(d,some (.sl k (xs.take h))),(s0,some .any)] [(d,0),(s0,1)]) G' (tmps.setIfInBounds d (.slice (some ⟨b,o0,none⟩) h cap')) w:=by
 have hm:=hrep.mem
 obtain ⟨e1,_,e3⟩:=hrep.ent s0 _ hs0
 let v:Value:=.slice (some ⟨b,o0,none⟩) h cap'
 let G':=G.cut d s0 b (o0 + h * k) (o0 + cap' * k) v
 have hblk:=hm.ow b _ h6
 have hgone:∀ o f z i,o0 + h * k ≤ o → o < o0 + cap' * k → G.lb b o = some (f,s0,z ++ [i]) → h ≤ i:=by
  intro o f z i ho1 ho2 hl
  obtain ⟨o,rfl⟩:∃ o',o = o0 + o':=⟨o - o0,by have:o0 ≤ o0 + h * k:=Nat.le_add_right _ _;omega⟩
  replace ho1:h * k ≤ o:=by omega
  by_cases ho:o < xs.length * k
  ·have hj:o / k < xs.length:=(Nat.div_lt_iff_lt_mul hk).2 ho
   obtain ⟨g1,g2,_⟩:=RL_get xs [] 0 b o0 k (o / k) xs[o / k] h8 (by simp [hj])
   obtain ⟨y,hy⟩:=Loc_lb xs[o / k] _ b _ (o % k) g1 (by rw [g2];exact Nat.mod_lt _ hk)
   rw [Nat.zero_add,Nat.add_assoc,Nat.mul_comm,Nat.div_add_mod,hl] at hy
   simp only [Option.some.injEq,Prod.mk.injEq] at hy
   have:=hy.2.2
   have hi:i = o / k:=by
    have:=congrArg List.getLast? this
    simpa using this
   rw [hi]
   exact (Nat.le_div_iff_mul_le hk).2 ho1
  ·have:=h7 (o0 + o) (by omega) (by have:=Nat.mul_le_mul_right k hc2;omega)
   rw [hl] at this
   simp at this
 have glb:∀ b' o f z,G.lb b' o = some (f,s0,z) → ¬ (b' = b ∧ o0 + h * k ≤ o ∧ o < o0 + cap' * k) → G'.lb b' o = some (f,d,z):=fun b' o f z hl hn => by
  show (if _ then _ else _) = _
  rw [if_neg hn];simp [hl]
 have gow:∀ b' z,G.ow b' = some (s0,z) → G'.ow b' = some (d,z):=fun b' z hl => by simp [G',Gh.cut,hl]
 have mv:∀ i,i < h → Moves G w G' w s0 [i] d [i]:=fun i hi => by
  have hn:∀ b' o f z,G.lb b' o = some (f,s0,z ++ [i]) → ¬ (b' = b ∧ o0 + h * k ≤ o ∧ o < o0 + cap' * k):=by
   rintro b' o f z hl ⟨rfl,ho1,ho2⟩
   have:=hgone o f z i ho1 ho2 hl
   omega
  refine ⟨⟨fun z => by simp [G',Gh.cut],fun z _ => by simp [G',Gh.cut],fun b' o f z _ _ hl => ⟨glb _ _ _ _ hl (hn _ _ _ _ hl),rfl⟩,fun b' z _ hl => gow _ _ hl,fun b' cs' e' hb => ⟨cs',hb,rfl⟩,by intros;assumption⟩,fun b' o _ hl => ⟨glb _ _ _ _ hl (hn b' o true [] (by simpa using hl)),rfl⟩,fun b' hl => gow _ _ hl⟩
 have hkeep:Keep [(d,0),(s0,1)] G w G' w:=by
  refine ⟨fun s p ho => ?_,fun s p ho => ?_,fun b' o f s p hob hl hs => ?_,fun b' s p hl hs => ?_,fun b' cs' e' hb => ⟨cs',hb,rfl⟩,by intros;assumption⟩
  ·have:s ≠ d:=fun e => absurd (ho 0 (by simp [e])) (by simp)
   simp [G',Gh.cut,this]
  ·have:s ≠ d:=fun e => absurd (ho 0 (by simp [e])) (by simp)
   simp [G',Gh.cut,this]
  ·have hsd:s ≠ s0:=fun e => hs 1 (by simp [e])
   obtain ⟨y,hy⟩:=hob
   have hbb:b' ≠ b:=by
    rintro rfl
    rw [h6] at hy
    simp at hy
    exact hsd hy.1.symm
   refine ⟨?_,rfl⟩
   show (if _ then _ else _) = _
   rw [if_neg (fun hn => hbb hn.1)];simp [hl,hsd]
  ·have hsd:s ≠ s0:=fun e => hs 1 (by simp [e])
   simp [G',Gh.cut,hl,hsd]
 have hmem:Mem Γ G' w:=by
  refine ⟨fun s z => ?_,fun b' o l hl => ?_,fun b' l hl => ?_,hm.st,hm.fr,hm.sz,hm.bk,hm.gl⟩
  ·show (if _ then _ else _:Value).oneCell' = true
   split
   ·split
    ·rfl
    ·exact hm.one _ _
   ·exact hm.one _ _
  ·change (if _ then _ else _) = _ at hl
   split at hl
   ·rename_i hn;rw [hn.1];exact hblk
   ·cases hg:G.lb b' o with
    | none => simp [hg] at hl
    | some x => exact hm.lb b' o x hg
  ·cases hg:G.ow b' with
   | none => simp [G',Gh.cut,hg] at hl
   | some x => exact hm.ow b' x hg
 refine ⟨G',rep_step hrep (by simp) hkeep hmem ?_ ?_⟩
 ·intro s hs
  have hne1:s ≠ d:=by rintro rfl;simp [Wr.find] at hs
  have hne0:s ≠ s0:=by rintro rfl;simp [Wr.find,hne.symm] at hs
  exact ⟨fun n hn => by simp at hn;rcases hn with h | h;exact hne1 h.1;exact hne0 h.1,by rw [Array.getElem?_setIfInBounds];simp [hne1.symm]⟩
 ·intro s t' hs
  by_cases hsd:s = d
  ·subst hsd
   simp [Wr.find] at hs
   subst hs
   have hlen:(xs.take h).length = h:=by simp;omega
   simp only [Top] at e3
   have hkc:∀ ys:List T,Cleans ys → ∀ n,Cleans (ys.take n):=by
    intro ys
    induction ys with
    | nil => intro _ n;simp [Cleans,AllRs]
    | cons y ys ih => intro hy n;cases n with
     | zero => simp [Cleans,AllRs]
     | succ n => exact ⟨hy.1,ih hy.2 n⟩
   refine ⟨?_,?_,by simp only [Top];exact hkc xs e3 h⟩
   ·rw [Array.getElem?_setIfInBounds]
    simp [hrep.size,hd,mkV,G',Gh.cut,v]
   ·simp only [R]
    refine .inr ⟨b,o0,cap',cs,e,by rw [hlen];simp [G',Gh.cut,v],h2,by omega,by omega,by have:=Nat.mul_le_mul_right k hc2;omega,gow b _ h6,fun o ho1 ho2 => ?_,?_⟩
    ·rw [hlen] at ho1
     show (if _ then _ else _) = _
     rw [if_pos ⟨rfl,ho1,ho2⟩]
    ·refine RL_of2 _ [] 0 b o0 fun i x hx => ?_
     rw [List.getElem?_take] at hx
     split at hx
     ·rename_i hi
      obtain ⟨g1,g2,g3⟩:=RL_get xs [] 0 b o0 k i x h8 hx
      rw [Nat.zero_add] at g1 g3 ⊢
      refine ⟨?_,g2,R_move0 (mv i hi) x (AllR.mono (fun _ _ => False.elim) _ (AllRs_get xs e3 i x hx)) g3⟩
      refine Loc_full x [i] [i] b _ (fun z => by simp [G',Gh.cut]) (fun z => by simp [G',Gh.cut]) (fun b' o z hl => ⟨glb _ _ _ _ hl ?_,rfl⟩) g1
      rintro ⟨rfl,ho1,ho2⟩
      have:=hgone o false z i ho1 ho2 hl
      omega
     ·cases hx
  ·have h9:s = s0 ∧ t' = .any:=by
    simp only [Wr.find] at hs
    rw [if_neg (fun h => hsd h.symm)] at hs
    split at hs
    ·rename_i h;simp at hs;exact ⟨h.symm,hs.symm⟩
    ·cases hs
   obtain ⟨rfl,rfl⟩:=h9
   refine ⟨?_,by simp only [R],by simp [Top]⟩
   rw [Array.getElem?_setIfInBounds]
   simp only [Ne.symm hsd,if_false,mkV]
   rw [e1,mkV_single rfl]
   simp [G',Gh.cut,hsd]
theorem rep_cut0 {G:Gh} {tmps:Array Value} {w:World} (hrep:Rep Γ E G tmps w) (hd:d < Γ.N) {s0 k:Nat} (hs0:E s0 = some (.sl k [])) (hne:s0 ≠ d) (a:Option Addr) :
  ∃ G',Rep Γ (E.app [(d,some (.sl k [])),(s0,some .any)] [(d,0),(s0,1)]) G' (tmps.setIfInBounds d (.slice a 0 0)) w:=by
 obtain ⟨e1,_,_⟩:=hrep.ent s0 _ hs0
 refine ⟨G.put d (fun _ => .slice a 0 0),?_⟩
 have hk:Keep [(d,0),(s0,1)] G w (G.put d fun _ => .slice a 0 0) w:=by
  have h0:=G.put_keep (w:=w) (w':=w) rfl d (fun _ => .slice a 0 0)
  refine ⟨fun s p ho => h0.hd s p (fun n hn => ho n (by simp at hn ⊢;exact .inl hn)),fun s p ho => h0.ad s p (fun n hn => ho n (by simp at hn ⊢;exact .inl hn)),fun b o f s p h1 h2 h3 => h0.lb b o f s p h1 h2 (fun n hn => h3 n (by simp at hn ⊢;exact .inl hn)),fun b s p h1 h3 => h0.ow b s p h1 (fun n hn => h3 n (by simp at hn ⊢;exact .inl hn)),h0.blk,by intros;assumption⟩
 refine rep_step hrep (by simp) hk (hrep.mem.put rfl d _ (fun _ => rfl)) ?_ ?_
 ·intro s hs
  have hne1:s ≠ d:=by rintro rfl;simp [Wr.find] at hs
  have hne0:s ≠ s0:=by rintro rfl;simp [Wr.find,hne.symm] at hs
  exact ⟨fun n hn => by simp at hn;rcases hn with h | h;exact hne1 h.1;exact hne0 h.1,by rw [Array.getElem?_setIfInBounds];simp [hne1.symm]⟩
 ·intro s t' hs
  by_cases hsd:s = d
  ·subst hsd
   simp [Wr.find] at hs
   subst hs
   refine ⟨by rw [Array.getElem?_setIfInBounds];simp [hrep.size,hd,mkV,Gh.put],by simp only [R];exact .inl ⟨trivial,a,by simp [Gh.put]⟩,by simp [Top,Cleans,AllRs]⟩
  ·have h9:s = s0 ∧ t' = .any:=by
    simp only [Wr.find] at hs
    rw [if_neg (fun h => hsd h.symm)] at hs
    split at hs
    ·rename_i h;simp at hs;exact ⟨h.symm,hs.symm⟩
    ·cases hs
   obtain ⟨rfl,rfl⟩:=h9
   refine ⟨?_,by simp only [R],by simp [Top]⟩
   rw [Array.getElem?_setIfInBounds]
   simp only [Ne.symm hsd,if_false,mkV]
   rw [e1,mkV_single rfl]
   simp [Gh.put,hsd]
end
section
variable {P:Program} {Γ:Ctx} {pn:Pins} {E E':Env} {Q:Exit → Env → Prop} {d:Nat} {x y:Operand} {ty:TypeId} {ps:String} {af:Array Edge} {gd:Option (Nat × Bool)}
theorem x_cut {α:Type} {t e:TypeId} {ti:TypeInfo} {s0 k:Nat} {f:α → T} {xs ys:List α} {mx:Option Operand} {h:Int} {u:T} (ht:ElT P t e ti k u) (hv:sliceO xs 0 h = some ys) (h0:E s0 = some (L k f xs)) (hy:opT E y = some (I h)) (hmx:mx = none ∨ ∃ z,mx = some z ∧ opT E z = some (I h)) (sd:(Nat.blt d Γ.N && (s0 != d)) = true) :
  Ok P Γ ⟨some d,.slice t (.tmp s0) none (some y) mx,ty,ps,af,gd⟩ E (E.app [(d,some (L k f ys)),(s0,some .any)] [(d,0),(s0,1)]):=by
 obtain ⟨_,h0',hle,rfl⟩:=sliceO_some hv
 simp only [Bool.and_eq_true] at sd
 have hne:s0 ≠ d:=by simpa using sd.2
 obtain ⟨n,rfl⟩:∃ n:Nat,h = n:=⟨h.toNat,by omega⟩
 have hn:n ≤ xs.length:=by omega
 intro S
 refine OpOk.value rfl fun a w G hrep => ?_
 obtain ⟨e1,e2,_⟩:=hrep.ent s0 _ h0
 have hy1:=(opd_lit hrep hy).1
 have hev:a.eval (.tmp s0) = G.hd s0 []:=by rw [eval_tmp e1,mkV_single rfl]
 have hun:=ht.un;have hin:=ht.info;have hsz:=ht.size
 have hmap:List.map f ((xs.drop (0:Int).toNat).take ((n:Int).toNat - (0:Int).toNat)) = (xs.map f).take n:=by simp [List.map_take]
 rw [show L k f ((xs.drop (0:Int).toNat).take ((n:Int).toNat - (0:Int).toNat)) = .sl k ((xs.map f).take n) by simp only [L,hmap]]
 have e2':=e2
 simp only [R] at e2
 rcases e2 with ⟨hnil,ad,h1⟩ | ⟨b,o0,cap,cs,e',h1,h2,h3,h4,h5,h6,h7,h8⟩
 ·have hxs:xs = []:=by simpa using hnil
  subst hxs
  simp at hn;subst hn
  obtain ⟨G',hG'⟩:=rep_cut0 hrep (blt_lt sd.1) (k:=k) (by rw [h0];rfl) hne ad
  refine ⟨_,w,?_,G',by simpa using hG'⟩
  rcases hmx with rfl | ⟨z,rfl,hz⟩
  ·simp [execOp,Instr.sliceAt,Instr.slice,run_underlying hun,hev,h1,hy1,sizeOf,typeInfo,hin,Instr.sliceBounds,Instr.sliceBound,asIntOf]
  ·have hz1:=(opd_lit hrep hz).1
   simp [execOp,Instr.sliceAt,Instr.slice,run_underlying hun,hev,h1,hy1,hz1,sizeOf,typeInfo,hin,Instr.sliceBounds,Instr.sliceBound,asIntOf]
 ·rw [List.length_map] at h1 h3
  have hnc:n ≤ cap:=by omega
  have hcz:cap = 0 → n = 0:=by omega
  rcases hmx with rfl | ⟨z,rfl,hz⟩
  ·obtain ⟨G',hG'⟩:=rep_cut hrep (blt_lt sd.1) h0 hne ht.pos (by rw [List.length_map];exact h1) h2 (by rw [List.length_map];exact h3) h4 h5 h6 h7 h8 (h:=n) (cap':=cap) (by simpa using hn) hnc (Nat.le_refl _)
   refine ⟨_,w,?_,G',hG'⟩
   simp [execOp,Instr.sliceAt,Instr.slice,run_underlying hun,hev,h1,hy1,sizeOf,typeInfo,hin,Instr.sliceBounds,Instr.sliceBound,asIntOf,hnc,add_off]
  ·have hz1:=(opd_lit hrep hz).1
   obtain ⟨G',hG'⟩:=rep_cut hrep (blt_lt sd.1) h0 hne ht.pos (by rw [List.length_map];exact h1) h2 (by rw [List.length_map];exact h3) h4 h5 h6 h7 h8 (h:=n) (cap':=n) (by simpa using hn) (Nat.le_refl _) hnc
   refine ⟨_,w,?_,G',hG'⟩
   simp [execOp,Instr.sliceAt,Instr.slice,run_underlying hun,hev,h1,hy1,hz1,sizeOf,typeInfo,hin,Instr.sliceBounds,Instr.sliceBound,asIntOf,hnc,add_off]
end
end Go.Ab

namespace Go.Ab
open Go
section
variable {P:Program} {Γ:Ctx} {pn:Pins} {E E':Env} {Q:Exit → Env → Prop} {d:Nat} {x y:Operand} {ty:TypeId} {ps:String} {af:Array Edge} {gd:Option (Nat × Bool)} {ops:Array Oper} {os:List Oper}
theorem run_eqNil {P:Program} {w:World} {t e:TypeId} {a:Option Addr} {n c:Nat} (m:Nat) (h:P.underlying t = some (.slice e)):(Op.equalIn (m + 1) t (.slice a n c) (.slice none 0 0)).run P w = .ok a.isNone w:=by
 simp only [Op.equalIn,Sem.run_bind,run_underlying h]
 cases a <;> rfl
theorem RW.isnil {α:Type} {xt yt e:TypeId} {r k:Nat} {q:List Nat} {f:α → T} {xs:List α} {u:T} (hu:P.underlying xt = some (.slice e)) (hx:locT E x = some (r,q,u)) (hsl:u = .ro (L k f xs) ∨ u = L k f xs) (sd:Nat.blt d Γ.N = true) (hp:pn.ok (some d) = true)
  (h:∀ b,(b = true → xs = []) → RW P Γ pn ops os (E.app [(d,some (B b))] [(d,0)]) Q):RW P Γ pn ops (⟨some d,.binOp .eql xt x (.const (.slice none 0 0)) yt,ty,ps,af,none⟩ :: os) E Q:=by
 intro a w Q' hs hpa hQ
 obtain ⟨S,hS,hdf,G,hrep⟩:=id hs
 have hus:u.single = true:=by rcases hsl with rfl | rfl <;> rfl
 obtain ⟨h1,h2⟩:=loc_ok hrep hx hus
 obtain ⟨ad,n,c,h3,h4⟩:∃ ad n c,a.eval x = .slice ad n c ∧ (ad.isNone = true → xs = []):=by
  rcases hsl with rfl | rfl
  ·obtain ⟨ad,c,g1,_,_,g2⟩:=R_ro_sl h1
   refine ⟨ad,_,c,by rw [h2,g1],fun hn => ?_⟩
   apply Classical.byContradiction
   intro hne
   obtain ⟨b,o',_,_,_,rfl,_⟩:=g2 (by simpa using hne)
   simp at hn
  ·simp only [R] at h1
   rcases h1 with ⟨g1,ad,g2⟩ | ⟨b,_,cap,cs,e',g1,_⟩
   ·exact ⟨ad,0,0,by rw [h2,g2],fun _ => by simpa using g1⟩
   ·exact ⟨_,_,_,by rw [h2,g1],fun hn => by simp at hn⟩
 have hrun:(execOp a.eval ⟨some d,.binOp .eql xt x (.const (.slice none 0 0)) yt,ty,ps,af,none⟩).run P w = .ok (.value (.bool ad.isNone)) w:=by
  have h5:(Op.equalIn 10000 xt (.slice ad n c) (.slice none 0 0)).run P w = .ok ad.isNone w:=run_eqNil 9999 hu
  have h6:a.eval (.const (.slice none 0 0)) = .slice none 0 0:=rfl
  simp [execOp,h3,h6,eqGuard,binOp,eq_depth,h5]
 simp only [wpL,Region.wanted,if_true]
 refine .inl ?_
 unfold Oper.wp
 rw [hrun,Oper.upon_value]
 have hrep':=rep_put hrep rfl (blt_lt sd) (fun _ => .bool ad.isNone) (fun _ => rfl) (B ad.isNone) (.bool ad.isNone) (by simp [mkV,Gh.put]) (by simp [R,Gh.put]) (by simp [Top])
 refine h ad.isNone h4 _ w Q' ⟨S,hS,hdf,_,hrep'⟩ ?_ hQ
 refine hpa.frame hp fun s hs' => ?_
 have:d ≠ s:=fun e => hs' (by rw [e])
 simp [Act.put,Array.getElem?_setIfInBounds_ne this]
theorem x_lennil {t e:TypeId} (hu:P.underlying t = some (.slice e)) (hx:opT E x = some (.lit (.slice none 0 0))) (sd:Nat.blt d Γ.N = true):Ok P Γ ⟨some d,.call { callee:=.builtin .len,args:=#[x],argTypes:=#[t] },ty,ps,af,gd⟩ E (E.app [(d,some (I 0))] [(d,0)]):=by
 intro S
 refine ok_lit (.int .i64 0) rfl rfl (blt_lt sd) fun a w G hrep => ?_
 have h1:=(opd_lit hrep hx).1
 simp [execOp,resolve,invoke,builtin,h1,Builtin.len_,run_underlying hu,goInt]
theorem x_capnil {t e:TypeId} (hu:P.underlying t = some (.slice e)) (hx:opT E x = some (.lit (.slice none 0 0))) (sd:Nat.blt d Γ.N = true):Ok P Γ ⟨some d,.call { callee:=.builtin .cap,args:=#[x],argTypes:=#[t] },ty,ps,af,gd⟩ E (E.app [(d,some (I 0))] [(d,0)]):=by
 intro S
 refine ok_lit (.int .i64 0) rfl rfl (blt_lt sd) fun a w G hrep => ?_
 have h1:=(opd_lit hrep hx).1
 simp [execOp,resolve,invoke,builtin,h1,Builtin.cap_,run_underlying hu,goInt]
theorem x_slnil {t e:TypeId} {ti:TypeInfo} {u:T} {k:Nat} (ht:ElT P t e ti k u) (hx:opT E x = some (.lit (.slice none 0 0))) (hy:opT E y = some (I 0)) (sd:Nat.blt d Γ.N = true):Ok P Γ ⟨some d,.slice t x none (some y) none,ty,ps,af,gd⟩ E (E.app [(d,some (.sl k []))] [(d,0)]):=by
 intro S
 refine OpOk.value rfl fun a w G hrep => ?_
 have h1:=(opd_lit hrep hx).1
 have h2:=(opd_lit hrep hy).1
 refine ⟨.slice none 0 0,w,?_,_,rep_put hrep rfl (blt_lt sd) (fun _ => .slice none 0 0) (fun _ => rfl) (.sl k []) (.slice none 0 0) (by simp [mkV,Gh.put]) (by simp [R,Gh.put]) (by simp [Top,Cleans,AllRs])⟩
 simp [execOp,Instr.sliceAt,Instr.slice,run_underlying ht.un,h1,h2,sizeOf,typeInfo,ht.info,Instr.sliceBounds,Instr.sliceBound,asIntOf]
theorem Ghost.nil (s k:Nat) (hs:E s = some (.lit (.slice none 0 0))):Ghost Γ E (E.app [(s,some (.sl k []))] [(s,0)]):=by
 rintro a w ⟨S,hS,hdf,G,hrep⟩
 refine ⟨S,hS,hdf,G,?_⟩
 have hk:Keep [(s,0)] G w G w:=⟨fun _ _ _ => rfl,fun _ _ _ => rfl,fun _ _ _ _ _ _ h _ => ⟨h,rfl⟩,fun _ _ _ h _ => h,fun b cs e h => ⟨cs,h,rfl⟩,by intros;assumption⟩
 refine rep_step hrep rfl hk hrep.mem (fun s' hs' => ⟨fun n hn => ?_,rfl⟩) fun s' t hs' => ?_
 ·simp at hn
  simp [Wr.find,hn.1] at hs'
 ·simp only [Wr.find] at hs'
  split at hs'
  ·rename_i e;subst e
   simp at hs';subst hs'
   obtain ⟨h1,h2,_⟩:=hrep.ent s _ hs
   simp only [R] at h2
   exact ⟨by rw [h1];rfl,by simp only [R];exact .inl ⟨trivial,none,h2⟩,by simp [Top,Cleans,AllRs]⟩
  ·cases hs'
theorem x_convU {src dst:TypeId} {ds:TypeDesc} {k k':IntKind} {n:Int} (hs:P.underlying src = some ds) (ht:P.underlying dst = some (.int k')) (hx:opT E x = some (IK k n)) (sd:Nat.blt d Γ.N = true) :
  Ok P Γ ⟨some d,.convert src dst x,ty,ps,af,gd⟩ E (E.app [(d,some (IK k' (k'.wrap n)))] [(d,0)]):=fun _ => ok_conv src dst ds x k k' n rfl rfl (blt_lt sd) hs ht hx
theorem x_subU {k:IntKind} {m n:Int} {xt yt:TypeId} (hx:opT E x = some (IK k m)) (hy:opT E y = some (IK k n)) (sd:Nat.blt d Γ.N = true):Ok P Γ ⟨some d,.binOp .sub xt x y yt,ty,ps,af,gd⟩ E (E.app [(d,some (IK k (k.wrap (m - n))))] [(d,0)]) :=
 fun _ => ok_binI .sub xt yt x y k m n _ rfl rfl (blt_lt sd) hx hy rfl
theorem x_gtrU {k:IntKind} {m n:Int} {xt yt:TypeId} (hx:opT E x = some (IK k m)) (hy:opT E y = some (IK k n)) (sd:Nat.blt d Γ.N = true):Ok P Γ ⟨some d,.binOp .gtr xt x y yt,ty,ps,af,gd⟩ E (E.app [(d,some (B (decide (m > n))))] [(d,0)]) :=
 fun _ => ok_binI .gtr xt yt x y k m n _ rfl rfl (blt_lt sd) hx hy rfl
theorem x_eqlU {k:IntKind} {m n:Int} {xt yt:TypeId} (hx:opT E x = some (IK k m)) (hy:opT E y = some (IK k n)) (sd:Nat.blt d Γ.N = true):Ok P Γ ⟨some d,.binOp .eql xt x y yt,ty,ps,af,gd⟩ E (E.app [(d,some (B (m == n)))] [(d,0)]) :=
 fun _ => ok_binI .eql xt yt x y k m n _ rfl rfl (blt_lt sd) hx hy rfl
theorem x_lssU {k:IntKind} {m n:Int} {xt yt:TypeId} (hx:opT E x = some (IK k m)) (hy:opT E y = some (IK k n)) (sd:Nat.blt d Γ.N = true):Ok P Γ ⟨some d,.binOp .lss xt x y yt,ty,ps,af,gd⟩ E (E.app [(d,some (B (decide (m < n))))] [(d,0)]) :=
 fun _ => ok_binI .lss xt yt x y k m n _ rfl rfl (blt_lt sd) hx hy rfl
end
end Go.Ab

namespace Go.Ab
open Go
structure Fld4 (P:Program) (f:Field) (i:Nat):Prop where
 name:f.name ≠ "_"
 off:f.offset = i
 ty:P.underlying f.type = some (.int .i64)
class EqS4 (P:Program) (t:TypeId):Prop where
 h:∃ f0 f1 f2 f3:Field,P.underlying t = some (.struct #[f0,f1,f2,f3]) ∧ Fld4 P f0 0 ∧ Fld4 P f1 1 ∧ Fld4 P f2 2 ∧ Fld4 P f3 3
 st:P.stoodInHeld t = false
 gd:P.eqGuardType P.depth t = false
theorem run_part {P:Program} {w:World} {f:Field} {i:Nat} (h:Fld4 P f i) (cs:Array Value) (v:Value) (hv:cs[i]? = some v):(part f.type cs f.offset).run P w = .ok v w:=by
 simp [part,run_isAgg h.ty,aggB,h.off,hv]
theorem run_eqS4 {P:Program} {w:World} {t:TypeId} (h:EqS4 P t) (a b c d a' b' c' d':Int) (m:Nat) :
  (Op.equalIn (m + 2) t (.agg #[.int .i64 a,.int .i64 b,.int .i64 c,.int .i64 d]) (.agg #[.int .i64 a',.int .i64 b',.int .i64 c',.int .i64 d'])).run P w = .ok (a == a' && (b == b' && (c == c' && d == d'))) w:=by
 obtain ⟨f0,f1,f2,f3,h1,g0,g1,g2,g3⟩:=h.h
 have k0:=fun (x y:Int) => run_eqI (P:=P) (w:=w) (a:=x) (b:=y) m g0.ty
 have k1:=fun (x y:Int) => run_eqI (P:=P) (w:=w) (a:=x) (b:=y) m g1.ty
 have k2:=fun (x y:Int) => run_eqI (P:=P) (w:=w) (a:=x) (b:=y) m g2.ty
 have k3:=fun (x y:Int) => run_eqI (P:=P) (w:=w) (a:=x) (b:=y) m g3.ty
 have hst:=h.st
 rw [Op.equalIn]
 simp only [Sem.run_bind,run_underlying h1]
 have q0:=fun (a b c d:Int) => run_part (w:=w) g0 #[.int .i64 a,.int .i64 b,.int .i64 c,.int .i64 d] (.int .i64 a) rfl
 have q1:=fun (a b c d:Int) => run_part (w:=w) g1 #[.int .i64 a,.int .i64 b,.int .i64 c,.int .i64 d] (.int .i64 b) rfl
 have q2:=fun (a b c d:Int) => run_part (w:=w) g2 #[.int .i64 a,.int .i64 b,.int .i64 c,.int .i64 d] (.int .i64 c) rfl
 have q3:=fun (a b c d:Int) => run_part (w:=w) g3 #[.int .i64 a,.int .i64 b,.int .i64 c,.int .i64 d] (.int .i64 d) rfl
 by_cases e0:a = a' <;> by_cases e1:b = b' <;> by_cases e2:c = c' <;> by_cases e3:d = d' <;>
  simp [hst,g0.name,g1.name,g2.name,g3.name,q0,q1,q2,q3,k0,k1,k2,k3,e0,e1,e2,e3]
section
variable {P:Program} {Γ:Ctx} {E E':Env} {d:Nat} {x y:Operand} {ty:TypeId} {ps:String} {af:Array Edge} {gd:Option (Nat × Bool)}
theorem x_eqS4 {t t':TypeId} {s s':Nat} {a b c e a' b' c' e':Int} (h:EqS4 P t) (hx:E s = some (.agg [I a,I b,I c,I e])) (hy:E s' = some (.agg [I a',I b',I c',I e'])) (sd:Nat.blt d Γ.N = true) :
  Ok P Γ ⟨some d,.binOp .eql t (.tmp s) (.tmp s') t',ty,ps,af,gd⟩ E (E.app [(d,some (B (a == a' && (b == b' && (c == c' && e == e')))))] [(d,0)]):=by
 intro S
 refine ok_lit _ rfl rfl (blt_lt sd) fun A w G hrep => ?_
 obtain ⟨h1,h2,_⟩:=hrep.ent s _ hx
 obtain ⟨h3,h4,_⟩:=hrep.ent s' _ hy
 simp only [R,RF] at h2 h4
 have e1:A.eval (.tmp s) = .agg #[.int .i64 a,.int .i64 b,.int .i64 c,.int .i64 e]:=by rw [eval_tmp h1];simp [mkV,valsF,vals,h2]
 have e2:A.eval (.tmp s') = .agg #[.int .i64 a',.int .i64 b',.int .i64 c',.int .i64 e']:=by rw [eval_tmp h3];simp [mkV,valsF,vals,h4]
 have h5:(Op.equalIn 10000 t (.agg #[.int .i64 a,.int .i64 b,.int .i64 c,.int .i64 e]) (.agg #[.int .i64 a',.int .i64 b',.int .i64 c',.int .i64 e'])).run P w = _:=run_eqS4 (w:=w) h a b c e a' b' c' e' 9998
 have hg:=h.gd
 simp [execOp,e1,e2,eqGuard,binOp,eq_depth,h5,hg]
end
end Go.Ab

namespace Go.Ab
open Go
end Go.Ab

namespace Go.Ab
open Go
theorem tupF_copy {G G':Gh} {s d:Nat} (hd:∀ z,G'.hd d z = G.hd s z):(xs:List T) → okTups xs = true → ∀ (j:Nat),tupF G' d (cpF s xs [] j) [] j = tupF G s xs [] j
 | [],_,_ => by rfl
 | x :: xs,h,j => by
  simp only [okTups,Bool.and_eq_true] at h
  simp only [cpF,tupF]
  have hnt:∀ ys,x ≠ .tup ys:=by rintro ys rfl;grind[T.okTup]
  have h1:=mkV_copy (G:=G) (G':=G') (s:=s) (d:=d) x [j] [j] hnt (fun z => hd _)
  have h2:∀ ys,cpT s x [j] ≠ .tup ys:=by
   intro ys
   cases x <;> simp [cpT]
  rw [mkV_mkV1 _ _ _ _ h2] at h1
  rw [h1,tupF_copy hd xs h.2 (j + 1)]
section
variable {P:Program} {Γ:Ctx} {E E':Env} {d:Nat} {x y:Operand} {ty:TypeId} {ps:String} {af:Array Edge} {gd:Option (Nat × Bool)}
theorem x_mvT {s:Nat} {ts:List T} (hx:E s = some (.tup ts)) (sd:(Nat.blt d Γ.N && okTups ts && (s != d) && okBs [(d,0)] (cpF s ts [] 0)) = true):Ok P Γ ⟨some d,.move (.tmp s),ty,ps,af,gd⟩ E (E.app [(d,some (.tup (cpF s ts [] 0)))] [(d,0)]):=by
 simp only [Bool.and_eq_true] at sd
 obtain ⟨⟨⟨s1,s2⟩,s3⟩,s4⟩:=sd
 have hne:s ≠ d:=by grind
 intro S
 refine OpOk.value rfl fun a w G hrep => ?_
 obtain ⟨h1,h2,_⟩:=hrep.ent s _ hx
 simp only [R] at h2
 have hk:=G.put_keep (w:=w) (w':=w) rfl d (fun z => G.hd s z)
 have hz:∀ z,(G.put d (fun z => G.hd s z)).hd d z = G.hd s z:=by grind[Gh.put_self]
 have htop:∀ (xs:List T) (j:Nat),Tops (cpF s xs [] j):=by
  intro xs
  induction xs with
  | nil => intro j;simp only [cpF,Tops]
  | cons x xs ih => intro j;simp only [cpF,Tops];grind[cpT_top]
 refine ⟨mkV G s (.tup ts) [],w,?_,_,rep_put hrep rfl (blt_lt s1) (fun z => G.hd s z) (fun z => hrep.mem.one _ _) _ _ (by grind[mkV,tupF_copy])
  (by simp only [R];exact RF_copy (fun p => G.put_other _ p hne) ts [] [] 0 (fun z => hz _) (AllRs.mono (fun r p hr => ⟨hk.hd r p hr,hk.ad r p hr⟩) _ (by grind[okBs_all])) h2) (by simp only [Top];grind)⟩
 simp [execOp,eval_tmp h1]
end
end Go.Ab

namespace Go.Ab
open Go
end Go.Ab

namespace Go.Ab
open Go
end Go.Ab
namespace Go.Ab
open Go
end Go.Ab
namespace Go.Ab
open Go
section
variable {P:Program} {Γ:Ctx} {pn:Pins} {E E':Env} {Q Q1:Exit → Env → Prop} {c c1 c2:Code} {ops:Array Oper} {o:Oper} {os:List Oper} {id:Nat}
theorem sR (h:RW P Γ pn ops ops.toList E (Andthen P Γ pn c Q)):CW P Γ pn (.seq (.region id ops false) c) E Q:=CW.seq (CW.region h)
theorem rN (h:CW P Γ pn c E Q):RW P Γ pn ops [] E (Andthen P Γ pn c Q):=RW.nil h
theorem oP (h:Ok P Γ o E E') (k:RW P Γ pn ops os E' Q) (hg:o.guard = none:=by rfl) (hp:pn.ok o.dst = true:=by rfl):RW P Γ pn ops (o :: os) E Q:=RW.op h k hg hp
def ancs (ops:List Oper):List (List Nat):=(ops.foldl (fun (acc:Array (List Nat)) o => acc.push ((preds o).foldl (fun l m => m :: (acc.getD m []) ++ l) [])) #[]).toList
theorem CW.lp {σ ρ:Type} (body:σ → Option (σ ⊕ ρ)) (en:σ → Env) (Q1:ρ → Exit → Env → Prop) {s:σ} {r:ρ} (hg:Ghost Γ E (en s)) (h:∀ s x,body s = some x → CW P Γ pn c (en s) (Round Γ en Q1 x)) (hr:loopO body s = some r) (hq:∀ e E',Q1 r e E' → Q e E'):CW P Γ pn (.loop c) E Q :=
 (CW.mono (CW.loop body en Q1 h hr) hq).ghost hg
end
end Go.Ab

namespace Go.Ab
open Go Go.ChangeShapes
abbrev stOf (w:World):Stb:=fun b => w.heap[b]?
theorem cells_get {w:World} {a:Addr} {n:Nat} {cs:List Value} (h:w.cells? 0 a n = some cs):cs.length = n ∧ ∀ (i:Nat) v,cs[i]? = some v → w.cell? (a.add i) = some v:=by
 unfold World.cells? at h
 rw [if_pos (Nat.zero_le _)] at h
 refine ⟨by simpa using mapM_some_length h,fun i v hv => ?_⟩
 have hi:i < n:=by
  have:=(List.getElem?_eq_some_iff.1 hv).1
  have h2:=mapM_some_length h
  rw [List.length_range] at h2;omega
 rw [← hv]
 exact mapM_some_get h i i (by simp [hi])
theorem cell_at {w:World} {a:Addr} {v:Value} (h:w.cell? a = some v):a.spot = none ∧ ∃ c e fr,w.heap[a.block]? = some (.cells c e fr) ∧ c[a.off]? = some v:=by
 simp only [World.cell?] at h
 split at h
 ·rename_i c e fr hb
  split at h
  ·cases h
  ·rename_i hs
   exact ⟨by cases hq:a.spot with | none => rfl | some _ => rw [hq] at hs;simp at hs,c,e,fr,hb,h⟩
 ·cases h
theorem addr_add {b o m:Nat}:(Addr.mk b o none).add m = ⟨b,o + m,none⟩:=by
 unfold Addr.add;split
 ·rename_i h;subst h;rfl
 ·rfl
theorem choose_list {α:Type} {Q:Nat → α → Prop}:∀ (n:Nat),(∀ i,i < n → ∃ x,Q i x) → ∃ xs:List α,xs.length = n ∧ ∀ i x,xs[i]? = some x → Q i x
 | 0,_ => ⟨[],rfl,fun i x h => by simp at h⟩
 | n + 1,h => by
  obtain ⟨xs,h1,h2⟩:=choose_list n fun i hi => h i (by omega)
  obtain ⟨y,hy⟩:=h n (by omega)
  refine ⟨xs ++ [y],by simp [h1],fun i x hx => ?_⟩
  rw [List.getElem?_append] at hx
  split at hx
  ·exact h2 i x hx
  ·rename_i hge
   have:i - xs.length = 0:=by
    have:=(List.getElem?_eq_some_iff.1 hx).1
    simpa using this
   rw [this] at hx
   simp at hx
   subst hx
   rwa [show i = n from by omega]
theorem RoL_of' {St:Stb}:(xs:List T) → ∀ (cs:Array Value) (o k:Nat),(∀ i x,xs[i]? = some x → RoC St x cs (o + i * k)) → RoL St xs cs o k
 | [],_,_,_,_ => by simp only [RoL]
 | x :: xs,cs,o,k,h => by
  simp only [RoL]
  refine ⟨by simpa using h 0 x rfl,RoL_of' xs cs (o + k) k fun i y hy => ?_⟩
  have:=h (i + 1) y (by simpa using hy)
  rwa [show o + k + i * k = o + (i + 1) * k from by rw [Nat.succ_mul];omega]
section
variable {P:Program}
def RdT (P:Program) (t:TypeId) (k:Nat) {α:Type} (f:α → T) (V:α → Prop):Prop :=
 ∀ {H:Type} (enc:TypeId × Value → H) (w:World) (fuel:Nat) (cs:List Value) (x:DataW H × List MemPlace),DataW.trod enc P w 0 (fun _ => true) true fuel t cs = some x →
  cs.length = k → ∃ d,V d ∧ ∀ (A:Array Value) (o:Nat),(∀ (i:Nat) v,cs[i]? = some v → A[o + i]? = some v) → RoC (stOf w) (f d) A o
theorem rd_int {t:TypeId} {q:IntKind} (hu:P.underlying t = some (.int q)):RdT P t 1 (IK q) (fun n => (Lit.int q n).wf = true):=by
 intro H enc w fuel cs x h _
 obtain ⟨n,rfl,_,hw⟩:=DataW.trod_int hu h
 exact ⟨n,hw,fun A o hA => by simp only [RoC];exact ⟨by simpa using hA 0 _ rfl,rfl⟩⟩
theorem rd_str {t:TypeId} (hu:P.underlying t = some .string):RdT P t 1 Str (fun s => s.size ≤ maxLen):=by
 intro H enc w fuel cs x h _
 obtain ⟨n,rfl,_,hs⟩:=DataW.trod_string hu h
 exact ⟨n,hs,fun A o hA => by simp only [RoC];exact ⟨by simpa using hA 0 _ rfl,rfl⟩⟩
theorem rd_L {α:Type} {f:α → T} {V:α → Prop} {t e:TypeId} {k:Nat} (hu:P.underlying t = some (.slice e)) (hk:P.cellsOf e = k) (hk0:0 < k) (h:RdT P e k f V) :
  RdT P t 1 (L k f) (fun xs => xs.length ≤ maxLen ∧ ∀ x ∈ xs,V x):=by
 intro H enc w fuel cs x hx _
 rcases DataW.trod_slice hu hx with ⟨rfl,_⟩ | ⟨a,len,cap,elems,rest,n,rfl,rfl,_,_,hle,hcap,hel,hget,_⟩
 ·refine ⟨[],⟨by simp,by simp⟩,fun A o hA => ?_⟩
  simp only [RoC,List.map_nil,List.length_nil]
  exact ⟨none,0,by simpa using hA 0 _ rfl,Nat.le_refl _,by simp [maxLen],fun h => absurd rfl h⟩
 ·subst hk
  have key:∀ i,i < len → ∃ y,V y ∧ ∃ cs':List Value,cs'.length = P.cellsOf e ∧ (∀ (j:Nat) v,cs'[j]? = some v → w.cell? ((a.add (i * P.cellsOf e)).add j) = some v) ∧
    ∀ (A:Array Value) (o:Nat),(∀ (j:Nat) v,cs'[j]? = some v → A[o + j]? = some v) → RoC (stOf w) (f y) A o:=by
   intro i hi
   have h1:=hget i hi
   rw [List.getElem?_eq_getElem (by omega)] at h1
   obtain ⟨cs',h2,h3⟩:=Option.bind_eq_some_iff.1 h1
   obtain ⟨h4,h5⟩:=cells_get h2
   obtain ⟨y,h6,h7⟩:=h enc w n cs' _ h3 h4
   exact ⟨y,h6,cs',h4,h5,h7⟩
  obtain ⟨xs,hxl,hxs⟩:=choose_list len key
  refine ⟨xs,⟨by omega,fun y hy => ?_⟩,fun A o hA => ?_⟩
  ·obtain ⟨i,hi,rfl⟩:=List.mem_iff_getElem.1 hy
   exact (hxs i _ (List.getElem?_eq_getElem hi)).1
  ·simp only [RoC,List.length_map,hxl]
   refine ⟨some a,cap,by simpa using hA 0 _ rfl,hle,hcap,fun hne => ?_⟩
   have hpos:0 < xs.length:=by
    cases xs with
    | nil => simp at hne
    | cons _ _ => simp
   obtain ⟨_,cs0,g1,g2,_⟩:=hxs 0 _ (List.getElem?_eq_getElem hpos)
   have hz:a.add (0 * P.cellsOf e) = a:=by simp [Addr.add]
   have g3:=g2 0 cs0[0] (List.getElem?_eq_getElem (by omega))
   rw [hz,show a.add 0 = a from by simp [Addr.add]] at g3
   obtain ⟨hsp,c,e',fr,hb,_⟩:=cell_at g3
   obtain ⟨b,off,sp⟩:=a
   simp only at hsp hb
   subst hsp
   refine ⟨b,off,c,e',fr,rfl,hb,RoL_of' _ _ _ _ fun i y hy => ?_⟩
   rw [List.getElem?_map,Option.map_eq_some_iff] at hy
   obtain ⟨z,hz1,rfl⟩:=hy
   obtain ⟨_,cs',g1',g2',g4⟩:=hxs i z hz1
   refine g4 c _ fun j v hv => ?_
   have:=g2' j v hv
   rw [addr_add,addr_add] at this
   obtain ⟨_,c2,e2,fr2,hb2,hv2⟩:=cell_at this
   simp only at hb2 hv2
   rw [hb] at hb2
   cases hb2
   exact hv2
theorem trodFld {H:Type} {enc:TypeId × Value → H} {w:World} {t:TypeId} {fs:Array Field} {fuel:Nat} {cs:List Value} {x:DataW H × List MemPlace} (hu:P.underlying t = some (.struct fs)) (h:DataW.trod enc P w 0 (fun _ => true) true fuel t cs = some x)
  {i j k:Nat} {f:Field} (hf:fs[i]? = some f) (hj:f.offset = j) (hk:P.cellsOf f.type = k):∃ n y,DataW.trod enc P w 0 (fun _ => true) true n f.type ((cs.drop j).take k) = some y:=by
 obtain ⟨xs,n,_,_,_,hlen,hget⟩:=DataW.trod_struct hu h
 have hi:i < xs.length:=by rw [hlen];exact (Array.getElem?_eq_some_iff.1 hf).1
 have:=hget i f hf
 rw [hj,hk,List.getElem?_eq_getElem hi] at this
 exact ⟨n,_,this⟩
end
def one1 (v:Value):Value:=if v.oneCell' then v else .bool false
theorem one1_one (v:Value):(one1 v).oneCell' = true:=by unfold one1;split;assumption;rfl
def hd0 (vs:Array Value) (s:Nat) (p:List Nat):Value :=
 match vs[s]?,p with
 | some (.agg cs),[j] => one1 (cs[j]?.getD (.bool false))
 | some v,[] => one1 v
 | _,_ => .bool false
def G0 (vs:Array Value):Gh:={ hd:=hd0 vs,ad:=fun _ _ => default,lb:=fun _ _ => none,ow:=fun _ => none }
theorem mem0 (w:World) (vs:Array Value) (hg:Gl (stOf w)):Mem ⟨stOf w,fun _ => False,w,0⟩ (G0 vs) w where
 one s p:=by
  simp only [G0,hd0]
  split
  ·exact one1_one _
  ·exact one1_one _
  ·rfl
 lb b o l h:=by simp [G0] at h
 ow b l h:=by simp [G0] at h
 st b x h:=h
 fr b _ _:=rfl
 sz:=Nat.le_refl _
 bk:=⟨fun b cs e h => ⟨cs,h,rfl⟩,rfl,rfl⟩
 gl:=hg
def RdA (P:Program) (t:TypeId) {α:Type} (u:α → T) (V:α → Prop):Prop :=
 ∀ {H:Type} (enc:TypeId × Value → H) (w:World) (base fuel:Nat) (v:Value) (x:DataW H × List MemPlace),DataW.trod enc P w 0 (fun _ => true) true fuel t v.cells.toList = some x →
  Value.okWide P w .any base t v → ∃ d,V d ∧ ∀ (vs:Array Value) (s:Nat),vs[s]? = some v → some v = some (mkV (G0 vs) s (u d) []) ∧ R (stOf w) (G0 vs) w s (u d) []
def RdC (P:Program) (t:TypeId) {α:Type} (u:α → T) (V:α → Prop):Prop :=
 ∀ {H:Type} (enc:TypeId × Value → H) (w:World) (fuel:Nat) (c:Value) (x:DataW H × List MemPlace),DataW.trod enc P w 0 (fun _ => true) true fuel t [c] = some x →
  ∃ d,V d ∧ c.oneCell' = true ∧ ∀ (G:Gh) (s:Nat) (p:List Nat),G.hd s p = c → vals G s (u d) p = [c] ∧ R (stOf w) G w s (u d) p
section
variable {P:Program}
theorem rc_str {t:TypeId} (hu:P.underlying t = some .string):RdC P t Str (fun s => s.size ≤ maxLen):=by
 intro H enc w fuel c x h
 obtain ⟨n,h1,_,hs⟩:=DataW.trod_string hu h
 simp only [List.cons.injEq,and_true] at h1
 subst h1
 exact ⟨n,hs,rfl,fun G s p hp => ⟨by simp only [vals,hp],by simp only [R,hp]⟩⟩
theorem rc_ro {α:Type} {f:α → T} {V:α → Prop} {t:TypeId} (h:RdT P t 1 f V) (h1:∀ {H:Type} (enc:TypeId × Value → H) (w:World) (fuel:Nat) (c:Value) (x:DataW H × List MemPlace),DataW.trod enc P w 0 (fun _ => true) true fuel t [c] = some x → c.oneCell' = true) :
  RdC P t (fun x => T.ro (f x)) V:=by
 intro H enc w fuel c x hx
 obtain ⟨d,g1,g2⟩:=h enc w fuel [c] x hx rfl
 refine ⟨d,g1,h1 enc w fuel c x hx,fun G s p hp => ⟨by simp only [vals,hp],?_⟩⟩
 simp only [R,hp]
 exact g2 _ _ fun i v hv => by
  cases i with
  | zero => simpa using hv
  | succ i => simp at hv
theorem rc_L {α:Type} {f:α → T} {V:α → Prop} {t e:TypeId} {k:Nat} (hu:P.underlying t = some (.slice e)) (hk:P.cellsOf e = k) (hk0:0 < k) (h:RdT P e k f V):RdC P t (fun xs => T.ro (L k f xs)) (fun xs => xs.length ≤ maxLen ∧ ∀ x ∈ xs,V x) :=
 rc_ro (rd_L hu hk hk0 h) fun enc w fuel c x hx => by
  rcases DataW.trod_slice hu hx with ⟨h1,_⟩ | ⟨a,len,cap,_,_,_,_,h1,_⟩ <;>
  ·simp only [List.cons.injEq,and_true] at h1
   subst h1;rfl
theorem ra_cell {α:Type} {u:α → T} {V:α → Prop} {t:TypeId} (hs:∀ x,(u x).single = true ∧ ∀ G s,mkV G s (u x) [] = G.hd s []) (h:RdC P t u V)
  (hv:∀ {w:World} {base:Nat} {v:Value},Value.okWide P w .any base t v → v.oneCell' = true):RdA P t u V:=by
 intro H enc w base fuel v x hx hok
 have h1:v.cells.toList = [v]:=by
  have:=hv hok
  cases v <;> simp_all [Value.oneCell',Value.cells]
 rw [h1] at hx
 obtain ⟨d,g1,g2,g3⟩:=h enc w fuel v x hx
 refine ⟨d,g1,fun vs s hvs => ?_⟩
 have hhd:(G0 vs).hd s [] = v:=by
  simp only [G0,hd0,hvs]
  cases v <;> first | rfl | simp [Value.oneCell'] at g2
 exact ⟨by rw [(hs d).2,hhd],(g3 _ _ _ hhd).2⟩
end
theorem FnC.top {P:Program} {f:FuncId} {us:List T} (h:FnC P f us [B true] []) {w:World} {vs:Array Value} (hg:Gl (stOf w)) (hsz:vs.size = us.length)
  (ha:∀ (i:Nat) u,us[i]? = some u → vs[i]? = some (mkV (G0 vs) i u []) ∧ R (stOf w) (G0 vs) w i u []) :
  Calls P f vs w fun e w' => e = .returned (.bool true) ∧ w'.os = w.os ∧ w'.output = w.output ∧ w.heap.size ≤ w'.heap.size ∧ ∀ b,b < w.heap.size → w'.heap[b]? = w.heap[b]?:=by
 refine (h (stOf w) (fun _ => False) w (G0 vs) vs hsz (fun i u hu => ?_) (mem0 w vs hg)).mono fun e w' => ?_
 ·obtain ⟨h1,h2⟩:=ha i u hu
  refine ⟨?_,h2⟩
  rw [h1]
 ·rintro ⟨S',G',nd,_,he,hm,hnd,hr,_,_⟩
  match nd,hnd with
  | [(s,p,t)],hnd =>
   simp only [List.map_cons,List.map_nil,List.cons.injEq,and_true] at hnd
   subst hnd
   have:=(hr (s,p,B true) (by simp)).1
   simp only [R] at this
   exact ⟨by rw [he];simp only [retV,mkV1,this],hm.bk.os,hm.bk.out,hm.sz,fun b hb => hm.fr b hb (fun h => h)⟩
theorem trodAll_stays {H:Type} {enc:TypeId × Value → H} {P:Program} (hl:laidOutB P = true) {W W':World} {sp:Nat → Bool}:∀ {ts:List TypeId} {vs:List Value} {ds:List (DataW H)} {ps:List MemPlace},(∀ t ∈ ts,P.readableRec t = true ∧ t < P.types.size) →
  DataW.TrodAll enc P W 0 (fun _ => true) true ts vs ds ps → (∀ p ∈ ps,W.sameAt W' p) → (∀ p ∈ ps,sp p.block = true) → DataW.TrodAll enc P W' 0 sp true ts vs ds ps
 | [],[],[],_,_,h,_,_ => h
 | t :: ts,v :: vs,d :: ds,ps,hr,h,h1,h2 => by
  obtain ⟨p,q,g1,g2,rfl⟩:=h
  exact ⟨p,q,Go.WideElems.Trod_stays hl (hr t (by simp)).1 (hr t (by simp)).2 g1 (fun x hx => h1 x (by simp [hx])) (fun x hx => h2 x (by simp [hx])),
   trodAll_stays hl (fun t' ht' => hr t' (by simp [ht'])) g2 (fun x hx => h1 x (by simp [hx])) (fun x hx => h2 x (by simp [hx])),rfl⟩
 | [],_ :: _,_,_,_,h,_,_ | [],[],_ :: _,_,_,h,_,_ | _ :: _,[],_,_,_,h,_,_ | _ :: _,_ :: _,[],_,_,h,_,_ => h.elim
end Go.Ab

namespace Go.Ab
open Go
def HoldS (hs:List Nat) (E:Env):Prop:=∀ s,hs.contains s = true → ∃ t,E s = some t ∧ isSP t = true
def lsS (s:Nat):Apps → Bool → Bool
 | [],b => b
 | y :: l,b => lsS s l (match y.1.find s with
  | some (some t) => isSP t
  | some none => false
  | none => b)
def wrS (hs:List Nat) (X:Stp):Bool:=hs.all fun s => lsS s X.l true
theorem lsS_ok {s:Nat}:∀ (l:Apps) (E:Env) (b:Bool),(b = true → ∃ t,E s = some t ∧ isSP t = true) → lsS s l b = true → ∃ t,(E.apps l) s = some t ∧ isSP t = true
 | [],_,_,h,hw => h hw
 | x :: l,E,b,h,hw => by
  simp only [lsS] at hw
  refine lsS_ok l (E.app x.1 x.2) _ (fun hb => ?_) hw
  unfold Env.app
  cases hf:x.1.find s with
  | some y => cases y <;> simp_all
  | none =>
   rw [hf] at hb
   obtain ⟨t,he,ht⟩:=h hb
   grind[isSP_ok]
theorem HoldS.apps {hs:List Nat} (l:Apps) (E:Env) (h:HoldS hs E) (hw:(hs.all fun s => lsS s l true) = true):HoldS hs (E.apps l):=fun s hs' =>
 lsS_ok l E true (fun _ => h s hs') (List.all_eq_true.1 hw s (by grind))
theorem HoldS.runD {hs:List Nat}:∀ (l:List (Bool × Stp)) (E:Env),HoldS hs E → (∀ y ∈ l,wrS hs y.2 = true) → HoldS hs (runD E l)
 | [],_,h,_ => h
 | (b,X) :: l,E,h,hw => by
  simp only [Go.Ab.runD]
  refine HoldS.runD l _ ?_ fun y hy => hw y (by simp [hy])
  cases b with
  | true => exact HoldS.apps X.l E h (hw (true,X) (by simp))
  | false => exact h
section
variable {P:Program} {Γ:Ctx} {pn:Pins} {E E':Env} {Q:Exit → Env → Prop} {ops:Array Oper} {o:Oper} {os:List Oper} {id:Nat} {wr:Wr} {chg:Chg} {hs:List Nat}
def IxOkP (P:Program) (Γ:Ctx) (pn:Pins) (ops:Array Oper) (o:Oper) (E E':Env):Prop :=
 ∀ (a:Act) (w:World) (K:Act → World → Prop) (Q:Exit → Act → World → Prop),pn.Hold a → Sim2 Γ E a w → (∀ a' w',Sim2 Γ E' a' w' → (∀ s,o.dst ≠ some s → a'.tmps[s]? = a.tmps[s]?) → K a' w') →
  if Region.wanted o (yielded ops a.tmps) then o.wp P a w K Q ∨ (o.asks P a w ∧ LetsOut Q) else K (a.put o.dst undef) w
def StepsOkI (P:Program) (Γ:Ctx) (pn:Pins) (hs:List Nat) (ops:Array Oper):List Oper → List Stp → Prop
 | [],[] => True
 | o :: os,X :: Xs => (∀ E:Env,E.Has X.rd → HoldS hs E → IxOkP P Γ pn ops o E (E.apps X.l)) ∧ StepsOkI P Γ pn hs ops os Xs
 | _,_ => False
theorem StepsOkI.get:∀ (os:List Oper) (Xs:List Stp),StepsOkI P Γ pn hs ops os Xs → os.length = Xs.length ∧ ∀ (i:Nat) (o:Oper) (X:Stp),os[i]? = some o → Xs[i]? = some X → ∀ E:Env,E.Has X.rd → HoldS hs E → IxOkP P Γ pn ops o E (E.apps X.l)
 | [],[],_ => by simp
 | o :: os,X :: Xs,h => by
  obtain ⟨h1,h2⟩:=StepsOkI.get os Xs h.2
  refine ⟨by simp [h1],fun i o' X' ho hX => ?_⟩
  cases i with
  | zero => simp at ho hX;subst ho hX;exact h.1
  | succ i => exact h2 i o' X' (by simpa using ho) (by simpa using hX)
 | [],_ :: _,h => by simp [StepsOkI] at h
 | _ :: _,[],h => by simp [StepsOkI] at h
theorem StepsOkI.snoc {X:Stp}:∀ (os:List Oper) (Xs:List Stp),StepsOkI P Γ pn hs ops os Xs → (∀ E:Env,E.Has X.rd → HoldS hs E → IxOkP P Γ pn ops o E (E.apps X.l)) → StepsOkI P Γ pn hs ops (os ++ [o]) (Xs ++ [X])
 | [],[],_,h => ⟨h,trivial⟩
 | _ :: os,_ :: Xs,h1,h => ⟨h1.1,StepsOkI.snoc os Xs h1.2 h⟩
 | [],_ :: _,h,_ => by simp [StepsOkI] at h
 | _ :: _,[],h,_ => by simp [StepsOkI] at h
theorem HasFrom.snoc {X:Stp}:∀ (Xs:List Stp) (E:Env),HasFrom E Xs → (runD E (Xs.map fun y => (true,y))).Has X.rd → HasFrom E (Xs ++ [X])
 | [],_,_,h => ⟨by grind[runD],trivial⟩
 | _ :: Xs,_,h1,h => ⟨h1.1,HasFrom.snoc Xs _ h1.2 (by simpa [runD] using h)⟩
theorem wpAny_stepsI {E0:Env} {hs0:List Nat} {Xs:List Stp} {an:List (List Nat)} {Q':Exit → Act → World → Prop} (hf:fwdFrom 0 ops.toList = true) (ha:ancFrom an an ops.toList = true) (hp:pairsFrom Xs 0 an Xs = true)
  (hst:StepsOkI P Γ pn hs0 ops ops.toList Xs) (hI:HoldS hs0 E0) (hw:Xs.all (wrS hs0) = true) (hh:HasFrom E0 Xs) (hpn:ops.toList.all (fun o => pn.ok o.dst) = true) (hQ:∀ a' w',Sim2 Γ (runD E0 (Xs.map fun y => (true,y))) a' w' → pn.Hold a' → Q' .normal a' w') :
  ∀ (fuel:Nat) (L:List Bool) (a:Act) (w:World),L.length = ops.size → L.count false = fuel → Closed ops L → Sim2 Γ (runD E0 (L.zip Xs)) a w → pn.Hold a → wpAny P .any ops Q' fuel L.toArray a w:=by
 obtain ⟨hlen,hstep⟩:=StepsOkI.get _ _ hst
 have hlen':Xs.length = ops.size:=by grind
 intro fuel
 induction fuel with
 | zero =>
  intro L a w hL hcnt hcl hs hpa
  have hall:∀ b ∈ L,b = true:=by grind
  have hLt:L = List.replicate ops.size true:=by
   rw [← hL];exact List.eq_replicate_iff.2 ⟨rfl,hall⟩
  refine ⟨?_,?_⟩
  ·apply List.eq_nil_iff_forall_not_mem.2
   intro j hj
   obtain ⟨h1,o,ho,_⟩:=mem_ready.1 hj
   have hlt:=(Array.getElem?_eq_some_iff.1 ho).1
   rw [hLt] at h1
   simp [hlt] at h1
  ·refine hQ a w ?_ hpa
   have:L.zip Xs = Xs.map fun y => (true,y):=by
    rw [hLt,← hlen']
    clear hs hL hLt hall hcnt hcl hst hw hh hp hlen hlen' hstep hQ
    induction Xs with
    | nil => rfl
    | cons X Xs ih => simp [List.replicate_succ,ih]
   grind
 | succ fuel ih =>
  intro L a w hL hcnt hcl hs hpa
  refine ⟨fun hr => ?_,fun i hi => ?_⟩
  ·
   exfalso
   have hex:∃ m:Nat,L[m]? = some false:=by
    have:false ∈ L:=by
     grind
    grind[List.mem_iff_getElem?]
   obtain ⟨m,hm,hmin⟩:=least hex
   have hmlt:=(List.getElem?_eq_some_iff.1 hm).1
   have hom:ops[m]? = some ops[m]:=by simp
   have:m ∈ Region.ready .any ops L.toArray:=by
    refine mem_ready.2 ⟨by simp_all,ops[m],hom,fun e he hb => ?_⟩
    have hpm:e.on ∈ preds ops[m]:=by
     simp only [preds,List.mem_map,List.mem_filter]
     grind
    have hlt:=fwd_get ops.toList 0 m _ hf (by simp) _ hpm
    rw [Nat.zero_add] at hlt
    cases hL1:L[e.on]? with
    | none => grind
    | some b =>
     cases b with
     | false => grind
     | true => simp_all
   grind
  ·obtain ⟨h1,o,ho,hall⟩:=mem_ready.1 hi
   have hlt:=(Array.getElem?_eq_some_iff.1 ho).1
   have hLi:L[i]? = some false:=by
    simp_all
   have hpr:∀ m ∈ preds o,L[m]? = some true:=by
    intro m hm
    simp only [preds,List.mem_map,List.mem_filter] at hm
    obtain ⟨e,⟨he,hb⟩,rfl⟩:=hm
    have:=hall e (by grind) hb
    cases hL1:L[e.on]? with
    | none => grind
    | some b => simp_all
   have hanc:=anc_listed hf ha hcl i i (Nat.le_refl _) o ho hpr
   have hXi:Xs[i]? = some Xs[i]:=by simp
   generalize hXe:Xs[i] = X at hXi
   have hlate:∀ (j:Nat) (Y:Stp),Xs[j]? = some Y → i < j → L[j]? = some true → X.apart Y = true:=by
    intro j Y hY hij hj
    rcases pairs_get Xs Xs 0 an j Y hp hY i X (by omega) hXi with h | h
    ·have hjlt:=(List.getElem?_eq_some_iff.1 hY).1
     have hoj:ops[j]? = some ops[j]:=by simp
     have:=anc_listed hf ha hcl j j (Nat.le_refl _) _ hoj (hcl j _ hoj hj) i h
     grind
    ·exact h
   have hearly:∀ (j:Nat) (Y:Stp),Xs[j]? = some Y → j < i → L[j]? = some false → Y.apart X = true:=by
    grind[pairs_get]
   have hpre:∀ y ∈ (L.take i).zip (Xs.take i),∃ j:Nat,j < i ∧ L[j]? = some y.1 ∧ Xs[j]? = some y.2:=by
    intro y hy
    obtain ⟨j,g1,g2⟩:=zip_get hy
    rw [List.getElem?_take] at g1 g2
    grind
   have hpost:∀ y ∈ (L.drop (i + 1)).zip (Xs.drop (i + 1)),∃ j:Nat,i < j ∧ L[j]? = some y.1 ∧ Xs[j]? = some y.2:=by
    intro y hy
    obtain ⟨j,g1,g2⟩:=zip_get hy
    rw [List.getElem?_drop] at g1 g2
    grind
   have hsp:=zip_split hLi hXi
   have hhas:(runD E0 (L.zip Xs)).Has X.rd:=by
    rw [hsp,runD_append]
    simp only [runD,Bool.false_eq_true,if_false]
    have h0:=HasFrom.get Xs E0 hh i X hXi
    refine h0.of fun s t hst hs0 => ?_
    have hsm:s ∈ X.rd.map (·.1):=by grind
    refine runD_keep _ _ (fun y hy hb => ?_) ?_
    ·obtain ⟨j,g1,g2,g3⟩:=hpost y hy
     have:=Stp.apart_spec (hlate j y.2 g3 g1 (by rw [g2,hb]))
     exact ⟨by grind,by grind⟩
    ·have hmp:((L.take i).zip (Xs.take i)).map (fun y => (true,y.2)) = (Xs.take i).map fun y => (true,y):=by
      have hl2:(L.take i).length = (Xs.take i).length:=by simp;omega
      rw [show (fun y:Bool × Stp => (true,y.2)) = (fun y => (true,y)) ∘ Prod.snd from rfl,← List.map_map,List.map_snd_zip (by omega)]
     refine runD_less _ E0 E0 (fun y hy hb hs' => ?_) (fun _ h => h) t (by grind)
     obtain ⟨j,g1,g2,g3⟩:=hpre y hy
     have:=Stp.apart_spec (hearly j y.2 g3 g1 (by rw [g2,hb]))
     grind
   have hnext:runD E0 ((L.set i true).zip Xs) = (runD E0 (L.zip Xs)).apps X.l:=by
    have hLs:(L.set i true)[i]? = some true:=by grind
    rw [zip_split hLs hXi,hsp,runD_append,runD_append]
    simp only [runD,if_true,Bool.false_eq_true,if_false,List.take_set_of_le (Nat.le_refl i),List.drop_set_of_lt (Nat.lt_succ_self i)]
    refine runD_late _ X _ fun y hy hb => ?_
    obtain ⟨j,g1,g2,g3⟩:=hpost y hy
    exact (Stp.apart_spec (by grind)).1
   have hstp:=hstep i o X (by grind) hXi _ hhas (HoldS.runD (L.zip Xs) E0 hI fun y hy => List.all_eq_true.1 hw _ (by obtain ⟨j,_,g⟩:=zip_get hy;grind))
   unfold wpOp
   simp only [ho]
   refine hstp a w _ Q' hpa hs fun a' w' hs' hfr => ?_
   rw [List.setIfInBounds_toArray]
   have hok:pn.ok o.dst = true:=by grind
   refine ih (L.set i true) a' w' (by simp [hL]) (by grind) ?_ (by grind) (hpa.frame hok hfr)
   intro k ok hk hkt m hm
   by_cases hki:k = i
   ·subst hki
    rw [ho] at hk;simp at hk;subst hk
    rw [List.getElem?_set]
    split
    ·grind
    grind
   ·rw [List.getElem?_set_ne (Ne.symm hki)] at hkt
    rw [List.getElem?_set]
    split
    ·grind
    ·exact hcl k ok hk hkt m hm
theorem CW.drawnI {hs0:List Nat} {id:Nat} {E:Env} {Q:Exit → Env → Prop} (Xs:List Stp) (an:List (List Nat)) (hm:P.follows .mixedOrders = true) (hst:StepsOkI P Γ pn hs0 ops ops.toList Xs) (hI:HoldS hs0 E) (hw:Xs.all (wrS hs0) = true) (hh:HasFrom E Xs)
  (hQ:Q .normal (runD E (Xs.map fun y => (true,y)))) (hf:fwdFrom 0 ops.toList = true:=by rfl) (ha:ancFrom an an ops.toList = true:=by rfl) (hp:pairsFrom Xs 0 an Xs = true:=by rfl)
  (hpn:ops.toList.all (fun o => pn.ok o.dst) = true:=by rfl):CW P Γ pn (.region id ops true) E Q:=by
 intro a w Q' hs hpa hQ'
 refine wp_region_any hm ?_
 have hs':Sim2 Γ E a { w with drawn:=w.drawn + 1 }:=by
  obtain ⟨S,hS,hdf,G,hr⟩:=hs
  exact ⟨S,hS,hdf,G,hr.heap rfl⟩
 have:=wpAny_stepsI (P:=P) (Γ:=Γ) (pn:=pn) (E0:=E) (Q':=Q') hf ha hp hst hI hw hh hpn (by grind) ops.size (List.replicate ops.size false) a { w with drawn:=w.drawn + 1 } (by simp) (by simp)
  (fun i o ho hi => by
   grind) (by
   have:runD E ((List.replicate ops.size false).zip Xs) = E:=by
    generalize ops.size = n
    clear hst hI hw hh hQ hf ha hp hs'
    induction n generalizing Xs with
    | zero => simp [runD]
    | succ n ih =>
     cases Xs with
     | nil => simp [runD]
     | cons X Xs => simpa [List.replicate_succ,runD] using ih Xs
   grind) hpa
 grind
def DK (P:Program) (Γ:Ctx) (pn:Pins) (ops:Array Oper) (id:Nat) (hs:List Nat) (E0:Env) (Q:Exit → Env → Prop) (os:List Oper) (E:Env) (acc:List Stp):Prop :=
 ∀ don,don ++ os = ops.toList → StepsOkI P Γ pn hs ops don acc.reverse → HasFrom E0 acc.reverse → E = runD E0 (acc.reverse.map fun y => (true,y)) → CW P Γ pn (.region id ops true) E0 Q
variable {E0:Env} {acc:List Stp}
theorem CW.dk (h:DK P Γ pn ops id [] E Q ops.toList E []):CW P Γ pn (.region id ops true) E Q:=h [] rfl trivial trivial rfl
theorem dGP (rd:List (Nat × T)) (l:Apps) (hrd:E.Has rd) (hst:∀ E':Env,E'.Has rd → HoldS hs E' → IxOkP P Γ pn ops o E' (E'.apps l)) (k:DK P Γ pn ops id hs E0 Q os (E.apps l) (⟨rd,l⟩ :: acc)):DK P Γ pn ops id hs E0 Q (o :: os) E acc:=by
 intro don hd hso hh hE
 subst hE
 have hr:=fun X => List.reverse_cons (a:=X) (as:=acc)
 refine k (don ++ [o]) (by simp [hd]) ?_ ?_ ?_
 ·grind[StepsOkI.snoc]
 ·grind[HasFrom.snoc]
 ·rw [hr,List.map_append,runD_append];rfl
theorem dGS (rd:List (Nat × T)) (l:Apps) (hrd:E.Has rd) (hst:∀ E':Env,E'.Has rd → HoldS hs E' → IxOk P Γ ops o E' (E'.apps l)) (k:DK P Γ pn ops id hs E0 Q os (E.apps l) (⟨rd,l⟩ :: acc)):DK P Γ pn ops id hs E0 Q (o :: os) E acc :=
 dGP rd l hrd (fun E' h h' a w K Q _ => hst E' h h' a w K Q) k
theorem dG (rd:List (Nat × T)) (l:Apps) (hrd:E.Has rd) (hst:∀ E':Env,E'.Has rd → IxOk P Γ ops o E' (E'.apps l)) (k:DK P Γ pn ops id hs E0 Q os (E.apps l) (⟨rd,l⟩ :: acc)):DK P Γ pn ops id hs E0 Q (o :: os) E acc :=
 by grind[dGS]
def holdB (hs:List Nat) (E:Env):Bool:=hs.all fun s => match E s with
 | some t => isSP t
 | none => false
theorem holdB_ok (h:holdB hs E = true):HoldS hs E:=by
 intro s hs'
 have h1:=List.all_eq_true.1 h s (by grind)
 grind
theorem dN (an:List (List Nat)) (hm:P.follows .mixedOrders = true) (hQ:Q .normal E) (hf:fwdFrom 0 ops.toList = true:=by rfl) (ha:ancFrom an an ops.toList = true:=by rfl) (hp:pairsFrom acc.reverse 0 an acc.reverse = true:=by rfl)
  (hpn:ops.toList.all (fun o => pn.ok o.dst) = true:=by rfl) (hh0:holdB hs E0 = true:=by rfl) (hw:acc.reverse.all (wrS hs) = true:=by rfl):DK P Γ pn ops id hs E0 Q [] E acc:=by
 intro don hd hst hh hE
 grind[CW.drawnI,holdB_ok]
end
end Go.Ab

namespace Go.Ab
open Go
section
variable {P:Program} {Γ:Ctx} {pn:Pins} {E E':Env} {Q:Exit → Env → Prop} {ops:Array Oper} {o:Oper} {os:List Oper} {id d:Nat} {wr:Wr} {chg:Chg} {hs:List Nat} {E0:Env} {acc:List Stp} {x y:Operand} {ty:TypeId} {ps:String} {af:Array Edge} {gd:Option (Nat × Bool)}
class SliI (P:Program) (t:TypeId) (e:outParam TypeId):Prop where
 h:P.underlying t = some (.slice e)
class VarI (P:Program) (t:TypeId) (b:outParam Bool) (n:outParam Nat):Prop where
 h:∀ u:T,u.single = b → u.size = n → VarT P t u
theorem hE {rd:List (Nat × T)} {s:Nat} {t:T} (h:E.Has rd) (hr:envL rd s = some t):E s = some t:=h.le s t hr
theorem hO {rd:List (Nat × T)} {t:T} (h:E.Has rd) (hr:opT (envL rd) x = some t):opT E x = some t:=by
 cases x <;> simp only [opT] at hr ⊢
 ·exact h.le _ _ hr
 all_goals exact hr
mutual
def cleanB:T → Bool
 | .ro _ | .lit _ | .any => true
 | .agg xs | .tup xs => cleanBs xs
 | .ptr t => cleanB t
 | .sl _ [] => true
 | _ => false
def cleanBs:List T → Bool
 | [] => true
 | x :: xs => cleanB x && cleanBs xs
end
mutual
theorem cleanB_ok:{t:T} → cleanB t = true → Clean t
 | .ro _,_ | .lit _,_ | .any,_ => by simp [Clean,AllR]
 | .agg xs,h | .tup xs,h => by simp only [cleanB] at h;simpa only [Clean,AllR] using cleanBs_ok h
 | .ptr t,h => by simp only [cleanB] at h;exact cleanP (cleanB_ok h)
 | .sl _ [],_ => by simp [Clean,AllR,AllRs]
 | .sl _ (_ :: _),h => by simp [cleanB] at h
 | .same _ _,h | .addr _ _,h | .sub _ _ _ _ _,h => by simp [cleanB] at h
theorem cleanBs_ok:{xs:List T} → cleanBs xs = true → Cleans xs
 | [],_ => trivial
 | x :: xs,h => by simp only [cleanBs,Bool.and_eq_true] at h;exact ⟨cleanB_ok h.1,cleanBs_ok h.2⟩
end
theorem y_ix {α:Type} {t e:TypeId} {ti:TypeInfo} {r k:Nat} {q:List Nat} {f:α → T} {xs:List α} {v:α} {i:Int} [ht:RowT P t e ti k] (hx:locT E x = some (r,q,L k f xs)) (hy:opT E y = some (I i)) (hv:ixO xs i = some v) (sd:Nat.blt d Γ.N = true) :
  Ok P Γ ⟨some d,.indexAddr t x y,ty,ps,af,gd⟩ E (E.app [(d,some (.addr r (i.toNat :: q)))] [(d,0)]):=x_ix ht hv hx hy sd
theorem y_ixr {α:Type} {t e:TypeId} {ti:TypeInfo} {r k:Nat} {q:List Nat} {f:α → T} {xs:List α} {v:α} {i:Int} [ht:RowT P t e ti k] (hx:locT E x = some (r,q,.ro (L k f xs))) (hy:opT E y = some (I i)) (hv:ixO xs i = some v) (sd:Nat.blt d Γ.N = true) :
  Ok P Γ ⟨some d,.indexAddr t x y,ty,ps,af,gd⟩ E (E.app [(d,some (.ro (.ptr (f v))))] [(d,0)]):=x_ixr ht hv hx hy sd
theorem y_ldr {t:TypeId} {u:T} {b:Bool} {n:Nat} [i:VarI P t b n] (hx:opT E x = some (.ro (.ptr u))) (h1:u.single = b) (h2:u.size = n) (sd:Nat.blt d Γ.N = true):Ok P Γ ⟨some d,.load t x,ty,ps,af,gd⟩ E (E.app [(d,some (roT u))] [(d,0)]):=x_ldr (i.h u h1 h2) hx sd
theorem y_ld {t:TypeId} {u tr:T} {r:Nat} {q:List Nat} {b:Bool} {n:Nat} [i:VarI P t b n] (hx:opT E x = some (.addr r q)) (hr:E r = some tr) (hg:tr.get q.reverse = some u) (h1:u.single = b) (h2:u.size = n) (sd:(Nat.blt d Γ.N && tr.locd q.reverse && (r != d) && T.okB [(d,0)] (cpT r u q)) = true) :
  Ok P Γ ⟨some d,.load t x,ty,ps,af,gd⟩ E (E.app [(d,some (cpT r u q))] [(d,0)]):=x_ld (i.h u h1 h2) hx hr hg sd
theorem y_ldp {t:TypeId} {u tr t0:T} {r:Nat} {q:List Nat} {b:Bool} {n:Nat} [i:VarI P t b n] (hx:locT E x = some (r,q,.ptr t0)) (hr:E r = some tr) (hg:tr.get (0 :: q).reverse = some u) (h1:u.single = b) (h2:u.size = n) (sd:(Nat.blt d Γ.N && tr.locd (0 :: q).reverse && (r != d) && T.okB [(d,0)] (cpT r u (0 :: q))) = true) :
  Ok P Γ ⟨some d,.load t x,ty,ps,af,gd⟩ E (E.app [(d,some (cpT r u (0 :: q)))] [(d,0)]):=x_ldp (i.h u h1 h2) hx hr hg sd
theorem y_len {α:Type} {t e:TypeId} {r k:Nat} {q:List Nat} {f:α → T} {xs:List α} [i:SliI P t e] (hx:locT E x = some (r,q,L k f xs)) (sd:Nat.blt d Γ.N = true) :
  Ok P Γ ⟨some d,.call { callee:=.builtin .len,args:=#[x],argTypes:=#[t] },ty,ps,af,gd⟩ E (E.app [(d,some (I (xs.length:Int)))] [(d,0)]):=x_len i.h hx sd
theorem y_lenr {α:Type} {t e:TypeId} {r k:Nat} {q:List Nat} {f:α → T} {xs:List α} [i:SliI P t e] (hx:locT E x = some (r,q,.ro (L k f xs))) (sd:Nat.blt d Γ.N = true) :
  Ok P Γ ⟨some d,.call { callee:=.builtin .len,args:=#[x],argTypes:=#[t] },ty,ps,af,gd⟩ E (E.app [(d,some (I (xs.length:Int)))] [(d,0)]):=x_lenr i.h hx sd
theorem a_mv (k:RW P Γ pn ops os (E.app wr chg) Q) (h:Ok P Γ o E (E.app wr chg):=by exact x_mv rfl rfl) (hg:o.guard = none:=by rfl) (hp:pn.ok o.dst = true:=by rfl):RW P Γ pn ops (o :: os) E Q:=oP h k hg hp
theorem g_mv {g s:Nat} {b:Bool} (k:RW P Γ pn ops os (E.app wr chg) Q) (hg:o.guard = some (g,b):=by rfl) (hgo:(ops[g]?).bind (·.dst) = some s:=by rfl) (hb:E s = some (.lit (.bool b)):=by rfl) (h:Ok P Γ o E (E.app wr chg):=by exact x_mv rfl rfl) (hp:pn.ok o.dst = true:=by rfl):RW P Γ pn ops (o :: os) E Q:=RW.cons (IxOk.guard g b s h hg hgo hb) k hp
theorem a_as (k:RW P Γ pn ops os (E.app wr chg) Q) (h:Ok P Γ o E (E.app wr chg):=by exact x_as rfl rfl) (hg:o.guard = none:=by rfl) (hp:pn.ok o.dst = true:=by rfl):RW P Γ pn ops (o :: os) E Q:=oP h k hg hp
theorem a_ldr (k:RW P Γ pn ops os (E.app wr chg) Q) (h:Ok P Γ o E (E.app wr chg):=by exact y_ldr rfl rfl rfl rfl) (hg:o.guard = none:=by rfl) (hp:pn.ok o.dst = true:=by rfl):RW P Γ pn ops (o :: os) E Q:=oP h k hg hp
theorem g_ldr {g s:Nat} {b:Bool} (k:RW P Γ pn ops os (E.app wr chg) Q) (hg:o.guard = some (g,b):=by rfl) (hgo:(ops[g]?).bind (·.dst) = some s:=by rfl) (hb:E s = some (.lit (.bool b)):=by rfl) (h:Ok P Γ o E (E.app wr chg):=by exact y_ldr rfl rfl rfl rfl) (hp:pn.ok o.dst = true:=by rfl):RW P Γ pn ops (o :: os) E Q:=RW.cons (IxOk.guard g b s h hg hgo hb) k hp
theorem a_ixr (k:RW P Γ pn ops os (E.app wr chg) Q) (h:Ok P Γ o E (E.app wr chg):=by exact y_ixr (by first | exact locB rfl rfl | exact locA rfl rfl (by first | rfl | exact getc (by assumption) rfl | exact getc (by assumption) (getc (by assumption) rfl) | exact geta rfl (getc (by assumption) rfl) | exact getp (getc (by assumption) rfl) | exact getp (geta rfl (getc (by assumption) rfl)) | exact getp (geta rfl (getc (by assumption) (getc (by assumption) rfl)))) rfl) rfl (by assumption) rfl) (hg:o.guard = none:=by rfl) (hp:pn.ok o.dst = true:=by rfl):RW P Γ pn ops (o :: os) E Q:=oP h k hg hp
theorem a_lenr (k:RW P Γ pn ops os (E.app wr chg) Q) (h:Ok P Γ o E (E.app wr chg):=by exact y_lenr (by first | exact locB rfl rfl | exact locA rfl rfl (by first | rfl | exact getc (by assumption) rfl | exact getc (by assumption) (getc (by assumption) rfl) | exact geta rfl (getc (by assumption) rfl) | exact getp (getc (by assumption) rfl) | exact getp (geta rfl (getc (by assumption) rfl)) | exact getp (geta rfl (getc (by assumption) (getc (by assumption) rfl)))) rfl) rfl) (hg:o.guard = none:=by rfl) (hp:pn.ok o.dst = true:=by rfl):RW P Γ pn ops (o :: os) E Q:=oP h k hg hp
theorem a_add (k:RW P Γ pn ops os (E.app wr chg) Q) (h:Ok P Γ o E (E.app wr chg):=by exact x_add (by assumption) rfl rfl rfl) (hg:o.guard = none:=by rfl) (hp:pn.ok o.dst = true:=by rfl):RW P Γ pn ops (o :: os) E Q:=oP h k hg hp
theorem a_lss (k:RW P Γ pn ops os (E.app wr chg) Q) (h:Ok P Γ o E (E.app wr chg):=by exact x_lss rfl rfl rfl) (hg:o.guard = none:=by rfl) (hp:pn.ok o.dst = true:=by rfl):RW P Γ pn ops (o :: os) E Q:=oP h k hg hp
theorem g_lss {g s:Nat} {b:Bool} (k:RW P Γ pn ops os (E.app wr chg) Q) (hg:o.guard = some (g,b):=by rfl) (hgo:(ops[g]?).bind (·.dst) = some s:=by rfl) (hb:E s = some (.lit (.bool b)):=by rfl) (h:Ok P Γ o E (E.app wr chg):=by exact x_lss rfl rfl rfl) (hp:pn.ok o.dst = true:=by rfl):RW P Γ pn ops (o :: os) E Q:=RW.cons (IxOk.guard g b s h hg hgo hb) k hp
theorem a_pick (k:RW P Γ pn ops os (E.app wr chg) Q) (h:Ok P Γ o E (E.app wr chg):=by exact x_pick rfl rfl rfl) (hg:o.guard = none:=by rfl) (hp:pn.ok o.dst = true:=by rfl):RW P Γ pn ops (o :: os) E Q:=oP h k hg hp
theorem a_fa (k:RW P Γ pn ops os (E.app wr chg) Q) (h:Ok P Γ o E (E.app wr chg):=by exact x_fa inferInstance (by first | exact locB rfl rfl | exact locA rfl rfl (by first | rfl | exact getc (by assumption) rfl | exact getc (by assumption) (getc (by assumption) rfl) | exact geta rfl (getc (by assumption) rfl) | exact getp (getc (by assumption) rfl) | exact getp (geta rfl (getc (by assumption) rfl)) | exact getp (geta rfl (getc (by assumption) (getc (by assumption) rfl)))) rfl) rfl rfl rfl) (hg:o.guard = none:=by rfl) (hp:pn.ok o.dst = true:=by rfl):RW P Γ pn ops (o :: os) E Q:=oP h k hg hp
theorem g_fa {g s:Nat} {b:Bool} (k:RW P Γ pn ops os (E.app wr chg) Q) (hg:o.guard = some (g,b):=by rfl) (hgo:(ops[g]?).bind (·.dst) = some s:=by rfl) (hb:E s = some (.lit (.bool b)):=by rfl) (h:Ok P Γ o E (E.app wr chg):=by exact x_fa inferInstance (by first | exact locB rfl rfl | exact locA rfl rfl (by first | rfl | exact getc (by assumption) rfl | exact getc (by assumption) (getc (by assumption) rfl) | exact geta rfl (getc (by assumption) rfl) | exact getp (getc (by assumption) rfl) | exact getp (geta rfl (getc (by assumption) rfl)) | exact getp (geta rfl (getc (by assumption) (getc (by assumption) rfl)))) rfl) rfl rfl rfl) (hp:pn.ok o.dst = true:=by rfl):RW P Γ pn ops (o :: os) E Q:=RW.cons (IxOk.guard g b s h hg hgo hb) k hp
theorem a_ld (k:RW P Γ pn ops os (E.app wr chg) Q) (h:Ok P Γ o E (E.app wr chg):=by first | exact y_ld rfl rfl rfl rfl rfl rfl | exact y_ld rfl rfl (by first | rfl | exact getc (by assumption) rfl | exact getc (by assumption) (getc (by assumption) rfl) | exact geta rfl (getc (by assumption) rfl) | exact getp (getc (by assumption) rfl) | exact getp (geta rfl (getc (by assumption) rfl)) | exact getp (geta rfl (getc (by assumption) (getc (by assumption) rfl)))) (by rfl) (by rfl) (by rfl)) (hg:o.guard = none:=by rfl) (hp:pn.ok o.dst = true:=by rfl):RW P Γ pn ops (o :: os) E Q:=oP h k hg hp
theorem g_ld {g s:Nat} {b:Bool} (k:RW P Γ pn ops os (E.app wr chg) Q) (hg:o.guard = some (g,b):=by rfl) (hgo:(ops[g]?).bind (·.dst) = some s:=by rfl) (hb:E s = some (.lit (.bool b)):=by rfl) (h:Ok P Γ o E (E.app wr chg):=by first | exact y_ld rfl rfl rfl rfl rfl rfl | exact y_ld rfl rfl (by first | rfl | exact getc (by assumption) rfl | exact getc (by assumption) (getc (by assumption) rfl) | exact geta rfl (getc (by assumption) rfl) | exact getp (getc (by assumption) rfl) | exact getp (geta rfl (getc (by assumption) rfl)) | exact getp (geta rfl (getc (by assumption) (getc (by assumption) rfl)))) (by rfl) (by rfl) (by rfl)) (hp:pn.ok o.dst = true:=by rfl):RW P Γ pn ops (o :: os) E Q:=RW.cons (IxOk.guard g b s h hg hgo hb) k hp
theorem a_ldp (k:RW P Γ pn ops os (E.app wr chg) Q) (h:Ok P Γ o E (E.app wr chg):=by first | exact y_ldp (by first | exact locB rfl rfl | exact locA rfl rfl (by first | rfl | exact getc (by assumption) rfl | exact getc (by assumption) (getc (by assumption) rfl) | exact geta rfl (getc (by assumption) rfl) | exact getp (getc (by assumption) rfl) | exact getp (geta rfl (getc (by assumption) rfl)) | exact getp (geta rfl (getc (by assumption) (getc (by assumption) rfl)))) rfl) rfl rfl rfl rfl rfl | exact y_ldp (by first | exact locB rfl rfl | exact locA rfl rfl (by first | rfl | exact getc (by assumption) rfl | exact getc (by assumption) (getc (by assumption) rfl) | exact geta rfl (getc (by assumption) rfl) | exact getp (getc (by assumption) rfl) | exact getp (geta rfl (getc (by assumption) rfl)) | exact getp (geta rfl (getc (by assumption) (getc (by assumption) rfl)))) rfl) rfl (by first | rfl | exact getc (by assumption) rfl | exact getc (by assumption) (getc (by assumption) rfl) | exact geta rfl (getc (by assumption) rfl) | exact getp (getc (by assumption) rfl) | exact getp (geta rfl (getc (by assumption) rfl)) | exact getp (geta rfl (getc (by assumption) (getc (by assumption) rfl)))) (by rfl) (by rfl) (by rfl)) (hg:o.guard = none:=by rfl) (hp:pn.ok o.dst = true:=by rfl):RW P Γ pn ops (o :: os) E Q:=oP h k hg hp
theorem g_ldp {g s:Nat} {b:Bool} (k:RW P Γ pn ops os (E.app wr chg) Q) (hg:o.guard = some (g,b):=by rfl) (hgo:(ops[g]?).bind (·.dst) = some s:=by rfl) (hb:E s = some (.lit (.bool b)):=by rfl) (h:Ok P Γ o E (E.app wr chg):=by first | exact y_ldp (by first | exact locB rfl rfl | exact locA rfl rfl (by first | rfl | exact getc (by assumption) rfl | exact getc (by assumption) (getc (by assumption) rfl) | exact geta rfl (getc (by assumption) rfl) | exact getp (getc (by assumption) rfl) | exact getp (geta rfl (getc (by assumption) rfl)) | exact getp (geta rfl (getc (by assumption) (getc (by assumption) rfl)))) rfl) rfl rfl rfl rfl rfl | exact y_ldp (by first | exact locB rfl rfl | exact locA rfl rfl (by first | rfl | exact getc (by assumption) rfl | exact getc (by assumption) (getc (by assumption) rfl) | exact geta rfl (getc (by assumption) rfl) | exact getp (getc (by assumption) rfl) | exact getp (geta rfl (getc (by assumption) rfl)) | exact getp (geta rfl (getc (by assumption) (getc (by assumption) rfl)))) rfl) rfl (by first | rfl | exact getc (by assumption) rfl | exact getc (by assumption) (getc (by assumption) rfl) | exact geta rfl (getc (by assumption) rfl) | exact getp (getc (by assumption) rfl) | exact getp (geta rfl (getc (by assumption) rfl)) | exact getp (geta rfl (getc (by assumption) (getc (by assumption) rfl)))) (by rfl) (by rfl) (by rfl)) (hp:pn.ok o.dst = true:=by rfl):RW P Γ pn ops (o :: os) E Q:=RW.cons (IxOk.guard g b s h hg hgo hb) k hp
theorem a_sub (k:RW P Γ pn ops os (E.app wr chg) Q) (h:Ok P Γ o E (E.app wr chg):=by exact x_sub (by assumption) rfl rfl rfl) (hg:o.guard = none:=by rfl) (hp:pn.ok o.dst = true:=by rfl):RW P Γ pn ops (o :: os) E Q:=oP h k hg hp
theorem a_not (k:RW P Γ pn ops os (E.app wr chg) Q) (h:Ok P Γ o E (E.app wr chg):=by exact x_not rfl rfl) (hg:o.guard = none:=by rfl) (hp:pn.ok o.dst = true:=by rfl):RW P Γ pn ops (o :: os) E Q:=oP h k hg hp
theorem g_not {g s:Nat} {b:Bool} (k:RW P Γ pn ops os (E.app wr chg) Q) (hg:o.guard = some (g,b):=by rfl) (hgo:(ops[g]?).bind (·.dst) = some s:=by rfl) (hb:E s = some (.lit (.bool b)):=by rfl) (h:Ok P Γ o E (E.app wr chg):=by exact x_not rfl rfl) (hp:pn.ok o.dst = true:=by rfl):RW P Γ pn ops (o :: os) E Q:=RW.cons (IxOk.guard g b s h hg hgo hb) k hp
theorem a_eql (k:RW P Γ pn ops os (E.app wr chg) Q) (h:Ok P Γ o E (E.app wr chg):=by exact x_eql rfl rfl rfl) (hg:o.guard = none:=by rfl) (hp:pn.ok o.dst = true:=by rfl):RW P Γ pn ops (o :: os) E Q:=oP h k hg hp
theorem g_eql {g s:Nat} {b:Bool} (k:RW P Γ pn ops os (E.app wr chg) Q) (hg:o.guard = some (g,b):=by rfl) (hgo:(ops[g]?).bind (·.dst) = some s:=by rfl) (hb:E s = some (.lit (.bool b)):=by rfl) (h:Ok P Γ o E (E.app wr chg):=by exact x_eql rfl rfl rfl) (hp:pn.ok o.dst = true:=by rfl):RW P Γ pn ops (o :: os) E Q:=RW.cons (IxOk.guard g b s h hg hgo hb) k hp
theorem a_gtr (k:RW P Γ pn ops os (E.app wr chg) Q) (h:Ok P Γ o E (E.app wr chg):=by exact x_gtr rfl rfl rfl) (hg:o.guard = none:=by rfl) (hp:pn.ok o.dst = true:=by rfl):RW P Γ pn ops (o :: os) E Q:=oP h k hg hp
theorem a_far (k:RW P Γ pn ops os (E.app wr chg) Q) (h:Ok P Γ o E (E.app wr chg):=by exact x_far inferInstance rfl rfl rfl rfl) (hg:o.guard = none:=by rfl) (hp:pn.ok o.dst = true:=by rfl):RW P Γ pn ops (o :: os) E Q:=oP h k hg hp
theorem g_far {g s:Nat} {b:Bool} (k:RW P Γ pn ops os (E.app wr chg) Q) (hg:o.guard = some (g,b):=by rfl) (hgo:(ops[g]?).bind (·.dst) = some s:=by rfl) (hb:E s = some (.lit (.bool b)):=by rfl) (h:Ok P Γ o E (E.app wr chg):=by exact x_far inferInstance rfl rfl rfl rfl) (hp:pn.ok o.dst = true:=by rfl):RW P Γ pn ops (o :: os) E Q:=RW.cons (IxOk.guard g b s h hg hgo hb) k hp
theorem a_nilc (k:RW P Γ pn ops os (E.app wr chg) Q) (h:Ok P Γ o E (E.app wr chg):=by first | exact x_nilc rfl (isPtr_ro rfl) rfl | exact x_nilc rfl (isPtr_addr rfl) rfl | exact x_nilc rfl (isPtr_own (by first | exact locB rfl rfl | exact locA rfl rfl (by first | rfl | exact getc (by assumption) rfl | exact getc (by assumption) (getc (by assumption) rfl) | exact geta rfl (getc (by assumption) rfl) | exact getp (getc (by assumption) rfl) | exact getp (geta rfl (getc (by assumption) rfl)) | exact getp (geta rfl (getc (by assumption) (getc (by assumption) rfl)))) rfl)) rfl) (hg:o.guard = none:=by rfl) (hp:pn.ok o.dst = true:=by rfl):RW P Γ pn ops (o :: os) E Q:=oP h k hg hp
theorem a_ix (k:RW P Γ pn ops os (E.app wr chg) Q) (h:Ok P Γ o E (E.app wr chg):=by exact y_ix (by first | exact locB rfl rfl | exact locA rfl rfl (by first | rfl | exact getc (by assumption) rfl | exact getc (by assumption) (getc (by assumption) rfl) | exact geta rfl (getc (by assumption) rfl) | exact getp (getc (by assumption) rfl) | exact getp (geta rfl (getc (by assumption) rfl)) | exact getp (geta rfl (getc (by assumption) (getc (by assumption) rfl)))) rfl) rfl (by assumption) rfl) (hg:o.guard = none:=by rfl) (hp:pn.ok o.dst = true:=by rfl):RW P Γ pn ops (o :: os) E Q:=oP h k hg hp
theorem g_ix {g s:Nat} {b:Bool} (k:RW P Γ pn ops os (E.app wr chg) Q) (hg:o.guard = some (g,b):=by rfl) (hgo:(ops[g]?).bind (·.dst) = some s:=by rfl) (hb:E s = some (.lit (.bool b)):=by rfl) (h:Ok P Γ o E (E.app wr chg):=by exact y_ix (by first | exact locB rfl rfl | exact locA rfl rfl (by first | rfl | exact getc (by assumption) rfl | exact getc (by assumption) (getc (by assumption) rfl) | exact geta rfl (getc (by assumption) rfl) | exact getp (getc (by assumption) rfl) | exact getp (geta rfl (getc (by assumption) rfl)) | exact getp (geta rfl (getc (by assumption) (getc (by assumption) rfl)))) rfl) rfl (by assumption) rfl) (hp:pn.ok o.dst = true:=by rfl):RW P Γ pn ops (o :: os) E Q:=RW.cons (IxOk.guard g b s h hg hgo hb) k hp
theorem a_len (k:RW P Γ pn ops os (E.app wr chg) Q) (h:Ok P Γ o E (E.app wr chg):=by exact y_len (by first | exact locB rfl rfl | exact locA rfl rfl (by first | rfl | exact getc (by assumption) rfl | exact getc (by assumption) (getc (by assumption) rfl) | exact geta rfl (getc (by assumption) rfl) | exact getp (getc (by assumption) rfl) | exact getp (geta rfl (getc (by assumption) rfl)) | exact getp (geta rfl (getc (by assumption) (getc (by assumption) rfl)))) rfl) rfl) (hg:o.guard = none:=by rfl) (hp:pn.ok o.dst = true:=by rfl):RW P Γ pn ops (o :: os) E Q:=oP h k hg hp
theorem a_alloc (k:RW P Γ pn ops os (E.app wr chg) Q) (h:Ok P Γ o E (E.app wr chg):=by exact x_alloc inferInstance rfl) (hg:o.guard = none:=by rfl) (hp:pn.ok o.dst = true:=by rfl):RW P Γ pn ops (o :: os) E Q:=oP h k hg hp
theorem a_ext (k:RW P Γ pn ops os (E.app wr chg) Q) (h:Ok P Γ o E (E.app wr chg):=by exact x_ext rfl rfl rfl) (hg:o.guard = none:=by rfl) (hp:pn.ok o.dst = true:=by rfl):RW P Γ pn ops (o :: os) E Q:=oP h k hg hp
theorem a_mvT (k:RW P Γ pn ops os (E.app wr chg) Q) (h:Ok P Γ o E (E.app wr chg):=by exact x_mvT rfl rfl) (hg:o.guard = none:=by rfl) (hp:pn.ok o.dst = true:=by rfl):RW P Γ pn ops (o :: os) E Q:=oP h k hg hp
theorem d_mv (rd:List (Nat × T)) (k:DK P Γ pn ops id hs E0 Q os (E.app wr chg) (⟨rd,[(wr,chg)]⟩ :: acc)) (hrd:E.Has rd:=by repeat (first | exact trivial | refine ⟨rfl,?_⟩)) (h:∀ E':Env,E'.Has rd → Ok P Γ o E' (E'.app wr chg):=by intro E' h;exact x_mv (hO h rfl) rfl) (hg:o.guard = none:=by rfl):DK P Γ pn ops id hs E0 Q (o :: os) E acc:=dG rd [(wr,chg)] hrd (fun E' h' => IxOk.op (h E' h') hg) k
theorem e_mv {g s:Nat} {b:Bool} (rd:List (Nat × T)) (k:DK P Γ pn ops id hs E0 Q os (E.app wr chg) (⟨rd,[(wr,chg)]⟩ :: acc)) (hrd:E.Has rd:=by repeat (first | exact trivial | refine ⟨rfl,?_⟩)) (hg:o.guard = some (g,b):=by rfl) (hgo:(ops[g]?).bind (·.dst) = some s:=by rfl) (hb:envL rd s = some (.lit (.bool b)):=by rfl) (h:∀ E':Env,E'.Has rd → Ok P Γ o E' (E'.app wr chg):=by intro E' h;exact x_mv (hO h rfl) rfl):DK P Γ pn ops id hs E0 Q (o :: os) E acc:=dG rd [(wr,chg)] hrd (fun E' h' => IxOk.guard g b s (h E' h') hg hgo (hE h' hb)) k
theorem d_as (rd:List (Nat × T)) (k:DK P Γ pn ops id hs E0 Q os (E.app wr chg) (⟨rd,[(wr,chg)]⟩ :: acc)) (hrd:E.Has rd:=by repeat (first | exact trivial | refine ⟨rfl,?_⟩)) (h:∀ E':Env,E'.Has rd → Ok P Γ o E' (E'.app wr chg):=by intro E' h;exact x_as (hO h rfl) rfl) (hg:o.guard = none:=by rfl):DK P Γ pn ops id hs E0 Q (o :: os) E acc:=dG rd [(wr,chg)] hrd (fun E' h' => IxOk.op (h E' h') hg) k
theorem d_add (rd:List (Nat × T)) (k:DK P Γ pn ops id hs E0 Q os (E.app wr chg) (⟨rd,[(wr,chg)]⟩ :: acc)) (hrd:E.Has rd:=by repeat (first | exact trivial | refine ⟨rfl,?_⟩)) (h:∀ E':Env,E'.Has rd → Ok P Γ o E' (E'.app wr chg):=by intro E' h;exact x_add (by assumption) (hO h rfl) (hO h rfl) rfl) (hg:o.guard = none:=by rfl):DK P Γ pn ops id hs E0 Q (o :: os) E acc:=dG rd [(wr,chg)] hrd (fun E' h' => IxOk.op (h E' h') hg) k
theorem d_pick (rd:List (Nat × T)) (k:DK P Γ pn ops id hs E0 Q os (E.app wr chg) (⟨rd,[(wr,chg)]⟩ :: acc)) (hrd:E.Has rd:=by repeat (first | exact trivial | refine ⟨rfl,?_⟩)) (h:∀ E':Env,E'.Has rd → Ok P Γ o E' (E'.app wr chg):=by intro E' h;exact x_pick (hO h rfl) (hO h rfl) rfl) (hg:o.guard = none:=by rfl):DK P Γ pn ops id hs E0 Q (o :: os) E acc:=dG rd [(wr,chg)] hrd (fun E' h' => IxOk.op (h E' h') hg) k
theorem d_fa (rd:List (Nat × T)) (k:DK P Γ pn ops id hs E0 Q os (E.app wr chg) (⟨rd,[(wr,chg)]⟩ :: acc)) (hrd:E.Has rd:=by repeat (first | exact trivial | refine ⟨rfl,?_⟩)) (h:∀ E':Env,E'.Has rd → Ok P Γ o E' (E'.app wr chg):=by intro E' h;exact x_fa inferInstance (by first | exact locB (hE h rfl) rfl | exact locA (hE h rfl) (hE h rfl) (by first | rfl | exact getc (by assumption) rfl | exact getc (by assumption) (getc (by assumption) rfl) | exact geta rfl (getc (by assumption) rfl) | exact getp (getc (by assumption) rfl) | exact getp (geta rfl (getc (by assumption) rfl)) | exact getp (geta rfl (getc (by assumption) (getc (by assumption) rfl)))) rfl) rfl rfl rfl) (hg:o.guard = none:=by rfl):DK P Γ pn ops id hs E0 Q (o :: os) E acc:=dG rd [(wr,chg)] hrd (fun E' h' => IxOk.op (h E' h') hg) k
theorem e_fa {g s:Nat} {b:Bool} (rd:List (Nat × T)) (k:DK P Γ pn ops id hs E0 Q os (E.app wr chg) (⟨rd,[(wr,chg)]⟩ :: acc)) (hrd:E.Has rd:=by repeat (first | exact trivial | refine ⟨rfl,?_⟩)) (hg:o.guard = some (g,b):=by rfl) (hgo:(ops[g]?).bind (·.dst) = some s:=by rfl) (hb:envL rd s = some (.lit (.bool b)):=by rfl) (h:∀ E':Env,E'.Has rd → Ok P Γ o E' (E'.app wr chg):=by intro E' h;exact x_fa inferInstance (by first | exact locB (hE h rfl) rfl | exact locA (hE h rfl) (hE h rfl) (by first | rfl | exact getc (by assumption) rfl | exact getc (by assumption) (getc (by assumption) rfl) | exact geta rfl (getc (by assumption) rfl) | exact getp (getc (by assumption) rfl) | exact getp (geta rfl (getc (by assumption) rfl)) | exact getp (geta rfl (getc (by assumption) (getc (by assumption) rfl)))) rfl) rfl rfl rfl):DK P Γ pn ops id hs E0 Q (o :: os) E acc:=dG rd [(wr,chg)] hrd (fun E' h' => IxOk.guard g b s (h E' h') hg hgo (hE h' hb)) k
theorem d_ld (rd:List (Nat × T)) (k:DK P Γ pn ops id hs E0 Q os (E.app wr chg) (⟨rd,[(wr,chg)]⟩ :: acc)) (hrd:E.Has rd:=by repeat (first | exact trivial | refine ⟨rfl,?_⟩)) (h:∀ E':Env,E'.Has rd → Ok P Γ o E' (E'.app wr chg):=by intro E' h;first | exact y_ld (hO h rfl) (hE h rfl) rfl rfl rfl rfl | exact y_ld (hO h rfl) (hE h rfl) (by first | rfl | exact getc (by assumption) rfl | exact getc (by assumption) (getc (by assumption) rfl) | exact geta rfl (getc (by assumption) rfl) | exact getp (getc (by assumption) rfl) | exact getp (geta rfl (getc (by assumption) rfl)) | exact getp (geta rfl (getc (by assumption) (getc (by assumption) rfl)))) (by rfl) (by rfl) (by rfl)) (hg:o.guard = none:=by rfl):DK P Γ pn ops id hs E0 Q (o :: os) E acc:=dG rd [(wr,chg)] hrd (fun E' h' => IxOk.op (h E' h') hg) k
theorem e_ld {g s:Nat} {b:Bool} (rd:List (Nat × T)) (k:DK P Γ pn ops id hs E0 Q os (E.app wr chg) (⟨rd,[(wr,chg)]⟩ :: acc)) (hrd:E.Has rd:=by repeat (first | exact trivial | refine ⟨rfl,?_⟩)) (hg:o.guard = some (g,b):=by rfl) (hgo:(ops[g]?).bind (·.dst) = some s:=by rfl) (hb:envL rd s = some (.lit (.bool b)):=by rfl) (h:∀ E':Env,E'.Has rd → Ok P Γ o E' (E'.app wr chg):=by intro E' h;first | exact y_ld (hO h rfl) (hE h rfl) rfl rfl rfl rfl | exact y_ld (hO h rfl) (hE h rfl) (by first | rfl | exact getc (by assumption) rfl | exact getc (by assumption) (getc (by assumption) rfl) | exact geta rfl (getc (by assumption) rfl) | exact getp (getc (by assumption) rfl) | exact getp (geta rfl (getc (by assumption) rfl)) | exact getp (geta rfl (getc (by assumption) (getc (by assumption) rfl)))) (by rfl) (by rfl) (by rfl)):DK P Γ pn ops id hs E0 Q (o :: os) E acc:=dG rd [(wr,chg)] hrd (fun E' h' => IxOk.guard g b s (h E' h') hg hgo (hE h' hb)) k
theorem e_not {g s:Nat} {b:Bool} (rd:List (Nat × T)) (k:DK P Γ pn ops id hs E0 Q os (E.app wr chg) (⟨rd,[(wr,chg)]⟩ :: acc)) (hrd:E.Has rd:=by repeat (first | exact trivial | refine ⟨rfl,?_⟩)) (hg:o.guard = some (g,b):=by rfl) (hgo:(ops[g]?).bind (·.dst) = some s:=by rfl) (hb:envL rd s = some (.lit (.bool b)):=by rfl) (h:∀ E':Env,E'.Has rd → Ok P Γ o E' (E'.app wr chg):=by intro E' h;exact x_not (hO h rfl) rfl):DK P Γ pn ops id hs E0 Q (o :: os) E acc:=dG rd [(wr,chg)] hrd (fun E' h' => IxOk.guard g b s (h E' h') hg hgo (hE h' hb)) k
theorem e_geq {g s:Nat} {b:Bool} (rd:List (Nat × T)) (k:DK P Γ pn ops id hs E0 Q os (E.app wr chg) (⟨rd,[(wr,chg)]⟩ :: acc)) (hrd:E.Has rd:=by repeat (first | exact trivial | refine ⟨rfl,?_⟩)) (hg:o.guard = some (g,b):=by rfl) (hgo:(ops[g]?).bind (·.dst) = some s:=by rfl) (hb:envL rd s = some (.lit (.bool b)):=by rfl) (h:∀ E':Env,E'.Has rd → Ok P Γ o E' (E'.app wr chg):=by intro E' h;exact x_geq (hO h rfl) (hO h rfl) rfl):DK P Γ pn ops id hs E0 Q (o :: os) E acc:=dG rd [(wr,chg)] hrd (fun E' h' => IxOk.guard g b s (h E' h') hg hgo (hE h' hb)) k
theorem d_nilc (rd:List (Nat × T)) (k:DK P Γ pn ops id hs E0 Q os (E.app wr chg) (⟨rd,[(wr,chg)]⟩ :: acc)) (hrd:E.Has rd:=by repeat (first | exact trivial | refine ⟨rfl,?_⟩)) (h:∀ E':Env,E'.Has rd → Ok P Γ o E' (E'.app wr chg):=by intro E' h;first | exact x_nilc (hO h rfl) (isPtr_ro (hO h rfl)) rfl | exact x_nilc (hO h rfl) (isPtr_addr (hO h rfl)) rfl | exact x_nilc (hO h rfl) (isPtr_own (by first | exact locB (hE h rfl) rfl | exact locA (hE h rfl) (hE h rfl) (by first | rfl | exact getc (by assumption) rfl | exact getc (by assumption) (getc (by assumption) rfl) | exact geta rfl (getc (by assumption) rfl) | exact getp (getc (by assumption) rfl) | exact getp (geta rfl (getc (by assumption) rfl)) | exact getp (geta rfl (getc (by assumption) (getc (by assumption) rfl)))) rfl)) rfl) (hg:o.guard = none:=by rfl):DK P Γ pn ops id hs E0 Q (o :: os) E acc:=dG rd [(wr,chg)] hrd (fun E' h' => IxOk.op (h E' h') hg) k
theorem e_nilc {g s:Nat} {b:Bool} (rd:List (Nat × T)) (k:DK P Γ pn ops id hs E0 Q os (E.app wr chg) (⟨rd,[(wr,chg)]⟩ :: acc)) (hrd:E.Has rd:=by repeat (first | exact trivial | refine ⟨rfl,?_⟩)) (hg:o.guard = some (g,b):=by rfl) (hgo:(ops[g]?).bind (·.dst) = some s:=by rfl) (hb:envL rd s = some (.lit (.bool b)):=by rfl) (h:∀ E':Env,E'.Has rd → Ok P Γ o E' (E'.app wr chg):=by intro E' h;first | exact x_nilc (hO h rfl) (isPtr_ro (hO h rfl)) rfl | exact x_nilc (hO h rfl) (isPtr_addr (hO h rfl)) rfl | exact x_nilc (hO h rfl) (isPtr_own (by first | exact locB (hE h rfl) rfl | exact locA (hE h rfl) (hE h rfl) (by first | rfl | exact getc (by assumption) rfl | exact getc (by assumption) (getc (by assumption) rfl) | exact geta rfl (getc (by assumption) rfl) | exact getp (getc (by assumption) rfl) | exact getp (geta rfl (getc (by assumption) rfl)) | exact getp (geta rfl (getc (by assumption) (getc (by assumption) rfl)))) rfl)) rfl):DK P Γ pn ops id hs E0 Q (o :: os) E acc:=dG rd [(wr,chg)] hrd (fun E' h' => IxOk.guard g b s (h E' h') hg hgo (hE h' hb)) k
theorem d_alloc (rd:List (Nat × T)) (k:DK P Γ pn ops id hs E0 Q os (E.app wr chg) (⟨rd,[(wr,chg)]⟩ :: acc)) (hrd:E.Has rd:=by repeat (first | exact trivial | refine ⟨rfl,?_⟩)) (h:∀ E':Env,E'.Has rd → Ok P Γ o E' (E'.app wr chg):=by intro E' h;exact x_alloc inferInstance rfl) (hg:o.guard = none:=by rfl):DK P Γ pn ops id hs E0 Q (o :: os) E acc:=dG rd [(wr,chg)] hrd (fun E' h' => IxOk.op (h E' h') hg) k
theorem cA {f:FuncId} {xs:List Operand} {ats:Array TypeId} {us res:List T} (hcall:CallsF P f) (hc:FnC P f us res []) (k:RW P Γ pn ops os (E.app (cWr d res []) (cChg d [])) Q) (hargs:ArgsOk E [] 0 xs us:=by repeat (first | exact trivial | refine ⟨agC _ rfl (by first | rfl | exact cloO inferInstance | exact cloS rfl (by first | rfl | exact getc (by assumption) rfl | exact getc (by assumption) (getc (by assumption) rfl) | exact geta rfl (getc (by assumption) rfl) | exact getp (getc (by assumption) rfl) | exact getp (geta rfl (getc (by assumption) rfl)) | exact getp (geta rfl (getc (by assumption) (getc (by assumption) rfl)))) inferInstance | exact cloSR rfl (by first | rfl | exact getc (by assumption) rfl | exact getc (by assumption) (getc (by assumption) rfl) | exact geta rfl (getc (by assumption) rfl) | exact getp (getc (by assumption) rfl) | exact getp (geta rfl (getc (by assumption) rfl)) | exact getp (geta rfl (getc (by assumption) (getc (by assumption) rfl))))) rfl,?_⟩)) (hres:ResOk res:=by repeat (first | exact resN | refine resC inferInstance ?_)) (sd:Nat.blt d Γ.N = true:=by rfl) (hg:gd = none:=by rfl) (hp:pn.ok (some d) = true:=by rfl) :
  RW P Γ pn ops (⟨some d,.call { callee:=.value (.func f),args:=xs.toArray,argTypes:=ats },ty,ps,af,gd⟩ :: os) E Q:=oP (x_call hcall hc hargs hres sd) k hg hp
theorem dC {f:FuncId} {xs:List Operand} {ats:Array TypeId} {us res:List T} (rd:List (Nat × T)) (hcall:CallsF P f) (hc:FnC P f us res []) (k:DK P Γ pn ops id hs E0 Q os (E.app (cWr d res []) (cChg d [])) (⟨rd,[(cWr d res [],cChg d [])]⟩ :: acc)) (hrd:E.Has rd:=by repeat (first | exact trivial | refine ⟨rfl,?_⟩)) (hargs:∀ E':Env,E'.Has rd → ArgsOk E' [] 0 xs us:=by intro E' h;repeat (first | exact trivial | refine ⟨agC _ (hO h rfl) (by first | rfl | exact cloO inferInstance | exact cloS (hE h rfl) (by first | rfl | exact getc (by assumption) rfl | exact getc (by assumption) (getc (by assumption) rfl) | exact geta rfl (getc (by assumption) rfl) | exact getp (getc (by assumption) rfl) | exact getp (geta rfl (getc (by assumption) rfl)) | exact getp (geta rfl (getc (by assumption) (getc (by assumption) rfl)))) inferInstance | exact cloSR (hE h rfl) (by first | rfl | exact getc (by assumption) rfl | exact getc (by assumption) (getc (by assumption) rfl) | exact geta rfl (getc (by assumption) rfl) | exact getp (getc (by assumption) rfl) | exact getp (geta rfl (getc (by assumption) rfl)) | exact getp (geta rfl (getc (by assumption) (getc (by assumption) rfl))))) rfl,?_⟩)) (hres:ResOk res:=by repeat (first | exact resN | refine resC inferInstance ?_)) (sd:Nat.blt d Γ.N = true:=by rfl) (hg:gd = none:=by rfl) :
  DK P Γ pn ops id hs E0 Q (⟨some d,.call { callee:=.value (.func f),args:=xs.toArray,argTypes:=ats },ty,ps,af,gd⟩ :: os) E acc :=
 dG rd [(cWr d res [],cChg d [])] hrd (fun E' h' => IxOk.op (x_call hcall hc (hargs E' h') hres sd) hg) k
theorem sk2 {g s:Nat} {b b':Bool} (k:RW P Γ pn ops os (E.app [(d,some (.tup []))] [(d,0)]) Q) (hd:o.dst = some d:=by rfl) (hg:o.guard = some (g,b):=by rfl) (hgo:(ops[g]?).bind (·.dst) = some s:=by rfl) (hb:E s = some (.lit (.bool b')):=by rfl) (hbb:(b == b') = false:=by rfl) (sd:Nat.blt d Γ.N = true:=by rfl) (hp:pn.ok o.dst = true:=by rfl) :
  RW P Γ pn ops (o :: os) E Q:=RW.cons (IxOk.skip2 g b b' s hd sd hbb hg hgo hb) k hp
theorem sk3 {g s:Nat} {b:Bool} (k:RW P Γ pn ops os (E.app [(d,some (.tup []))] [(d,0)]) Q) (hd:o.dst = some d:=by rfl) (hg:o.guard = some (g,b):=by rfl) (hgo:(ops[g]?).bind (·.dst) = some s:=by rfl) (hb:E s = some (.tup []):=by rfl) (sd:Nat.blt d Γ.N = true:=by rfl) (hp:pn.ok o.dst = true:=by rfl) :
  RW P Γ pn ops (o :: os) E Q:=RW.cons (IxOk.skip3 g b s hd sd hg hgo hb) k hp
theorem dsk2 {g s:Nat} {b b':Bool} (k:DK P Γ pn ops id hs E0 Q os (E.app [(d,some (.tup []))] [(d,0)]) (⟨[(s,.lit (.bool b'))],[([(d,some (.tup []))],[(d,0)])]⟩ :: acc)) (hd:o.dst = some d:=by rfl) (hg:o.guard = some (g,b):=by rfl) (hgo:(ops[g]?).bind (·.dst) = some s:=by rfl) (hb:E s = some (.lit (.bool b')):=by rfl) (hbb:(b == b') = false:=by rfl) (sd:Nat.blt d Γ.N = true:=by rfl) :
  DK P Γ pn ops id hs E0 Q (o :: os) E acc:=dG [(s,.lit (.bool b'))] [([(d,some (.tup []))],[(d,0)])] ⟨hb,trivial⟩ (fun _E' h => IxOk.skip2 g b b' s hd sd hbb hg hgo h.1) k
theorem dsk3 {g s:Nat} {b:Bool} (k:DK P Γ pn ops id hs E0 Q os (E.app [(d,some (.tup []))] [(d,0)]) (⟨[(s,.tup [])],[([(d,some (.tup []))],[(d,0)])]⟩ :: acc)) (hd:o.dst = some d:=by rfl) (hg:o.guard = some (g,b):=by rfl) (hgo:(ops[g]?).bind (·.dst) = some s:=by rfl) (hb:E s = some (.tup []):=by rfl) (sd:Nat.blt d Γ.N = true:=by rfl) :
  DK P Γ pn ops id hs E0 Q (o :: os) E acc:=dG [(s,.tup [])] [([(d,some (.tup []))],[(d,0)])] ⟨hb,trivial⟩ (fun _E' h => IxOk.skip3 g b s hd sd hg hgo h.1) k
theorem dNA (hm:P.follows .mixedOrders = true) (hQ:Q .normal E) (hf:fwdFrom 0 ops.toList = true:=by rfl) (ha:ancFrom (ancs ops.toList) (ancs ops.toList) ops.toList = true:=by rfl) (hp:pairsFrom acc.reverse 0 (ancs ops.toList) acc.reverse = true:=by rfl)
  (hpn:ops.toList.all (fun o => pn.ok o.dst) = true:=by rfl) (hh0:holdB hs E0 = true:=by rfl) (hw:acc.reverse.all (wrS hs) = true:=by rfl):DK P Γ pn ops id hs E0 Q [] E acc:=dN _ hm hQ hf ha hp hpn hh0 hw
theorem cn {c1 c2:Code} {α:Type} {b:Bool} {u v z:α} (h:cond b u v = z) (ht:b = true → u = z → CW P Γ pn c1 E Q) (hf:b = false → v = z → CW P Γ pn c2 E Q) (hb:opT E x = some (.lit (.bool b)):=by rfl):CW P Γ pn (.cond x c1 c2) E Q :=
 CW.cond b hb (fun hc => ht hc (cT hc h)) fun hc => hf hc (cF hc h)
theorem fB {f:FuncId} {fn:Func} {c:Code} {us res:List T} {rws:List (Nat × T)} (hf:P.funcs[f]? = some fn) (h:∀ (St:Stb) (W:Nat → Prop) (w0:World) (v:Nat → Value),CW P ⟨St,W,w0,fn.ntmps⟩ (pinsOf v (rws.map (·.1))) c (envL (argE 0 us)) (RetG ⟨St,W,w0,fn.ntmps⟩ P fn.results us res rws)) (hb:fn.body = some c:=by rfl) (hn:us.length ≤ fn.ntmps:=by exact Nat.le_of_ble_eq_true rfl)
  (ht:Tops us:=by repeat (first | exact trivial | refine ⟨by first | exact Top.of_clean _ (Enc.clean _) | simp [Top,Tops],?_⟩)) (hr:rws.all (fun x => decide (x.1 < us.length)) = true:=by rfl):FnC P f us res rws :=
 FnC.of_bodyG hf hb hn ht hr (by rintro ⟨St,W,w0,N⟩ v hN;subst hN;exact h St W w0 v)
def tmpsOf:List ResultVar → Option (List Nat)
 | [] => some []
 | .tmp s :: l => (tmpsOf l).map (s :: ·)
 | .cell _ _ :: _ => none
theorem tmpsOf_ok:∀ (rs:List ResultVar) (ss:List Nat) (res:List T),tmpsOf rs = some ss → ss.map E = res.map some → res.all T.okTup = true → ∃ nd:Nds,RsOk P E rs nd ∧ nd.map (·.2.2) = res ∧ nd.map (·.1) = ss
 | [],ss,res,h,hE,_ => by
  simp [tmpsOf] at h;subst h
  cases res with
  | nil => exact ⟨[],trivial,rfl,rfl⟩
  | cons _ _ => simp at hE
 | .tmp s :: rs,ss,res,h,hE,ht => by
  simp only [tmpsOf,Option.map_eq_some_iff] at h
  obtain ⟨ss',h,rfl⟩:=h
  cases res with
  | nil => simp at hE
  | cons t res =>
   simp only [List.map_cons,List.cons.injEq] at hE
   simp only [List.all_cons,Bool.and_eq_true] at ht
   obtain ⟨nd,h1,h2,h3⟩:=tmpsOf_ok rs ss' res h hE.2 ht.2
   exact ⟨(s,[],t) :: nd,⟨⟨rfl,rfl,hE.1,ht.1⟩,h1⟩,by simp [h2],by simp [h3]⟩
 | .cell _ _ :: _,_,_,h,_,_ => by simp [tmpsOf] at h
theorem rT {rs:Array ResultVar} {us res:List T} {rws:List (Nat × T)} {e:Exit} {ss:List Nat} (hs:tmpsOf rs.toList = some ss:=by rfl) (hE:ss.map E = res.map some:=by rfl) (ht:res.all T.okTup = true:=by rfl) (hl:ss.all (fun s => Nat.ble us.length s) = true:=by rfl) (hn:nodupB ss = true:=by rfl)
  (hw:LOk E us rws:=by repeat (first | exact trivial | refine ⟨⟨rfl,_,rfl⟩,?_⟩)) (he:e = .ret ∨ e = .normal:=by first | exact .inl rfl | exact .inr rfl):RetG Γ P rs us res rws e E:=by
 obtain ⟨nd,h1,h2,h3⟩:=tmpsOf_ok (P:=P) rs.toList ss res hs hE ht
 refine ⟨E,Ghost.refl,he,nd,h1,h2,fun x hx => ?_,by rw [h3];exact nodupB_ok hn,hw⟩
 have:x.1 ∈ ss:=by rw [← h3];exact List.mem_map.2 ⟨x,hx,rfl⟩
 exact Nat.le_of_ble_eq_true (List.all_eq_true.1 hl _ this)
theorem eN {σ ρ:Type} {en:σ → Env} {Q1:ρ → Exit → Env → Prop} {y:σ} {x:σ ⊕ ρ} (h:some (Sum.inl y) = some x) (q:Ghost Γ E (en y):=by exact .has (by repeat (first | exact trivial | refine ⟨rfl,?_⟩))):Round Γ en Q1 x .normal E:=by
 obtain rfl:=sI h;exact ⟨rfl,q⟩
theorem rTg {rs:Array ResultVar} {us res:List T} {rws:List (Nat × T)} {e:Exit} (hg:Ghost Γ E E') (h:RetG Γ P rs us res rws e E'):RetG Γ P rs us res rws e E:=by
 obtain ⟨E2,h1,h2⟩:=h;exact ⟨E2,hg.trans h1,h2⟩
theorem eX {σ ρ:Type} {en:σ → Env} {Q1:ρ → Exit → Env → Prop} {y:ρ} {x:σ ⊕ ρ} {e:Exit} (h:some (Sum.inr y) = some x) (q:Q1 y e E:=by first | exact ⟨rfl,.has (by repeat (first | exact trivial | refine ⟨rfl,?_⟩))⟩ | exact ⟨rfl,rT⟩) (hne:e ≠ .normal:=by first | exact neX | exact neR):Round Γ en Q1 x e E:=by
 obtain rfl:=sI h;exact ⟨hne,q⟩
end
end Go.Ab

namespace Go.Ab
open Go
section
variable {Γ:Ctx} {E:Env}
theorem Ghost.frzG (s:Nat) (t:T) {t':T} (hs:E s = some t) (h:frzT t = t'):Ghost Γ E (E.app [(s,some t')] [(s,1)]):=h ▸ Ghost.freeze s t hs
theorem fzO {α:Type} {k:Nat} {f g:α → T} {xs:List α} (h:StripTo f g):frzT (L k f xs) = .ro (L k g xs):=by
 simp only [frzT,strip,strips_of h.h xs]
theorem fzA {xs ys:List T} (h:frzTs xs = ys):frzT (.agg xs) = .agg ys:=by grind[frzT]
theorem fzC {x y:T} {xs ys:List T} (h:frzT x = y) (h2:frzTs xs = ys):frzTs (x :: xs) = y :: ys:=by grind[frzTs]
end
end Go.Ab
namespace Go.Ab
open Go
end Go.Ab

namespace Go.Ab
open Go
end Go.Ab

namespace Go.Ab
open Go
end Go.Ab

namespace Go.Ab
open Go Go.ChangeShapes
section
variable {P:Program}
theorem ra_L {α:Type} {f:α → T} {V:α → Prop} {t e:TypeId} {k:Nat} (hu:P.underlying t = some (.slice e)) (hk:P.cellsOf e = k) (hk0:0 < k) (h:RdT P e k f V):RdA P t (fun xs => T.ro (L k f xs)) (fun xs => xs.length ≤ maxLen ∧ ∀ x ∈ xs,V x) :=
 ra_cell (fun _ => ⟨rfl,fun _ _ => rfl⟩) (rc_L hu hk hk0 h) fun {w base v} hok => by
  cases v <;> first | rfl | (simp [Value.okWide,Cell.okWide,Cell.ok,hu] at hok)
end
end Go.Ab

namespace Go.Ab
open Go
end Go.Ab

namespace Go.Ab
open Go
section
variable {St Sc:Stb} {G:Gh} {w:World} {s:Nat} (hone:∀ s p,(G.hd s p).oneCell' = true) (hSt:∀ b x,St b = some x → Sc b = some x) (hSc:∀ b y,y ≠ [] → G.ow b = some (s,y) → Sc b = w.heap[b]?)
 include hone hSt hSc
mutual
theorem frzI:(t:T) → ∀ (p:List Nat) (b o:Nat) (cs:Array Value) (e:TypeId) (fr:Nat × Nat),p ≠ [] → w.heap[b]? = some (.cells cs e fr) → Loc G w s t p b o → R St G w s t p → RoC Sc (strip t) cs o
 | .agg xs,p,b,o,cs,e,fr,hp,hb,hl,hr => by simp only [Loc,R,strip,RoC] at hl hr ⊢;exact frzIF xs p 0 b o cs e fr hb hl.2 hr
 | .tup _,_,_,_,_,_,_,_,_,hl,_ => by have _:=hSc;simp only [Loc] at hl
 | .any,p,b,o,cs,e,fr,hp,hb,hl,hr | .same _ _,p,b,o,cs,e,fr,hp,hb,hl,hr | .addr _ _,p,b,o,cs,e,fr,hp,hb,hl,hr | .sub _ _ _ _ _,p,b,o,cs,e,fr,hp,hb,hl,hr => by
  have h1:=(Loc_single rfl hl).2.2
  simp only [cellAt,World.cell?,hb] at h1
  simp only [strip,RoC]
  exact ⟨_,by simpa using h1,hone s p⟩
 | .lit v,p,b,o,cs,e,fr,hp,hb,hl,hr => by
  have h1:=(Loc_single rfl hl).2.2
  simp only [cellAt,World.cell?,hb] at h1
  simp only [strip,RoC,R] at hr ⊢
  exact ⟨by rw [← hr];simpa using h1,by rw [← hr];exact hone s p⟩
 | .ro u,p,b,o,cs,e,fr,hp,hb,hl,hr => by
  have h1:=(Loc_single rfl hl).2.2
  simp only [cellAt,World.cell?,hb] at h1
  simp only [strip,R] at hr ⊢
  split
  ·rename_i hu
   exact RoC_of_cell hu (RoC_mono hSt u _ _ hr) (by simpa using h1)
  ·simp only [RoC];exact ⟨_,by simpa using h1,hone s p⟩
 | .sl k xs,p,b,o,cs,e,fr,hp,hb,hl,hr => by
  have h1:=(Loc_single rfl hl).2.2
  simp only [cellAt,World.cell?,hb] at h1
  exact RoC_of_cell rfl (frzI1 (.sl k xs) p hp rfl hr) (by simpa using h1)
 | .ptr t,p,b,o,cs,e,fr,hp,hb,hl,hr => by
  have h1:=(Loc_single rfl hl).2.2
  simp only [cellAt,World.cell?,hb] at h1
  exact RoC_of_cell rfl (frzI1 (.ptr t) p hp rfl hr) (by simpa using h1)
 | .mp ks xs,p,b,o,cs,e,fr,hp,hb,hl,hr => by
  have h1:=(Loc_single rfl hl).2.2
  simp only [cellAt,World.cell?,hb] at h1
  exact RoC_of_cell rfl (frzI1 (.mp ks xs) p hp rfl hr) (by simpa using h1)
theorem frzIF:(xs:List T) → ∀ (p:List Nat) (j b o:Nat) (cs:Array Value) (e:TypeId) (fr:Nat × Nat),w.heap[b]? = some (.cells cs e fr) → LocF G w s xs p j b o → RF St G w s xs p j → RoF Sc (strips xs) cs o
 | [],_,_,_,_,_,_,_,_,_,_ => by have _:=hone;have _:=hSt;have _:=hSc;simp only [strips,RoF]
 | x :: xs,p,j,b,o,cs,e,fr,hb,hl,hr => by
  simp only [LocF,RF,strips,RoF] at hl hr ⊢
  exact ⟨frzI x _ b o cs e fr (by simp) hb hl.1 hr.1,by rw [strip_size];exact frzIF xs p (j + 1) b _ cs e fr hb hl.2 hr.2⟩
theorem frzIL:(xs:List T) → ∀ (p:List Nat) (i b o k:Nat) (cs:Array Value) (e:TypeId) (fr:Nat × Nat),w.heap[b]? = some (.cells cs e fr) → RL St G w s xs p i b o k → RoL Sc (strips xs) cs o k
 | [],_,_,_,_,_,_,_,_,_,_ => by have _:=hone;have _:=hSt;have _:=hSc;simp only [strips,RoL]
 | x :: xs,p,i,b,o,k,cs,e,fr,hb,hr => by
  simp only [RL,strips,RoL] at hr ⊢
  exact ⟨frzI x _ b o cs e fr (by simp) hb hr.1.1 hr.2.1,frzIL xs p (i + 1) b _ k cs e fr hb hr.2.2⟩
theorem frzI1:(t:T) → ∀ (p:List Nat),p ≠ [] → t.single = true → R St G w s t p → RoC Sc (strip t) #[G.hd s p] 0
 | .agg _,_,_,h,_ | .tup _,_,_,h,_ => by simp [T.single] at h
 | .any,p,_,_,_ | .same _ _,p,_,_,_ | .addr _ _,p,_,_,_ | .sub _ _ _ _ _,p,_,_,_ => by simp only [strip,RoC];exact ⟨_,by simp,hone s p⟩
 | .mp ks xs,p,hp,_,hr => by
  simp only [strip,R,RoC] at hr ⊢
  obtain ⟨b,x,_,h1,h2,h3,h4⟩:=hr
  unfold MpOk at h4
  split at h4
  ·exact .inr ⟨b,_,_,h4.2.choose,by simp [h1,mpHd],by rw [hSc b _ hp h3];exact h2,h4.1.2,h4.2.choose_spec.1,RoM_mono hSt _ _ _ h4.2.choose_spec.2⟩
  ·obtain ⟨_,_,hc,ks',xs',rfl,_⟩:=h4
   exact .inl ⟨_,by simp,hone s p,rfl⟩
  ·exact h4.elim
 | .lit v,p,_,_,hr => by simp only [strip,RoC,R] at hr ⊢;exact ⟨by simp [hr],by rw [← hr];exact hone s p⟩
 | .ro u,p,_,_,hr => by
  simp only [strip,R] at hr ⊢
  split
  ·exact RoC_mono hSt u _ _ hr
  ·simp only [RoC];exact ⟨_,by simp,hone s p⟩
 | .sl k xs,p,hp,_,hr => by
  simp only [strip,R,RoC] at hr ⊢
  rw [strips_length]
  rcases hr with ⟨rfl,a,h1⟩ | ⟨b,o0,cap,cs,e,h1,h2,h3,h4,h5,h6,h7,h8⟩
  ·exact ⟨a,0,by simp [h1],by simp,by simp [maxLen],fun h => by simp [strips] at h⟩
  ·exact ⟨some ⟨b,o0,none⟩,cap,by simp [h1],h3,h4,fun _ => ⟨b,o0,cs,e,(0,0),rfl,by rw [hSc b _ hp h6];exact h2,frzIL xs p 0 b o0 k cs e (0,0) h2 h8⟩⟩
 | .ptr t,p,hp,_,hr => by
  simp only [strip,R,RoC] at hr ⊢
  obtain ⟨b,cs,e,h1,h2,h3,h6,h4,h5⟩:=hr
  exact ⟨b,0,cs,e,(0,0),by simp [h1],by rw [hSc b _ hp h6];exact h2,frzI t _ b 0 cs e (0,0) (by simp) h2 h4 h5⟩
end
variable {G':Gh} (hhd:∀ s z,G'.hd s z = G.hd s z) (had:∀ s z,G'.ad s z = G.ad s z)
 include hhd had
mutual
theorem R_frzI:(t:T) → ∀ (p:List Nat),p ≠ [] → R St G w s t p → R Sc G' w s (frzT t) p
 | .agg xs,p,_,hr | .tup xs,p,_,hr => by simp only [frzT,R] at hr ⊢;exact RF_frzI xs p 0 hr
 | .sl k xs,p,hp,hr => by
  have:=frzI1 hone hSt hSc (.sl k xs) p hp rfl hr
  simp only [frzT,R,hhd];exact this
 | .ptr t,p,hp,hr => by
  have:=frzI1 hone hSt hSc (.ptr t) p hp rfl hr
  simp only [frzT,R,hhd];exact this
 | .ro u,p,_,hr => by simp only [frzT,R,hhd] at hr ⊢;exact RoC_mono hSt u _ _ hr
 | .any,_,_,_ => by simp only [frzT,R]
 | .mp ks xs,p,hp,hr => by
  have:=frzI1 hone hSt hSc (.mp ks xs) p hp rfl hr
  simp only [strip] at this
  simp only [frzT,R,hhd];exact this
 | .lit _,_,_,hr | .same _ _,_,_,hr | .sub _ _ _ _ _,_,_,hr => by simp only [frzT,R,hhd] at hr ⊢;exact hr
 | .addr _ _,_,_,hr => by simp only [frzT,R,hhd,had] at hr ⊢;exact hr
theorem RF_frzI:(xs:List T) → ∀ (p:List Nat) (j:Nat),RF St G w s xs p j → RF Sc G' w s (frzTs xs) p j
 | [],_,_,_ => by have _:=hone;have _:=hSt;have _:=hSc;have _:=hhd;have _:=had;simp only [frzTs,RF]
 | x :: xs,p,j,hr => by simp only [frzTs,RF] at hr ⊢;exact ⟨R_frzI x _ (by simp) hr.1,RF_frzI xs p (j + 1) hr.2⟩
end
end
mutual
theorem frzT_size:(t:T) → (frzT t).size = t.size
 | .agg xs => by simp only [frzT,T.size];exact frzTs_size xs
 | .tup xs => by simp only [frzT,T.size]
 | .sl _ _ | .ptr _ | .mp _ _ | .any | .lit _ | .ro _ | .same _ _ | .addr _ _ | .sub _ _ _ _ _ => by simp only [frzT,T.size]
theorem frzTs_size:(xs:List T) → T.sizes (frzTs xs) = T.sizes xs
 | [] => rfl
 | x :: xs => by simp only [frzTs,T.sizes,frzT_size x,frzTs_size xs]
end
section
variable {G G':Gh} {w:World} {s:Nat} (hhd:∀ s z,G'.hd s z = G.hd s z) (had:∀ s z,G'.ad s z = G.ad s z)
 include hhd had
mutual
theorem Loc_frz:(t:T) → ∀ (p:List Nat) (b o:Nat),(∀ o,G'.lb b o = G.lb b o) → Loc G w s t p b o → Loc G' w s (frzT t) p b o
 | .agg xs,p,b,o,hb,h => by simp only [frzT,Loc,had] at h ⊢;exact ⟨h.1,LocF_frz xs p 0 b o hb h.2⟩
 | .tup _,_,_,_,_,h => by simp only [Loc] at h
 | .sl _ _,p,b,o,hb,h | .ptr _,p,b,o,hb,h | .mp _ _,p,b,o,hb,h | .any,p,b,o,hb,h | .lit _,p,b,o,hb,h | .ro _,p,b,o,hb,h | .same _ _,p,b,o,hb,h | .addr _ _,p,b,o,hb,h | .sub _ _ _ _ _,p,b,o,hb,h => by simp only [frzT,Loc,had,hhd,hb] at h ⊢;exact h
theorem LocF_frz:(xs:List T) → ∀ (p:List Nat) (j b o:Nat),(∀ o,G'.lb b o = G.lb b o) → LocF G w s xs p j b o → LocF G' w s (frzTs xs) p j b o
 | [],_,_,_,_,_,_ => by have _:=hhd;have _:=had;simp only [frzTs,LocF]
 | x :: xs,p,j,b,o,hb,h => by simp only [frzTs,LocF,frzT_size] at h ⊢;exact ⟨Loc_frz x _ b o hb h.1,LocF_frz xs p (j + 1) b _ hb h.2⟩
end
end
section
variable {φ:Nat → List Nat → Prop}
mutual
theorem frzT_allR:(t:T) → AllR φ t → AllR φ (frzT t)
 | .agg xs,h | .tup xs,h => by simp only [frzT,AllR] at h ⊢;exact frzTs_allR xs h
 | .same _ _,h | .addr _ _,h | .sub _ _ _ _ _,h => by simp only [frzT,AllR] at h ⊢;exact h
 | .sl _ _,_ | .ptr _,_ | .mp _ _,_ | .any,_ | .lit _,_ | .ro _,_ => by simp only [frzT,AllR]
theorem frzTs_allR:(xs:List T) → AllRs φ xs → AllRs φ (frzTs xs)
 | [],_ => by simp only [frzTs,AllRs]
 | x :: xs,h => by simp only [frzTs,AllRs] at h ⊢;exact ⟨frzT_allR x h.1,frzTs_allR xs h.2⟩
end
end
theorem Ghost.freezeIn {Γ:Ctx} {E:Env} (n:Nat) (s:Nat) (t:T) (hs:E s = some (.ptr t)):Ghost Γ E (E.app [(s,some (.ptr (frzT t)))] [(s,n)]):=by
 classical
 rintro a w ⟨S,hS,hdf,G,hrep⟩
 have hm:=hrep.mem
 let own:Nat → Prop:=fun b => ∃ y,y ≠ [] ∧ G.ow b = some (s,y)
 let Sc:Stb:=fun b => if own b then w.heap[b]? else S b
 let G':Gh:={ hd:=G.hd,ad:=G.ad,lb:=fun b o => if own b then none else G.lb b o,ow:=fun b => if own b then none else G.ow b }
 have hup:∀ b x,S b = some x → Sc b = some x:=fun b x hx => by
  have:¬ own b:=by
   rintro ⟨y,_,hy⟩
   have:=(hm.ow b _ hy).2.2
   rw [show S b = none from this] at hx;cases hx
  simp only [Sc,this,if_false];exact hx
 have hgr:Grow S Sc Γ.W Γ.w0.heap.size:=⟨hup,fun b hb hb' => by
  by_cases h:own b
  ·obtain ⟨y,_,hy⟩:=h
   exact (hm.ow b _ hy).2.1
  ·simp only [Sc,h,if_false] at hb'
   exact absurd hb hb'⟩
 have hmem:Mem ((Γ.at S).at Sc) G' w:=by
  refine ⟨hm.one,fun b o l hl => ?_,fun b l hl => ?_,fun b x hx => ?_,hm.fr,hm.sz,hm.bk,hm.gl.up hup⟩
  ·by_cases h:own b
   ·simp only [G',h,if_true] at hl;cases hl
   ·simp only [G',h,if_false] at hl
    have:=hm.lb b o l hl
    exact ⟨this.1,this.2.1,by simp only [Sc,h,if_false];exact this.2.2⟩
  ·by_cases h:own b
   ·simp only [G',h,if_true] at hl;cases hl
   ·simp only [G',h,if_false] at hl
    have:=hm.ow b l hl
    exact ⟨this.1,this.2.1,by simp only [Sc,h,if_false];exact this.2.2⟩
  ·by_cases h:own b
   ·simp only [Sc,h,if_true] at hx;exact hx
   ·simp only [Sc,h,if_false] at hx;exact hm.st b x hx
 have hkeep:Keep [(s,n)] G w G' w:=by
  have hno:∀ b s0 y,G.ow b = some (s0,y) → (∀ m,(s0,m) ∉ ([(s,n)]:Chg)) → ¬ own b:=by
   rintro b s0 y h1 h2 ⟨y',_,h3⟩
   rw [h1] at h3
   simp at h3
   exact h2 n (by simp [h3.1])
  refine ⟨fun _ _ _ => rfl,fun _ _ _ => rfl,fun b o f s0 p ⟨y,hy⟩ h1 h2 => ?_,fun b s0 p h1 h2 => ?_,fun b cs e h => ⟨cs,h,rfl⟩,by intros;assumption⟩
  ·have:=hno b s0 y hy h2
   refine ⟨?_,rfl⟩
   simp only [G',this,if_false]
   exact h1
  ·have:=hno b s0 p h1 h2
   simp only [G',this,if_false]
   exact h1
 obtain ⟨e1,e2,e3⟩:=hrep.ent s _ hs
 refine ⟨Sc,hS.trans hgr,hdf,G',hrep.up hup rfl hkeep hmem (fun s0 h0 => ⟨fun n hn => ?_,rfl⟩) (fun s0 t0 h0 => ?_)⟩
 ·rw [find_one] at h0
  simp at hn
  simp [hn.1] at h0
 ·rw [find_one] at h0
  split at h0
  ·rename_i he;subst he
   simp at h0;subst h0
   refine ⟨?_,?_,?_⟩
   ·rw [e1]
    simp only [mkV];rfl
   ·simp only [R] at e2 ⊢
    obtain ⟨b,cs,e,h1,h2,h3,h6,h4,h5⟩:=e2
    have hnb:¬ own b:=by
     rintro ⟨y,hy,h⟩
     rw [h6] at h
     simp at h
     exact hy h
    refine ⟨b,cs,e,h1,h2,by rw [frzT_size];exact h3,by simp only [G',hnb,if_false];exact h6,Loc_frz (G:=G) (G':=G') (fun _ _ => rfl) (fun _ _ => rfl) t [0] b 0 (fun o => by simp only [G',hnb,if_false]) h4,?_⟩
    exact R_frzI (G':=G') hm.one hup (fun b y hy hb => by simp only [Sc];rw [if_pos ⟨y,hy,hb⟩]) (fun _ _ => rfl) (fun _ _ => rfl) t [0] (by simp) h5
   ·simp only [Top] at e3 ⊢
    exact frzT_allR t e3
  ·cases h0
theorem Ghost.frzI (n s:Nat) {Γ:Ctx} {E:Env} (t:T) {t':T} (hs:E s = some (.ptr t)) (h:frzT t = t'):Ghost Γ E (E.app [(s,some (.ptr t'))] [(s,n)]):=h ▸ Ghost.freezeIn n s t hs
end Go.Ab

namespace Go.Ab
open Go
end Go.Ab
