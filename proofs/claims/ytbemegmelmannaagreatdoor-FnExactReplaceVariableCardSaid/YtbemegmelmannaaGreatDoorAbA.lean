/- x -/
import GoSem.Claim
import Derived.Orders
import Derived.Laws.AppendOwn
import Derived.Laws.MakeOwn
import Derived.MapKept
import Derived.Laws.IdiomRangeMap
import Derived.Great.BuildSlice
import Derived.Laws.Tables
namespace Go.Ab
open Go
def glob:List (Nat × (Array Value → Prop)):=[(0,fun cs => ∃ m,cs = #[.int .i64 m]),(1,fun cs => ∃ tp p,cs = #[.iface tp p]),(2,fun cs => ∃ tp p,cs = #[.iface tp p])]
end Go.Ab

namespace Go.Ab
open Go
inductive T where
 | any
 | lit (v:Value)
 | ro (t:T)
 | same (r:Nat) (p:List Nat)
 | addr (r:Nat) (p:List Nat)
 | sub (r:Nat) (p:List Nat) (k lo hi:Nat)
 | sl (k:Nat) (xs:List T)
 | agg (xs:List T)
 | ptr (t:T)
 | tup (xs:List T)
 | mp (ks:List Value) (xs:List T)
 deriving Inhabited
abbrev Stb:=Nat → Option Obj
mutual
def T.size:T → Nat
 | .agg xs => T.sizes xs
 | _ => 1
def T.sizes:List T → Nat
 | [] => 0
 | x :: xs => x.size + T.sizes xs
end
def isIt:List Value → Bool
 | .bool _ :: _ => true
 | _ => false
def ErrV (r:Nat) (v:Value):Prop:=(r = 0 ∧ v = .nilIface) ∨ (r ≠ 0 ∧ ∃ tp p,v = .iface tp p)
mutual
def RoC (St:Stb):T → Array Value → Nat → Prop
 | .any,cs,o => ∃ v,cs[o]? = some v ∧ v.oneCell' = true
 | .lit v,cs,o => cs[o]? = some v ∧ v.oneCell' = true
 | .ro u,cs,o => ∃ f vs,cs[o]? = some (.func (.func f) #[] vs) ∧ vs.size + 1 = u.size ∧ RoC St u (#[.func (.func f) #[] #[]] ++ vs) 0
 | .sl k xs,cs,o => ∃ a c,cs[o]? = some (.slice a xs.length c) ∧ xs.length ≤ c ∧ c ≤ maxLen ∧
   (xs ≠ [] → ∃ b o' cs' e fr,a = some ⟨b,o',none⟩ ∧ St b = some (.cells cs' e fr) ∧ RoL St xs cs' o' k)
 | .agg xs,cs,o => RoF St xs cs o
 | .ptr t,cs,o => ∃ b o' cs' e fr,cs[o]? = some (.pointer (some ⟨b,o',none⟩)) ∧ St b = some (.cells cs' e fr) ∧ RoC St t cs' o'
 | .same _ _,_,_ => False
 | .addr _ _,_,_ => False
 | .sub r _ _ _ _,cs,o => ∃ v,cs[o]? = some v ∧ v.oneCell' = true ∧ ErrV r v
 | .tup _,_,_ => False
 | .mp ks xs,cs,o => (∃ v,cs[o]? = some v ∧ v.oneCell' = true ∧ isIt ks = true) ∨ ∃ b ms c es,cs[o]? = some (.map (some b)) ∧ St b = some (.map ms c) ∧ MapKept.Stamped ms c ∧ es.Perm ms.toList ∧ RoM St ks xs es
def RoL (St:Stb):List T → Array Value → Nat → Nat → Prop
 | [],_,_,_ => True
 | x :: xs,cs,o,k => RoC St x cs o ∧ RoL St xs cs (o + k) k
def RoF (St:Stb):List T → Array Value → Nat → Prop
 | [],_,_ => True
 | x :: xs,cs,o => RoC St x cs o ∧ RoF St xs cs (o + x.size)
def RoM (St:Stb):List Value → List T → List MapEntry → Prop
 | ks,[],es => ks = [] ∧ es = []
 | ks,x :: xs,es => ∃ k ks' e es',ks = k :: ks' ∧ es = e :: es' ∧ e.key = k ∧ RoC St x #[e.val] 0 ∧ RoM St ks' xs es'
end
def _root_.Go.Obj.nocell:Obj → Bool
 | .cells _ _ _ => false
 | _ => true
def mpHd (x:Obj) (b:Nat):Value :=
 match x with
 | .map _ _ => .map (some b)
 | _ => .pointer (some ⟨b,0,none⟩)
def MpOk (St:Stb) (ks:List Value) (xs:List T):Obj → Prop
 | .map ms c => (isIt ks = false ∧ MapKept.Stamped ms c) ∧ ∃ es,es.Perm ms.toList ∧ RoM St ks xs es
 | .mapIter (some bm) since seen c0 => ∃ (ms:Array MapEntry) (c:Nat) (hc:Bool) (ks':List Value) (xs':List T),ks = .bool hc :: ks' ∧ xs = .any :: xs' ∧ St bm = some (.map ms c) ∧ MapKept.Stamped ms c ∧ (∀ x ∈ ms.toList,x.born < since) ∧ (since ≤ c0 ∧ since ≤ c) ∧
   ∃ (cur es:List MapEntry),RoM St ks' xs' (cur ++ es) ∧ es.Perm (leftOf ms seen).toList ∧ if hc = true then ∃ e,cur = [e] ∧ e ∈ ms.toList ∧ (∃ (seen':Array Nat),seen = seen'.push e.born) ∧ c0 = c else cur = []
 | _ => False
structure Gh where
 hd:Nat → List Nat → Value
 ad:Nat → List Nat → Addr
 lb:Nat → Nat → Option (Bool × Nat × List Nat)
 ow:Nat → Option (Nat × List Nat)
def cellAt (w:World) (b o:Nat):Option Value:=w.cell? ⟨b,o,none⟩
mutual
def Loc (G:Gh) (w:World) (s:Nat):T → List Nat → Nat → Nat → Prop
 | .agg xs,p,b,o => G.ad s p = ⟨b,o,none⟩ ∧ LocF G w s xs p 0 b o
 | .tup _,_,_,_ => False
 | .any,p,b,o | .lit _,p,b,o | .ro _,p,b,o | .same _ _,p,b,o | .addr _ _,p,b,o | .sub _ _ _ _ _,p,b,o | .sl _ _,p,b,o | .ptr _,p,b,o | .mp _ _,p,b,o =>
  G.ad s p = ⟨b,o,none⟩ ∧ G.lb b o = some (false,s,p) ∧ cellAt w b o = some (G.hd s p)
def LocF (G:Gh) (w:World) (s:Nat):List T → List Nat → Nat → Nat → Nat → Prop
 | [],_,_,_,_ => True
 | x :: xs,p,j,b,o => Loc G w s x (j :: p) b o ∧ LocF G w s xs p (j + 1) b (o + x.size)
end
def subOf (v:Value) (k lo hi:Nat):Value :=
 match v with
 | .slice a _ c => .slice (if c = lo then a else a.map (·.add (lo * k))) (hi - lo) (c - lo)
 | v => v
mutual
def R (St:Stb) (G:Gh) (w:World) (s:Nat):T → List Nat → Prop
 | .any,_ => True
 | .lit v,p => G.hd s p = v
 | .ro t,p => RoC St t #[G.hd s p] 0
 | .same r q,p => G.hd s p = G.hd r q
 | .addr r q,p => G.hd s p = .pointer (some (G.ad r q))
 | .sub r q k lo hi,p => G.hd s p = subOf (G.hd r q) k lo hi
 | .sl k xs,p => (xs = [] ∧ ∃ a,G.hd s p = .slice a 0 0) ∨ ∃ b o0 cap cs e,G.hd s p = .slice (some ⟨b,o0,none⟩) xs.length cap ∧
   w.heap[b]? = some (.cells cs e (0,0)) ∧ xs.length ≤ cap ∧ cap ≤ maxLen ∧ o0 + cap * k ≤ cs.size ∧ G.ow b = some (s,p) ∧
   (∀ o,o0 + xs.length * k ≤ o → o < o0 + cap * k → G.lb b o = some (true,s,p)) ∧ RL St G w s xs p 0 b o0 k
 | .agg xs,p => RF St G w s xs p 0
 | .ptr t,p => ∃ b cs e,G.hd s p = .pointer (some ⟨b,0,none⟩) ∧ w.heap[b]? = some (.cells cs e (0,0)) ∧ cs.size = t.size ∧ G.ow b = some (s,p) ∧
   Loc G w s t (0 :: p) b 0 ∧ R St G w s t (0 :: p)
 | .tup xs,p => RF St G w s xs p 0
 | .mp ks xs,p => ∃ (b:Nat) (ms:Obj) (_:ms.nocell = true),G.hd s p = mpHd ms b ∧ w.heap[b]? = some ms ∧ G.ow b = some (s,p) ∧ MpOk St ks xs ms
def RL (St:Stb) (G:Gh) (w:World) (s:Nat):List T → List Nat → Nat → Nat → Nat → Nat → Prop
 | [],_,_,_,_,_ => True
 | x :: xs,p,i,b,o,k => (Loc G w s x (i :: p) b o ∧ x.size = k) ∧ R St G w s x (i :: p) ∧ RL St G w s xs p (i + 1) b (o + k) k
def RF (St:Stb) (G:Gh) (w:World) (s:Nat):List T → List Nat → Nat → Prop
 | [],_,_ => True
 | x :: xs,p,j => R St G w s x (j :: p) ∧ RF St G w s xs p (j + 1)
end
mutual
def AllR (φ:Nat → List Nat → Prop):T → Prop
 | .same r p | .addr r p | .sub r p _ _ _ => φ r p
 | .sl _ xs | .agg xs | .tup xs => AllRs φ xs
 | .ptr t => AllR φ t
 | .any | .lit _ | .ro _ | .mp _ _ => True
def AllRs (φ:Nat → List Nat → Prop):List T → Prop
 | [] => True
 | x :: xs => AllR φ x ∧ AllRs φ xs
end
mutual
theorem AllR.mono {φ ψ:Nat → List Nat → Prop} (h:∀ r p,φ r p → ψ r p):(t:T) → AllR φ t → AllR ψ t
 | .same _ _,ht | .addr _ _,ht | .sub _ _ _ _ _,ht => h _ _ ht
 | .sl _ xs,ht | .agg xs,ht | .tup xs,ht => by simp only [AllR] at ht ⊢;exact AllRs.mono h xs ht
 | .ptr t,ht => by simp only [AllR] at ht ⊢;exact AllR.mono h t ht
 | .any,_ | .lit _,_ | .ro _,_ | .mp _ _,_ => by simp [AllR]
theorem AllRs.mono {φ ψ:Nat → List Nat → Prop} (h:∀ r p,φ r p → ψ r p):(xs:List T) → AllRs φ xs → AllRs ψ xs
 | [],_ => trivial
 | x :: xs,hx => ⟨AllR.mono h x hx.1,AllRs.mono h xs hx.2⟩
end
mutual
theorem AllR.triv {φ:Nat → List Nat → Prop} (h:∀ r p,φ r p):(t:T) → AllR φ t
 | .same _ _ | .addr _ _ | .sub _ _ _ _ _ => by simp only [AllR];exact h _ _
 | .sl _ xs | .agg xs | .tup xs => by simp only [AllR];exact AllRs.triv h xs
 | .ptr t => by simp only [AllR];exact AllR.triv h t
 | .any | .lit _ | .ro _ | .mp _ _ => by simp only [AllR]
theorem AllRs.triv {φ:Nat → List Nat → Prop} (h:∀ r p,φ r p):(xs:List T) → AllRs φ xs
 | [] => by simp only [AllRs]
 | x :: xs => by simp only [AllRs];exact ⟨AllR.triv h x,AllRs.triv h xs⟩
end
abbrev Clean (t:T):Prop:=AllR (fun _ _ => False) t
abbrev Cleans (xs:List T):Prop:=AllRs (fun _ _ => False) xs
def Blk (w w':World):Prop:=∀ (b:Nat) cs e,w.heap[b]? = some (.cells cs e (0,0)) → ∃ cs',w'.heap[b]? = some (.cells cs' e (0,0)) ∧ cs'.size = cs.size
structure MovesE (G:Gh) (w:World) (G':Gh) (w':World) (s:Nat) (p:List Nat) (s':Nat) (p':List Nat):Prop where
 hd:∀ z,G'.hd s' (z ++ p') = G.hd s (z ++ p)
 ad:∀ z,z ≠ [] → G'.ad s' (z ++ p') = G.ad s (z ++ p)
 lb:∀ b o f z,z ≠ [] → (∃ y,G.ow b = some (s,y)) → G.lb b o = some (f,s,z ++ p) → G'.lb b o = some (f,s',z ++ p') ∧ cellAt w' b o = cellAt w b o
 ow:∀ b z,z ≠ [] → G.ow b = some (s,z ++ p) → G'.ow b = some (s',z ++ p')
 blk:Blk w w'
 mp:∀ b z (ms:Obj) (_:ms.nocell = true),G.ow b = some (s,z ++ p) → w.heap[b]? = some ms → w'.heap[b]? = some ms
structure Moves (G:Gh) (w:World) (G':Gh) (w':World) (s:Nat) (p:List Nat) (s':Nat) (p':List Nat):Prop extends MovesE G w G' w' s p s' p' where
 sp:∀ b o,(∃ y,G.ow b = some (s,y)) → G.lb b o = some (true,s,p) → G'.lb b o = some (true,s',p') ∧ cellAt w' b o = cellAt w b o
 ow0:∀ b,G.ow b = some (s,p) → G'.ow b = some (s',p')
def KeepR (G G':Gh) (r:Nat) (p:List Nat):Prop:=G'.hd r p = G.hd r p ∧ G'.ad r p = G.ad r p
section
variable {St:Stb} {G:Gh} {w:World} {G':Gh} {w':World} {s:Nat} {p:List Nat} {s':Nat} {p':List Nat}
mutual
theorem Loc_move (hm:MovesE G w G' w' s p s' p'):(t:T) → ∀ (z:List Nat) (b o:Nat),z ≠ [] → (∃ y,G.ow b = some (s,y)) → Loc G w s t (z ++ p) b o → Loc G' w' s' t (z ++ p') b o
 | .agg xs,z,b,o,hz,hob,h => by
  simp only [Loc] at h ⊢
  exact ⟨(hm.ad z hz).trans h.1,LocF_move hm xs z 0 b o hob h.2⟩
 | .any,z,b,o,hz,hob,h | .lit _,z,b,o,hz,hob,h | .ro _,z,b,o,hz,hob,h | .same _ _,z,b,o,hz,hob,h | .addr _ _,z,b,o,hz,hob,h | .sub _ _ _ _ _,z,b,o,hz,hob,h | .sl _ _,z,b,o,hz,hob,h | .ptr _,z,b,o,hz,hob,h | .mp _ _,z,b,o,hz,hob,h => by
  simp only [Loc] at h ⊢
  obtain ⟨h1,h2,h3⟩:=h
  have hl:=hm.lb b o false z hz hob h2
  exact ⟨(hm.ad z hz).trans h1,hl.1,by rw [hl.2,h3,hm.hd]⟩
 | .tup _,_,_,_,_,_,h => by simp only [Loc] at h
theorem LocF_move (hm:MovesE G w G' w' s p s' p'):(xs:List T) → ∀ (z:List Nat) (j b o:Nat),(∃ y,G.ow b = some (s,y)) → LocF G w s xs (z ++ p) j b o → LocF G' w' s' xs (z ++ p') j b o
 | [],_,_,_,_,_,_ => by simp only [LocF]
 | x :: xs,z,j,b,o,hob,h => by
  simp only [LocF] at h ⊢
  exact ⟨Loc_move hm x (j :: z) b o (by simp) hob h.1,LocF_move hm xs z (j + 1) b _ hob h.2⟩
end
mutual
theorem R_moveE (hm:MovesE G w G' w' s p s' p'):(t:T) → ∀ (z:List Nat),z ≠ [] → AllR (KeepR G G') t → R St G w s t (z ++ p) → R St G' w' s' t (z ++ p')
 | .any,_,_,_,_ => by simp only [R]
 | .lit _,z,_,_,h => by simp only [R] at h ⊢;rw [hm.hd];exact h
 | .ro _,z,_,_,h => by simp only [R] at h ⊢;rw [hm.hd];exact h
 | .same r q,z,_,hk,h => by simp only [R] at h ⊢;rw [hm.hd,hk.1];exact h
 | .addr r q,z,_,hk,h => by simp only [R] at h ⊢;rw [hm.hd,hk.2];exact h
 | .sub r q k lo hi,z,_,hk,h => by simp only [R] at h ⊢;rw [hm.hd,hk.1];exact h
 | .agg xs,z,_,hk,h => by simp only [R,AllR] at h hk ⊢;exact RF_move hm xs z 0 hk h
 | .tup xs,z,_,hk,h => by simp only [R,AllR] at h hk ⊢;exact RF_move hm xs z 0 hk h
 | .sl k xs,z,hz,hk,h => by
  simp only [R,AllR] at h hk ⊢
  rw [hm.hd]
  rcases h with h | ⟨b,o0,cap,cs,e,h1,h2,h3,h4,h5,h6,h7,h8⟩
  ·exact .inl h
  ·obtain ⟨cs',h2',hsz⟩:=hm.blk b cs e h2
   exact .inr ⟨b,o0,cap,cs',e,h1,h2',h3,h4,by omega,hm.ow b z hz h6,fun o ho ho2 => (hm.lb b o true z hz ⟨_,h6⟩ (h7 o ho (by omega))).1,RL_move hm xs z 0 b o0 k ⟨_,h6⟩ hk h8⟩
 | .ptr t,z,hz,hk,h => by
  simp only [R,AllR] at h hk ⊢
  rw [hm.hd]
  obtain ⟨b,cs,e,h1,h2,h3,h6,h4,h5⟩:=h
  obtain ⟨cs',h2',hsz⟩:=hm.blk b cs e h2
  exact ⟨b,cs',e,h1,h2',by omega,hm.ow b z hz h6,Loc_move hm t (0 :: z) b 0 (by simp) ⟨_,h6⟩ h4,R_moveE hm t (0 :: z) (by simp) hk h5⟩
 | .mp ks xs,z,hz,_,h => by
  simp only [R] at h ⊢
  rw [hm.hd]
  obtain ⟨b,ms,c,h1,h2,h3,h4⟩:=h
  exact ⟨b,ms,c,h1,hm.mp b z ms c h3 h2,hm.ow b z hz h3,h4⟩
theorem RL_move (hm:MovesE G w G' w' s p s' p'):(xs:List T) → ∀ (z:List Nat) (i b o k:Nat),(∃ y,G.ow b = some (s,y)) → AllRs (KeepR G G') xs → RL St G w s xs (z ++ p) i b o k → RL St G' w' s' xs (z ++ p') i b o k
 | [],_,_,_,_,_,_,_,_ => by simp only [RL]
 | x :: xs,z,i,b,o,k,hob,hk,h => by
  simp only [RL,AllRs] at h hk ⊢
  exact ⟨⟨Loc_move hm x (i :: z) b o (by simp) hob h.1.1,h.1.2⟩,R_moveE hm x (i :: z) (by simp) hk.1 h.2.1,RL_move hm xs z (i + 1) b _ k hob hk.2 h.2.2⟩
theorem RF_move (hm:MovesE G w G' w' s p s' p'):(xs:List T) → ∀ (z:List Nat) (j:Nat),AllRs (KeepR G G') xs → RF St G w s xs (z ++ p) j → RF St G' w' s' xs (z ++ p') j
 | [],_,_,_,_ => by simp only [RF]
 | x :: xs,z,j,hk,h => by
  simp only [RF,AllRs] at h hk ⊢
  exact ⟨R_moveE hm x (j :: z) (by simp) hk.1 h.1,RF_move hm xs z (j + 1) hk.2 h.2⟩
end
theorem R_move0 (hm:Moves G w G' w' s p s' p') (t:T) (hk:AllR (KeepR G G') t) (h:R St G w s t p):R St G' w' s' t p':=by
 have hd0:G'.hd s' p' = G.hd s p:=by simpa using hm.hd []
 cases t with
 | any => simp only [R]
 | lit _ => simp only [R] at h ⊢;rw [hd0];exact h
 | ro _ => simp only [R] at h ⊢;rw [hd0];exact h
 | same r q => simp only [R] at h ⊢;rw [hd0,hk.1];exact h
 | addr r q => simp only [R] at h ⊢;rw [hd0,hk.2];exact h
 | sub r q k lo hi => simp only [R] at h ⊢;rw [hd0,hk.1];exact h
 | agg xs => simp only [R,AllR] at h hk ⊢;simpa using RF_move hm.toMovesE xs [] 0 hk (by simpa using h)
 | tup xs => simp only [R,AllR] at h hk ⊢;simpa using RF_move hm.toMovesE xs [] 0 hk (by simpa using h)
 | sl k xs =>
  simp only [R,AllR] at h hk ⊢
  rw [hd0]
  rcases h with h | ⟨b,o0,cap,cs,e,h1,h2,h3,h4,h5,h6,h7,h8⟩
  ·exact .inl h
  ·obtain ⟨cs',h2',hsz⟩:=hm.blk b cs e h2
   exact .inr ⟨b,o0,cap,cs',e,h1,h2',h3,h4,by omega,hm.ow0 b h6,fun o ho ho2 => (hm.sp b o ⟨_,h6⟩ (h7 o ho (by omega))).1,by simpa using RL_move hm.toMovesE xs [] 0 b o0 k ⟨_,h6⟩ hk (by simpa using h8)⟩
 | ptr t =>
  simp only [R,AllR] at h hk ⊢
  rw [hd0]
  obtain ⟨b,cs,e,h1,h2,h3,h6,h4,h5⟩:=h
  obtain ⟨cs',h2',hsz⟩:=hm.blk b cs e h2
  exact ⟨b,cs',e,h1,h2',by omega,hm.ow0 b h6,Loc_move hm.toMovesE t [0] b 0 (by simp) ⟨_,h6⟩ h4,R_moveE hm.toMovesE t [0] (by simp) hk h5⟩
 | mp ks xs =>
  simp only [R] at h ⊢
  rw [hd0]
  obtain ⟨b,ms,c,h1,h2,h3,h4⟩:=h
  exact ⟨b,ms,c,h1,hm.mp b [] ms c (by simpa using h3) h2,hm.ow0 b h3,h4⟩
theorem R_move (hm:Moves G w G' w' s p s' p') (t:T) (z:List Nat) (hk:AllR (KeepR G G') t) (h:R St G w s t (z ++ p)):R St G' w' s' t (z ++ p'):=by
 cases z with
 | nil => exact R_move0 hm t hk h
 | cons i z => exact R_moveE hm.toMovesE t (i :: z) (by simp) hk h
end
end Go.Ab

namespace Go.Ab
open Go
def T.get:T → List Nat → Option T
 | t,[] => some t
 | .sl _ xs,i :: f | .agg xs,i :: f | .tup xs,i :: f => match xs[i]? with
  | some x => x.get f
  | none => none
 | .ptr t,i :: f => if i = 0 then t.get f else none
 | .any,_ :: _ | .lit _,_ :: _ | .ro _,_ :: _ | .same _ _,_ :: _ | .addr _ _,_ :: _ | .sub _ _ _ _ _,_ :: _ | .mp _ _,_ :: _ => none
termination_by structural _ f => f
def T.set:T → List Nat → T → T
 | _,[],u => u
 | .sl k xs,i :: f,u => match xs[i]? with
  | some x => .sl k (xs.set i (x.set f u))
  | none => .sl k xs
 | .agg xs,i :: f,u => match xs[i]? with
  | some x => .agg (xs.set i (x.set f u))
  | none => .agg xs
 | .tup xs,i :: f,u => match xs[i]? with
  | some x => .tup (xs.set i (x.set f u))
  | none => .tup xs
 | .ptr t,i :: f,u => if i = 0 then .ptr (t.set f u) else .ptr t
 | .any,_ :: _,_ => .any
 | .lit v,_ :: _,_ => .lit v
 | .ro t,_ :: _,_ => .ro t
 | .same r q,_ :: _,_ => .same r q
 | .addr r q,_ :: _,_ => .addr r q
 | .sub r q k lo hi,_ :: _,_ => .sub r q k lo hi
 | .mp ks xs,_ :: _,_ => .mp ks xs
termination_by structural _ f _ => f
def T.locd:T → List Nat → Bool
 | _,[] => false
 | .sl _ _,_ :: _ | .ptr _,_ :: _ => true
 | .agg xs,i :: f | .tup xs,i :: f => match xs[i]? with
  | some x => x.locd f
  | none => false
 | .any,_ :: _ | .lit _,_ :: _ | .ro _,_ :: _ | .same _ _,_ :: _ | .addr _ _,_ :: _ | .sub _ _ _ _ _,_ :: _ | .mp _ _,_ :: _ => false
termination_by structural _ f => f
abbrev rp (f p:List Nat):List Nat:=f.reverse ++ p
theorem rp_cons (i:Nat) (f p:List Nat):rp (i :: f) p = rp f (i :: p):=by simp [rp]
section
variable {St:Stb} {G:Gh} {w:World} {s:Nat}
theorem RL_get:(xs:List T) → ∀ (p:List Nat) (i0 b o k i:Nat) (x:T),RL St G w s xs p i0 b o k → xs[i]? = some x →
  Loc G w s x ((i0 + i) :: p) b (o + i * k) ∧ x.size = k ∧ R St G w s x ((i0 + i) :: p)
 | [],_,_,_,_,_,_,_,_,h => by simp at h
 | y :: ys,p,i0,b,o,k,i,x,hr,h => by
  simp only [RL] at hr
  cases i with
  | zero =>
   simp at h;subst h
   simpa using ⟨hr.1.1,hr.1.2,hr.2.1⟩
  | succ i =>
   have:=RL_get ys p (i0 + 1) b (o + k) k i x hr.2.2 (by simpa using h)
   rw [show i0 + (i + 1) = i0 + 1 + i from by omega,show o + (i + 1) * k = o + k + i * k from by rw [Nat.succ_mul];omega]
   exact this
theorem RF_get:(xs:List T) → ∀ (p:List Nat) (j i:Nat) (x:T),RF St G w s xs p j → xs[i]? = some x → R St G w s x ((j + i) :: p)
 | [],_,_,_,_,_,h => by simp at h
 | y :: ys,p,j,i,x,hr,h => by
  simp only [RF] at hr
  cases i with
  | zero => simp at h;subst h;simpa using hr.1
  | succ i =>
   have:=RF_get ys p (j + 1) i x hr.2 (by simpa using h)
   rwa [show j + (i + 1) = j + 1 + i from by omega]
theorem LocF_get:(xs:List T) → ∀ (p:List Nat) (j b o i:Nat) (x:T),LocF G w s xs p j b o → xs[i]? = some x →
  ∃ o',Loc G w s x ((j + i) :: p) b o' ∧ o ≤ o' ∧ o' + x.size ≤ o + T.sizes xs
 | [],_,_,_,_,_,_,_,h => by simp at h
 | y :: ys,p,j,b,o,i,x,hr,h => by
  simp only [LocF] at hr
  cases i with
  | zero => simp at h;subst h;exact ⟨o,by simpa using hr.1,by omega,by simp [T.sizes]⟩
  | succ i =>
   obtain ⟨o',h1,h2,h3⟩:=LocF_get ys p (j + 1) b (o + y.size) i x hr.2 (by simpa using h)
   refine ⟨o',?_,by omega,by simp only [T.sizes];omega⟩
   rwa [show j + (i + 1) = j + 1 + i from by omega]
def At (G:Gh) (w:World) (s:Nat) (t:T) (p:List Nat):Prop :=
 ∃ b o cs e,Loc G w s t p b o ∧ w.heap[b]? = some (.cells cs e (0,0)) ∧ o + t.size ≤ cs.size
theorem At.field {xs:List T} {p:List Nat} (h:At G w s (.agg xs) p) {i:Nat} {x:T} (hx:xs[i]? = some x):At G w s x (i :: p):=by
 obtain ⟨b,o,cs,e,hl,hh,hs⟩:=h
 simp only [Loc] at hl
 obtain ⟨o',h1,h2,h3⟩:=LocF_get xs p 0 b o i x hl.2 hx
 simp only [T.size] at hs
 exact ⟨b,o',cs,e,by simpa using h1,hh,by omega⟩
theorem R_sl_at {k:Nat} {xs:List T} {p:List Nat} (h:R St G w s (.sl k xs) p) {i:Nat} {x:T} (hx:xs[i]? = some x) :
  At G w s x (i :: p) ∧ R St G w s x (i :: p):=by
 simp only [R] at h
 have hi:=(List.getElem?_eq_some_iff.1 hx).1
 rcases h with ⟨rfl,_⟩ | ⟨b,o0,cap,cs,e,h1,h2,h3,h4,h5,h6,h7,h8⟩
 ·simp at hx
 ·obtain ⟨a1,a2,a3⟩:=RL_get xs p 0 b o0 k i x h8 hx
  simp only [Nat.zero_add] at a1 a3
  refine ⟨⟨b,o0 + i * k,cs,e,a1,h2,?_⟩,a3⟩
  rw [a2,Nat.add_assoc,← Nat.succ_mul]
  exact Nat.le_trans (Nat.add_le_add_left (Nat.mul_le_mul_right _ (by omega)) _) h5
theorem R_ptr_at {t:T} {p:List Nat} (h:R St G w s (.ptr t) p):At G w s t (0 :: p) ∧ R St G w s t (0 :: p):=by
 simp only [R] at h
 obtain ⟨b,cs,e,h1,h2,h3,h6,h4,h5⟩:=h
 exact ⟨⟨b,0,cs,e,h4,h2,by omega⟩,h5⟩
theorem R_get_at:(f:List Nat) → ∀ (t u:T) (p:List Nat),At G w s t p → R St G w s t p → t.get f = some u → At G w s u (rp f p) ∧ R St G w s u (rp f p)
 | [],t,u,p,ha,h,hg => by simp [T.get] at hg;subst hg;simpa [rp] using ⟨ha,h⟩
 | i :: f,t,u,p,ha,h,hg => by
  rw [rp_cons]
  cases t with
  | sl k xs =>
   simp only [T.get] at hg
   cases hx:xs[i]? with
   | none => simp [hx] at hg
   | some x => rw [hx] at hg;exact R_get_at f x u _ (R_sl_at h hx).1 (R_sl_at h hx).2 hg
  | ptr t =>
   simp only [T.get] at hg
   split at hg
   ·rename_i hi;subst hi;exact R_get_at f t u _ (R_ptr_at h).1 (R_ptr_at h).2 hg
   ·cases hg
  | agg xs =>
   simp only [T.get] at hg
   cases hx:xs[i]? with
   | none => simp [hx] at hg
   | some x => rw [hx] at hg;exact R_get_at f x u _ (ha.field hx) (by simp only [R] at h;simpa using RF_get xs p 0 i x h hx) hg
  | tup xs => obtain ⟨b,o,cs,e,hl,_⟩:=ha;simp only [Loc] at hl
  | _ => simp [T.get] at hg
theorem R_get:(f:List Nat) → ∀ (t u:T) (p:List Nat),R St G w s t p → t.get f = some u → R St G w s u (rp f p) ∧ (t.locd f = true → At G w s u (rp f p))
 | [],t,u,p,h,hg => by simp [T.get] at hg;subst hg;simpa [rp,T.locd] using h
 | i :: f,t,u,p,h,hg => by
  rw [rp_cons]
  cases t with
  | sl k xs =>
   simp only [T.get] at hg
   cases hx:xs[i]? with
   | none => simp [hx] at hg
   | some x => rw [hx] at hg;exact ⟨(R_get_at f x u _ (R_sl_at h hx).1 (R_sl_at h hx).2 hg).2,fun _ => (R_get_at f x u _ (R_sl_at h hx).1 (R_sl_at h hx).2 hg).1⟩
  | ptr t =>
   simp only [T.get] at hg
   split at hg
   ·rename_i hi;subst hi;exact ⟨(R_get_at f t u _ (R_ptr_at h).1 (R_ptr_at h).2 hg).2,fun _ => (R_get_at f t u _ (R_ptr_at h).1 (R_ptr_at h).2 hg).1⟩
   ·cases hg
  | agg xs =>
   simp only [T.get,T.locd] at hg ⊢
   cases hx:xs[i]? with
   | none => simp [hx] at hg
   | some x => rw [hx] at hg;exact R_get f x u _ (by simp only [R] at h;simpa using RF_get xs p 0 i x h hx) hg
  | tup xs =>
   simp only [T.get,T.locd] at hg ⊢
   cases hx:xs[i]? with
   | none => simp [hx] at hg
   | some x => rw [hx] at hg;exact R_get f x u _ (by simp only [R] at h;simpa using RF_get xs p 0 i x h hx) hg
  | _ => simp [T.get] at hg
end
structure Upd (G:Gh) (w:World) (G':Gh) (w':World) (s:Nat) (tgt:List Nat):Prop where
 hd:∀ p,¬ tgt <:+ p → G'.hd s p = G.hd s p
 ad:∀ p,¬ tgt <:+ p → G'.ad s p = G.ad s p
 lb:∀ b o f p,G.lb b o = some (f,s,p) → ¬ tgt <:+ p → G'.lb b o = some (f,s,p) ∧ cellAt w' b o = cellAt w b o
 ow:∀ b p,G.ow b = some (s,p) → ¬ tgt <:+ p → G'.ow b = some (s,p)
 blk:Blk w w'
 mp:∀ b p (ms:Obj) (_:ms.nocell = true),G.ow b = some (s,p) → ¬ tgt <:+ p → w.heap[b]? = some ms → w'.heap[b]? = some ms
section
variable {St:Stb} {G:Gh} {w:World} {G':Gh} {w':World} {s:Nat} {tgt:List Nat}
theorem Upd.moves (h:Upd G w G' w' s tgt) {p:List Nat} (hp:∀ z,¬ tgt <:+ z ++ p):Moves G w G' w' s p s p where
 hd z:=h.hd _ (hp z)
 ad z _:=h.ad _ (hp z)
 lb b o f z _ _ hl:=h.lb b o f _ hl (hp z)
 ow b z _ hl:=h.ow b _ hl (hp z)
 sp b o _ hl:=h.lb b o true p hl (hp [])
 ow0 b hl:=h.ow b p hl (hp [])
 blk:=h.blk
 mp b z ms c hl hb:=h.mp b _ ms c hl (hp z) hb
mutual
theorem Loc_upd (hm:Upd G w G' w' s tgt):(t:T) → ∀ (p:List Nat) (b o:Nat),(∀ z,¬ tgt <:+ z ++ p) → Loc G w s t p b o → Loc G' w' s t p b o
 | .agg xs,p,b,o,hz,h => by
  simp only [Loc] at h ⊢
  exact ⟨(hm.ad p (hz [])).trans h.1,LocF_upd hm xs p 0 b o hz h.2⟩
 | .any,p,b,o,hz,h | .lit _,p,b,o,hz,h | .ro _,p,b,o,hz,h | .same _ _,p,b,o,hz,h | .addr _ _,p,b,o,hz,h | .sub _ _ _ _ _,p,b,o,hz,h | .sl _ _,p,b,o,hz,h | .ptr _,p,b,o,hz,h | .mp _ _,p,b,o,hz,h => by
  simp only [Loc] at h ⊢
  obtain ⟨h1,h2,h3⟩:=h
  have hl:=hm.lb b o false p h2 (hz [])
  exact ⟨(hm.ad p (hz [])).trans h1,hl.1,by rw [hl.2,h3,hm.hd p (hz [])]⟩
 | .tup _,_,_,_,_,h => by simp only [Loc] at h
theorem LocF_upd (hm:Upd G w G' w' s tgt):(xs:List T) → ∀ (p:List Nat) (j b o:Nat),(∀ z,¬ tgt <:+ z ++ p) → LocF G w s xs p j b o → LocF G' w' s xs p j b o
 | [],_,_,_,_,_,_ => by simp only [LocF]
 | x :: xs,p,j,b,o,hz,h => by
  simp only [LocF] at h ⊢
  exact ⟨Loc_upd hm x (j :: p) b o (fun z => by have:=hz (z ++ [j]);simpa using this) h.1,LocF_upd hm xs p (j + 1) b _ hz h.2⟩
end
theorem Loc_upd1 (hm:Upd G w G' w' s tgt) (t u:T) (p:List Nat) (b o:Nat) (ht:∀ xs,t ≠ .agg xs) (hu:∀ xs,u ≠ .agg xs) (hu':∀ xs,u ≠ .tup xs) (hz:¬ tgt <:+ p) (h:Loc G w s t p b o):Loc G' w' s u p b o:=by
 have h3:G.ad s p = ⟨b,o,none⟩ ∧ G.lb b o = some (false,s,p) ∧ cellAt w b o = some (G.hd s p):=by
  cases t with
  | agg xs => exact absurd rfl (ht xs)
  | tup xs => simp only [Loc] at h
  | _ => simpa only [Loc] using h
 obtain ⟨h1,h2,h3⟩:=h3
 have hl:=hm.lb b o false p h2 hz
 have h4:G'.ad s p = ⟨b,o,none⟩ ∧ G'.lb b o = some (false,s,p) ∧ cellAt w' b o = some (G'.hd s p):=⟨(hm.ad p hz).trans h1,hl.1,by rw [hl.2,h3,hm.hd p hz]⟩
 cases u with
 | agg xs => exact absurd rfl (hu xs)
 | tup xs => exact absurd rfl (hu' xs)
 | _ => simpa only [Loc] using h4
theorem suff_other {f p:List Nat} {i i':Nat} (hi:i' ≠ i) (z:List Nat):¬ f.reverse ++ (i :: p) <:+ z ++ (i' :: p):=by
 rintro ⟨y,hy⟩
 rw [← List.append_assoc] at hy
 have:=List.append_inj_right' hy rfl
 simp at this
 exact hi this.symm
theorem suff_up {f p:List Nat} {i:Nat}:¬ f.reverse ++ (i :: p) <:+ p:=by
 intro h
 have:=h.length_le
 simp at this
 omega
theorem sizes_set:(xs:List T) → ∀ (i:Nat) (x y:T),xs[i]? = some x → y.size = x.size → T.sizes (xs.set i y) = T.sizes xs
 | [],_,_,_,h,_ => by simp at h
 | z :: zs,i,x,y,h,hs => by
  cases i with
  | zero => simp at h;subst h;simp [T.sizes,hs]
  | succ i => simp only [List.set_cons_succ,T.sizes,sizes_set zs i x y (by simpa using h) hs]
theorem size_set:(f:List Nat) → ∀ (t u u0:T),t.get f = some u0 → u.size = u0.size → (t.set f u).size = t.size
 | [],t,u,u0,h,hs => by simp [T.get] at h;subst h;simpa [T.set] using hs
 | i :: f,t,u,u0,h,hs => by
  cases t with
  | sl k xs => simp only [T.get] at h;cases hx:xs[i]? <;> simp [hx,T.set,T.size] at h ⊢
  | tup xs => simp only [T.get] at h;cases hx:xs[i]? <;> simp [hx,T.set,T.size] at h ⊢
  | agg xs =>
   simp only [T.get] at h
   cases hx:xs[i]? with
   | none => simp [hx] at h
   | some x =>
    rw [hx] at h
    simp only [T.set,hx,T.size]
    exact sizes_set xs i x _ hx (size_set f x u u0 h hs)
  | ptr t => simp only [T.get] at h;split at h <;> simp_all [T.set,T.size]
  | _ => simp [T.get] at h
theorem LocF_set (hm:Upd G w G' w' s tgt):(xs:List T) → ∀ (p:List Nat) (j b o i:Nat) (x y:T),LocF G w s xs p j b o → xs[i]? = some x → y.size = x.size →
  (∀ i',i' ≠ j + i → ∀ z,¬ tgt <:+ z ++ (i' :: p)) → (∀ o',Loc G w s x ((j + i) :: p) b o' → Loc G' w' s y ((j + i) :: p) b o') → LocF G' w' s (xs.set i y) p j b o
 | [],_,_,_,_,_,_,_,_,h,_,_,_ => by simp at h
 | z :: zs,p,j,b,o,i,x,y,hl,h,hs,hz,hy => by
  simp only [LocF] at hl
  cases i with
  | zero =>
   simp at h;subst h
   simp only [List.set_cons_zero,LocF,hs]
   exact ⟨by simpa using hy o (by simpa using hl.1),LocF_upd' hm zs p (j + 1) b _ (fun i' hi' => hz i' (by omega)) hl.2⟩
  | succ i =>
   simp only [List.set_cons_succ,LocF]
   refine ⟨Loc_upd hm z _ b o (hz j (by omega)) hl.1,LocF_set hm zs p (j + 1) b _ i x y hl.2 (by simpa using h) hs (fun i' hi' => hz i' (by omega)) ?_⟩
   rw [show j + 1 + i = j + (i + 1) from by omega]
   exact hy
where LocF_upd' (hm:Upd G w G' w' s tgt):(xs:List T) → ∀ (p:List Nat) (j b o:Nat),(∀ i',j ≤ i' → ∀ z,¬ tgt <:+ z ++ (i' :: p)) → LocF G w s xs p j b o → LocF G' w' s xs p j b o
 | [],_,_,_,_,_,_ => by simp only [LocF]
 | x :: xs,p,j,b,o,hz,h => by
  simp only [LocF] at h ⊢
  exact ⟨Loc_upd hm x (j :: p) b o (hz j (Nat.le_refl _)) h.1,LocF_upd' hm xs p (j + 1) b _ (fun i' hi' => hz i' (by omega)) h.2⟩
theorem Loc_set:(f:List Nat) → ∀ (t u u0:T) (p:List Nat) (b o:Nat),Upd G w G' w' s (rp f p) → Loc G w s t p b o → t.get f = some u0 → u.size = u0.size →
  (∀ o',Loc G w s u0 (rp f p) b o' → Loc G' w' s u (rp f p) b o') → Loc G' w' s (t.set f u) p b o
 | [],t,u,u0,p,b,o,hm,hl,hg,hs,hu => by
  simp [T.get] at hg;subst hg
  simpa [T.set,rp] using hu o (by simpa [rp] using hl)
 | i :: f,t,u,u0,p,b,o,hm,hl,hg,hs,hu => by
  have hm':=hm
  rw [rp_cons] at hm'
  cases t with
  | sl k xs =>
   have:∃ ys,(T.sl k xs).set (i :: f) u = .sl k ys:=by simp only [T.set];split <;> exact ⟨_,rfl⟩
   obtain ⟨ys,hy⟩:=this
   rw [hy]
   exact Loc_upd1 hm' (.sl k xs) (.sl k ys) p b o (by simp) (by simp) (by simp) suff_up hl
  | ptr t =>
   have:∃ ys,(T.ptr t).set (i :: f) u = .ptr ys:=by simp only [T.set];split <;> exact ⟨_,rfl⟩
   obtain ⟨ys,hy⟩:=this
   rw [hy]
   exact Loc_upd1 hm' (.ptr t) (.ptr ys) p b o (by simp) (by simp) (by simp) suff_up hl
  | agg xs =>
   simp only [T.get] at hg
   cases hx:xs[i]? with
   | none => simp [hx] at hg
   | some x =>
    rw [hx] at hg
    simp only [T.set,hx]
    simp only [Loc] at hl ⊢
    refine ⟨(hm'.ad p suff_up).trans hl.1,LocF_set hm' xs p 0 b o i x _ hl.2 hx (size_set f x u u0 hg hs) (fun i' hi' z => suff_other (by omega) z) ?_⟩
    intro o' ho'
    simp only [Nat.zero_add] at ho' ⊢
    exact Loc_set f x u u0 (i :: p) b o' hm' ho' hg hs (by simpa only [rp_cons] using hu)
  | tup xs => simp only [Loc] at hl
  | _ => simp [T.get] at hg
end
end Go.Ab

namespace Go.Ab
open Go
section
variable {St:Stb} {G:Gh} {w:World} {G':Gh} {w':World} {s:Nat} {tgt:List Nat}
theorem R_upd (hm:Upd G w G' w' s tgt) (t:T) (p:List Nat) (hz:∀ z,¬ tgt <:+ z ++ p) (hk:AllR (KeepR G G') t) (h:R St G w s t p):R St G' w' s t p:=by
 simpa using R_move (hm.moves hz) t [] hk (by simpa using h)
theorem RL_upd (hm:Upd G w G' w' s tgt):(xs:List T) → ∀ (p:List Nat) (i b o k:Nat),(∀ i',i ≤ i' → ∀ z,¬ tgt <:+ z ++ (i' :: p)) → AllRs (KeepR G G') xs → RL St G w s xs p i b o k → RL St G' w' s xs p i b o k
 | [],_,_,_,_,_,_,_,_ => by simp only [RL]
 | x :: xs,p,i,b,o,k,hz,hk,h => by
  simp only [RL,AllRs] at h hk ⊢
  exact ⟨⟨Loc_upd hm x (i :: p) b o (hz i (Nat.le_refl _)) h.1.1,h.1.2⟩,R_upd hm x (i :: p) (hz i (Nat.le_refl _)) hk.1 h.2.1,
   RL_upd hm xs p (i + 1) b _ k (fun i' hi' => hz i' (by omega)) hk.2 h.2.2⟩
theorem RL_set (hm:Upd G w G' w' s tgt):(xs:List T) → ∀ (p:List Nat) (i0 b o k i:Nat) (x y:T),RL St G w s xs p i0 b o k → xs[i]? = some x → y.size = x.size → AllRs (KeepR G G') xs →
  (∀ i',i' ≠ i0 + i → ∀ z,¬ tgt <:+ z ++ (i' :: p)) → (∀ o',Loc G w s x ((i0 + i) :: p) b o' → Loc G' w' s y ((i0 + i) :: p) b o') → R St G' w' s y ((i0 + i) :: p) →
  RL St G' w' s (xs.set i y) p i0 b o k
 | [],_,_,_,_,_,_,_,_,_,h,_,_,_,_,_ => by simp at h
 | z :: zs,p,i0,b,o,k,i,x,y,hr,h,hs,hk,hz,hl,hy => by
  simp only [RL,AllRs] at hr hk
  cases i with
  | zero =>
   simp at h;subst h
   simp only [List.set_cons_zero,RL]
   exact ⟨⟨by simpa using hl o (by simpa using hr.1.1),by omega⟩,by simpa using hy,RL_upd hm zs p (i0 + 1) b _ k (fun i' hi' => hz i' (by omega)) hk.2 hr.2.2⟩
  | succ i =>
   simp only [List.set_cons_succ,RL]
   rw [show i0 + (i + 1) = i0 + 1 + i from by omega] at hl hy hz
   exact ⟨⟨Loc_upd hm z _ b o (hz i0 (by omega)) hr.1.1,hr.1.2⟩,R_upd hm z _ (hz i0 (by omega)) hk.1 hr.2.1,RL_set hm zs p (i0 + 1) b _ k i x y hr.2.2 (by simpa using h) hs hk.2 hz hl hy⟩
theorem RF_upd (hm:Upd G w G' w' s tgt):(xs:List T) → ∀ (p:List Nat) (i:Nat),(∀ i',i ≤ i' → ∀ z,¬ tgt <:+ z ++ (i' :: p)) → AllRs (KeepR G G') xs → RF St G w s xs p i → RF St G' w' s xs p i
 | [],_,_,_,_,_ => by simp only [RF]
 | x :: xs,p,i,hz,hk,h => by
  simp only [RF,AllRs] at h hk ⊢
  exact ⟨R_upd hm x (i :: p) (hz i (Nat.le_refl _)) hk.1 h.1,RF_upd hm xs p (i + 1) (fun i' hi' => hz i' (by omega)) hk.2 h.2⟩
theorem RF_set (hm:Upd G w G' w' s tgt):(xs:List T) → ∀ (p:List Nat) (i0 i:Nat) (x y:T),RF St G w s xs p i0 → xs[i]? = some x → AllRs (KeepR G G') xs →
  (∀ i',i' ≠ i0 + i → ∀ z,¬ tgt <:+ z ++ (i' :: p)) → R St G' w' s y ((i0 + i) :: p) →
  RF St G' w' s (xs.set i y) p i0
 | [],_,_,_,_,_,_,h,_,_,_ => by simp at h
 | z :: zs,p,i0,i,x,y,hr,h,hk,hz,hy => by
  simp only [RF,AllRs] at hr hk
  cases i with
  | zero =>
   simp at h;subst h
   simp only [List.set_cons_zero,RF]
   exact ⟨by simpa using hy,RF_upd hm zs p (i0 + 1) (fun i' hi' => hz i' (by omega)) hk.2 hr.2⟩
  | succ i =>
   simp only [List.set_cons_succ,RF]
   rw [show i0 + (i + 1) = i0 + 1 + i from by omega] at hy hz
   exact ⟨R_upd hm z _ (hz i0 (by omega)) hk.1 hr.1,RF_set hm zs p (i0 + 1) i x y hr.2 (by simpa using h) hk.2 hz hy⟩
theorem AllRs_get {φ:Nat → List Nat → Prop}:(xs:List T) → AllRs φ xs → ∀ (i:Nat) (x:T),xs[i]? = some x → AllR φ x
 | [],_,_,_,h => by simp at h
 | y :: ys,hk,i,x,h => by
  simp only [AllRs] at hk
  cases i with
  | zero => simp at h;subst h;exact hk.1
  | succ i => exact AllRs_get ys hk.2 i x (by simpa using h)
theorem R_set:(f:List Nat) → ∀ (t u u0:T) (p:List Nat),Upd G w G' w' s (rp f p) → R St G w s t p → t.get f = some u0 → u.size = u0.size → AllR (KeepR G G') t →
  (∀ b o,Loc G w s u0 (rp f p) b o → Loc G' w' s u (rp f p) b o) → R St G' w' s u (rp f p) → R St G' w' s (t.set f u) p
 | [],t,u,u0,p,hm,hr,hg,hs,hk,hl,hu => by simpa [T.set,rp] using hu
 | i :: f,t,u,u0,p,hm,hr,hg,hs,hk,hl,hu => by
  have hm':=hm
  rw [rp_cons] at hm' hl hu
  cases t with
  | sl k xs =>
   simp only [T.get] at hg
   cases hx:xs[i]? with
   | none => simp [hx] at hg
   | some x =>
    rw [hx] at hg
    simp only [T.set,hx]
    simp only [R,AllR] at hr hk ⊢
    rcases hr with ⟨rfl,_⟩ | ⟨b,o0,cap,cs,e,h1,h2,h3,h4,h5,h6,h7,h8⟩
    ·simp at hx
    ·obtain ⟨cs',h2',hsz⟩:=hm'.blk b cs e h2
     refine .inr ⟨b,o0,cap,cs',e,by rw [hm'.hd p suff_up,List.length_set];exact h1,h2',by rw [List.length_set];exact h3,h4,by omega,hm'.ow b p h6 suff_up,?_,?_⟩
     ·intro o ho ho2
      rw [List.length_set] at ho
      exact (hm'.lb b o true p (h7 o ho (by omega)) suff_up).1
     ·have hx1:=RL_get xs p 0 b o0 k i x h8 hx
      simp only [Nat.zero_add] at hx1
      refine RL_set hm' xs p 0 b o0 k i x _ h8 hx (size_set f x u u0 hg hs) hk (fun i' hi' z => suff_other (by omega) z) ?_ ?_
      ·intro o' ho'
       simp only [Nat.zero_add] at ho' ⊢
       exact Loc_set f x u u0 (i :: p) b o' hm' ho' hg hs (fun o'' => hl b o'')
      ·simp only [Nat.zero_add]
       exact R_set f x u u0 (i :: p) hm' hx1.2.2 hg hs (AllRs_get xs hk i x hx) hl hu
  | ptr t =>
   simp only [T.get] at hg
   split at hg
   ·rename_i hi;subst hi
    simp only [T.set,if_true]
    simp only [R,AllR] at hr hk ⊢
    obtain ⟨b,cs,e,h1,h2,h3,h6,h4,h5⟩:=hr
    obtain ⟨cs',h2',hsz⟩:=hm'.blk b cs e h2
    refine ⟨b,cs',e,by rw [hm'.hd p suff_up];exact h1,h2',by rw [size_set f t u u0 hg hs];omega,hm'.ow b p h6 suff_up,Loc_set f t u u0 (0 :: p) b 0 hm' h4 hg hs (fun o'' => hl b o''),R_set f t u u0 (0 :: p) hm' h5 hg hs hk hl hu⟩
   ·cases hg
  | agg xs =>
   simp only [T.get] at hg
   cases hx:xs[i]? with
   | none => simp [hx] at hg
   | some x =>
    rw [hx] at hg
    simp only [T.set,hx]
    simp only [R,AllR] at hr hk ⊢
    refine RF_set hm' xs p 0 i x _ hr hx hk (fun i' hi' z => suff_other (by omega) z) ?_
    simp only [Nat.zero_add]
    exact R_set f x u u0 (i :: p) hm' (by simpa using RF_get xs p 0 i x hr hx) hg hs (AllRs_get xs hk i x hx) hl hu
  | tup xs =>
   simp only [T.get] at hg
   cases hx:xs[i]? with
   | none => simp [hx] at hg
   | some x =>
    rw [hx] at hg
    simp only [T.set,hx]
    simp only [R,AllR] at hr hk ⊢
    refine RF_set hm' xs p 0 i x _ hr hx hk (fun i' hi' z => suff_other (by omega) z) ?_
    simp only [Nat.zero_add]
    exact R_set f x u u0 (i :: p) hm' (by simpa using RF_get xs p 0 i x hr hx) hg hs (AllRs_get xs hk i x hx) hl hu
  | _ => simp [T.get] at hg
end
end Go.Ab

namespace Go.Ab
open Go
mutual
def vals (G:Gh) (s:Nat):T → List Nat → List Value
 | .agg xs,p => valsF G s xs p 0
 | .any,p | .lit _,p | .ro _,p | .same _ _,p | .addr _ _,p | .sub _ _ _ _ _,p | .sl _ _,p | .ptr _,p | .tup _,p | .mp _ _,p => [G.hd s p]
def valsF (G:Gh) (s:Nat):List T → List Nat → Nat → List Value
 | [],_,_ => []
 | x :: xs,p,j => vals G s x (j :: p) ++ valsF G s xs p (j + 1)
end
def mkV1 (G:Gh) (s:Nat) (t:T) (p:List Nat):Value :=
 match t with
 | .agg xs => .agg (valsF G s xs p 0).toArray
 | _ => G.hd s p
def tupF (G:Gh) (s:Nat):List T → List Nat → Nat → List Value
 | [],_,_ => []
 | x :: xs,p,j => mkV1 G s x (j :: p) :: tupF G s xs p (j + 1)
def mkV (G:Gh) (s:Nat) (t:T) (p:List Nat):Value :=
 match t with
 | .agg xs => .agg (valsF G s xs p 0).toArray
 | .tup xs => .tuple (tupF G s xs p 0).toArray
 | _ => G.hd s p
mutual
def Top:T → Prop
 | .sl _ xs => Cleans xs
 | .ptr t => Clean t
 | .agg xs | .tup xs => Tops xs
 | .any | .lit _ | .ro _ | .same _ _ | .addr _ _ | .sub _ _ _ _ _ | .mp _ _ => True
def Tops:List T → Prop
 | [] => True
 | x :: xs => Top x ∧ Tops xs
end
mutual
theorem Top.of_clean:(t:T) → Clean t → Top t
 | .sl _ xs,h => by simpa only [Top,Clean,AllR] using h
 | .ptr t,h => by simpa only [Top,Clean,AllR] using h
 | .agg xs,h | .tup xs,h => by simp only [Top];exact Tops.of_clean xs (by simpa only [Clean,AllR] using h)
 | .any,_ | .lit _,_ | .ro _,_ | .same _ _,_ | .addr _ _,_ | .sub _ _ _ _ _,_ | .mp _ _,_ => by simp only [Top]
theorem Tops.of_clean:(xs:List T) → Cleans xs → Tops xs
 | [],_ => by simp only [Tops]
 | x :: xs,h => by simp only [Tops];exact ⟨Top.of_clean x h.1,Tops.of_clean xs h.2⟩
end
abbrev Chg:=List (Nat × Nat)
def Off (chg:Chg) (s:Nat) (p:List Nat):Prop:=∀ n,(s,n) ∈ chg → p.length < n
def refOk (chg:Chg) (r:Nat) (p:List Nat):Bool:=chg.all fun c => c.1 != r || decide (p.length < c.2)
theorem refOk_off {chg:Chg} {r:Nat} {p:List Nat} (h:refOk chg r p = true):Off chg r p:=by
 intro n hn
 have:=List.all_eq_true.1 h _ hn
 grind
mutual
def T.okB (chg:Chg):T → Bool
 | .same r p | .addr r p | .sub r p _ _ _ => refOk chg r p
 | .agg xs | .tup xs => okBs chg xs
 | .any | .lit _ | .ro _ | .sl _ _ | .ptr _ | .mp _ _ => true
def okBs (chg:Chg):List T → Bool
 | [] => true
 | x :: xs => x.okB chg && okBs chg xs
end
mutual
theorem okB_all {chg:Chg}:(t:T) → Top t → t.okB chg = true → AllR (Off chg) t
 | .same r p,_,h | .addr r p,_,h | .sub r p _ _ _,_,h => by simp only [T.okB] at h;simp only [AllR];exact refOk_off h
 | .agg xs,ht,h | .tup xs,ht,h => by simp only [T.okB,Top] at h ht;simp only [AllR];exact okBs_all xs ht h
 | .sl _ xs,ht,_ => by simp only [Top] at ht;simp only [AllR];grind[AllRs.mono]
 | .ptr t,ht,_ => by simp only [Top] at ht;simp only [AllR];grind[AllR.mono]
 | .any,_,_ | .lit _,_,_ | .ro _,_,_ | .mp _ _,_,_ => by simp only [AllR]
theorem okBs_all {chg:Chg}:(xs:List T) → Tops xs → okBs chg xs = true → AllRs (Off chg) xs
 | [],_,_ => by simp only [AllRs]
 | x :: xs,ht,h => by
  simp only [okBs,Tops,Bool.and_eq_true] at h ht
  simp only [AllRs];exact ⟨okB_all x ht.1 h.1,okBs_all xs ht.2 h.2⟩
end
abbrev Env:=Nat → Option T
abbrev Wr:=List (Nat × Option T)
def Wr.find (wr:Wr) (s:Nat):Option (Option T) :=
 match wr with
 | [] => none
 | (k,x) :: r => if k = s then some x else Wr.find r s
def Env.app (E:Env) (wr:Wr) (chg:Chg):Env:=fun s =>
 match wr.find s with
 | some x => x
 | none => match E s with
  | some t => if t.okB chg then some t else none
  | none => none
structure Ctx where
 St:Stb
 W:Nat → Prop
 w0:World
 N:Nat
def BlkOk (Γ:Ctx) (w:World) (b:Nat):Prop:=b < w.heap.size ∧ (Γ.w0.heap.size ≤ b ∨ Γ.W b) ∧ Γ.St b = none
structure BlkW (w w':World):Prop where
 blk:Blk w w'
 os:w'.os = w.os
 out:w'.output = w.output
def Gl (S:Stb):Prop:=∀ g ∈ glob,∃ cs t f,S g.1 = some (.cells cs t f) ∧ g.2 cs
theorem Gl.up {S S':Stb} (h:Gl S) (hs:∀ b x,S b = some x → S' b = some x):Gl S':=fun g hg => by
 obtain ⟨cs,t,f,h1,h2⟩:=h g hg
 exact ⟨cs,t,f,hs _ _ h1,h2⟩
structure Mem (Γ:Ctx) (G:Gh) (w:World):Prop where
 one:∀ s p,(G.hd s p).oneCell' = true
 lb:∀ b o l,G.lb b o = some l → BlkOk Γ w b
 ow:∀ b l,G.ow b = some l → BlkOk Γ w b
 st:∀ b x,Γ.St b = some x → w.heap[b]? = some x
 fr:∀ b,b < Γ.w0.heap.size → ¬ Γ.W b → w.heap[b]? = Γ.w0.heap[b]?
 sz:Γ.w0.heap.size ≤ w.heap.size
 bk:BlkW Γ.w0 w
 gl:Gl Γ.St
theorem Blk.trans {w w' w'':World} (h:Blk w w') (h':Blk w' w''):Blk w w'':=fun b cs e hb => by
 obtain ⟨cs',h1,h2⟩:=h b cs e hb
 obtain ⟨cs'',h3,h4⟩:=h' b cs' e h1
 grind
theorem BlkW.trans {w w' w'':World} (h:BlkW w w') (h':Blk w' w'') (ho:w''.os = w'.os) (hq:w''.output = w'.output):BlkW w w'':=⟨h.blk.trans h',ho.trans h.os,hq.trans h.out⟩
def Ent (Γ:Ctx) (G:Gh) (w:World) (v:Option Value) (s:Nat) (t:T):Prop:=v = some (mkV G s t []) ∧ R Γ.St G w s t [] ∧ Top t
structure Rep (Γ:Ctx) (E:Env) (G:Gh) (tmps:Array Value) (w:World):Prop where
 size:tmps.size = Γ.N
 ent:∀ s t,E s = some t → Ent Γ G w tmps[s]? s t
 mem:Mem Γ G w
def Sim (Γ:Ctx) (E:Env) (a:Act) (w:World):Prop:=a.defers = [] ∧ ∃ G,Rep Γ E G a.tmps w
structure Grow (S S':Stb) (W:Nat → Prop) (n:Nat):Prop where
 le:∀ b x,S b = some x → S' b = some x
 nw:∀ b,S b = none → S' b ≠ none → n ≤ b ∨ W b
theorem Grow.refl {S:Stb} {W:Nat → Prop} {n:Nat}:Grow S S W n:=⟨fun _ _ h => h,by grind⟩
theorem Grow.trans {S S' S'':Stb} {W:Nat → Prop} {n:Nat} (h:Grow S S' W n) (h':Grow S' S'' W n):Grow S S'' W n :=
 ⟨fun b x hb => h'.le b x (h.le b x hb),fun b hb hb' => by
  cases hs:S' b with
  | none => exact h'.nw b hs hb'
  | some x => exact h.nw b hb (by grind)⟩
abbrev Ctx.at (Γ:Ctx) (S:Stb):Ctx:={ Γ with St:=S }
def Sim2 (Γ:Ctx) (E:Env) (a:Act) (w:World):Prop:=∃ S,Grow Γ.St S Γ.W Γ.w0.heap.size ∧ Sim (Γ.at S) E a w
theorem Sim2.of {Γ:Ctx} {E:Env} {a:Act} {w:World} (h:Sim Γ E a w):Sim2 Γ E a w:=⟨Γ.St,.refl,h⟩
theorem Sim2.up {Γ:Ctx} {E:Env} {a:Act} {w:World} {S:Stb} (hS:Grow Γ.St S Γ.W Γ.w0.heap.size) (h:Sim2 (Γ.at S) E a w):Sim2 Γ E a w:=by
 obtain ⟨S',h1,h2⟩:=h
 exact ⟨S',hS.trans h1,h2⟩
structure Keep (chg:Chg) (G:Gh) (w:World) (G':Gh) (w':World):Prop where
 hd:∀ s p,Off chg s p → G'.hd s p = G.hd s p
 ad:∀ s p,Off chg s p → G'.ad s p = G.ad s p
 lb:∀ b o f s p,(∃ y,G.ow b = some (s,y)) → G.lb b o = some (f,s,p) → (∀ n,(s,n) ∉ chg) → G'.lb b o = some (f,s,p) ∧ cellAt w' b o = cellAt w b o
 ow:∀ b s p,G.ow b = some (s,p) → (∀ n,(s,n) ∉ chg) → G'.ow b = some (s,p)
 blk:Blk w w'
 mp:∀ b s p (ms:Obj) (_:ms.nocell = true),G.ow b = some (s,p) → (∀ n,(s,n) ∉ chg) → w.heap[b]? = some ms → w'.heap[b]? = some ms
theorem Off.of_not {chg:Chg} {s:Nat} (h:∀ n,(s,n) ∉ chg) (p:List Nat):Off chg s p:=fun n hn => absurd hn (h n)
section
variable {Γ:Ctx} {G G':Gh} {w w':World} {s:Nat} {chg:Chg}
mutual
theorem vals_hd {s':Nat}:(t:T) → ∀ (p p':List Nat),(∀ z,G'.hd s' (z ++ p') = G.hd s (z ++ p)) → vals G' s' t p' = vals G s t p
 | .agg xs,p,p',h => by simp only [vals];exact valsF_hd xs p p' 0 h
 | .any,p,p',h | .lit _,p,p',h | .ro _,p,p',h | .same _ _,p,p',h | .addr _ _,p,p',h | .sub _ _ _ _ _,p,p',h | .sl _ _,p,p',h | .ptr _,p,p',h | .tup _,p,p',h | .mp _ _,p,p',h => by
  simp only [vals];rw [show G'.hd s' p' = G.hd s p from by simpa using h []]
theorem valsF_hd {s':Nat}:(xs:List T) → ∀ (p p':List Nat) (j:Nat),(∀ z,G'.hd s' (z ++ p') = G.hd s (z ++ p)) → valsF G' s' xs p' j = valsF G s xs p j
 | [],_,_,_,_ => by rfl
 | x :: xs,p,p',j,h => by
  simp only [valsF]
  rw [vals_hd x (j :: p) (j :: p') (fun z => by have:=h (z ++ [j]);grind),valsF_hd xs p p' (j + 1) h]
end
theorem mkV1_hd {s':Nat} (t:T) (p p':List Nat) (h:∀ z,G'.hd s' (z ++ p') = G.hd s (z ++ p)):mkV1 G' s' t p' = mkV1 G s t p:=by
 unfold mkV1
 split
 ·grind[valsF_hd]
 ·simpa using h []
theorem tupF_hd {s':Nat}:(xs:List T) → ∀ (p p':List Nat) (j:Nat),(∀ z,G'.hd s' (z ++ p') = G.hd s (z ++ p)) → tupF G' s' xs p' j = tupF G s xs p j
 | [],_,_,_,_ => by rfl
 | x :: xs,p,p',j,h => by
  simp only [tupF]
  rw [mkV1_hd x (j :: p) (j :: p') (fun z => by have:=h (z ++ [j]);simpa using this),tupF_hd xs p p' (j + 1) h]
theorem mkV_hd {s':Nat} (t:T) (p p':List Nat) (h:∀ z,G'.hd s' (z ++ p') = G.hd s (z ++ p)):mkV G' s' t p' = mkV G s t p:=by
 unfold mkV
 split
 ·grind[valsF_hd]
 ·grind[tupF_hd]
 ·simpa using h []
theorem Keep.moves (hk:Keep chg G w G' w') (hs:∀ n,(s,n) ∉ chg) (p:List Nat):Moves G w G' w' s p s p where
 hd _:=hk.hd _ _ (.of_not hs _)
 ad _ _:=hk.ad _ _ (.of_not hs _)
 lb b o f _ _ hob hl:=hk.lb b o f s _ hob hl hs
 ow b _ _ hl:=hk.ow b s _ hl hs
 sp b o hob hl:=hk.lb b o true s _ hob hl hs
 ow0 b hl:=hk.ow b s _ hl hs
 blk:=hk.blk
 mp b _ ms c hl hb:=hk.mp b s _ ms c hl hs hb
theorem Keep.keepR (hk:Keep chg G w G' w') {t:T} (h:AllR (Off chg) t):AllR (KeepR G G') t :=
 AllR.mono (fun r p hr => ⟨hk.hd r p hr,hk.ad r p hr⟩) t h
theorem Ent.keep (hk:Keep chg G w G' w') (hs:∀ n,(s,n) ∉ chg) {v:Option Value} {t:T} (ht:t.okB chg = true) (h:Ent Γ G w v s t):Ent Γ G' w' v s t:=by
 obtain ⟨h1,h2,h3⟩:=h
 refine ⟨?_,?_,h3⟩
 ·rw [h1,mkV_hd t [] [] (fun z => hk.hd _ _ (.of_not hs _))]
 ·simpa using R_move (hk.moves hs []) t [] (hk.keepR (okB_all t h3 ht)) (by grind)
end
theorem rep_step {Γ:Ctx} {E:Env} {G G':Gh} {tmps tmps':Array Value} {w w':World} {wr:Wr} {chg:Chg} (h:Rep Γ E G tmps w)
  (hsize:tmps'.size = tmps.size) (hk:Keep chg G w G' w') (hmem:Mem Γ G' w')
  (hold:∀ s,wr.find s = none → (∀ n,(s,n) ∉ chg) ∧ tmps'[s]? = tmps[s]?)
  (hnew:∀ s t,wr.find s = some (some t) → Ent Γ G' w' tmps'[s]? s t):Rep Γ (E.app wr chg) G' tmps' w' where
 size:=by rw [hsize,h.size]
 mem:=hmem
 ent s t hs:=by
  unfold Env.app at hs
  cases hf:wr.find s with
  | some x =>
   grind
  | none =>
   rw [hf] at hs
   simp at hs
   cases he:E s with
   | none => grind
   | some u =>
    simp [he] at hs
    obtain ⟨hok,rfl⟩:=hs
    rw [(hold s hf).2]
    exact Ent.keep hk (hold s hf).1 hok (h.ent s u he)
end Go.Ab

namespace Go.Ab
open Go
mutual
def cpT (s:Nat):T → List Nat → T
 | .lit v,_ => .lit v
 | .ro t,_ => .ro t
 | .same r q,_ => .same r q
 | .addr r q,_ => .addr r q
 | .sub r q k lo hi,_ => .sub r q k lo hi
 | .agg xs,p => .agg (cpF s xs p 0)
 | .any,p | .sl _ _,p | .ptr _,p | .mp _ _,p | .tup _,p => .same s p
def cpF (s:Nat):List T → List Nat → Nat → List T
 | [],_,_ => []
 | x :: xs,p,j => cpT s x (j :: p) :: cpF s xs p (j + 1)
end
mutual
theorem cpT_top (s:Nat):(t:T) → ∀ p,Top (cpT s t p)
 | .agg xs,p => by simp only [cpT,Top];exact cpF_top s xs p 0
 | .lit _,_ | .ro _,_ | .same _ _,_ | .addr _ _,_ | .sub _ _ _ _ _,_ | .any,_ | .sl _ _,_ | .ptr _,_ | .mp _ _,_ | .tup _,_ => by simp only [cpT,Top]
theorem cpF_top (s:Nat):(xs:List T) → ∀ p j,Tops (cpF s xs p j)
 | [],_,_ => by simp only [cpF,Tops]
 | x :: xs,p,j => by simp only [cpF,Tops];exact ⟨cpT_top s x _,cpF_top s xs p _⟩
end
section
variable {St:Stb} {G G':Gh} {w w':World} {s d:Nat}
mutual
theorem R_copy (hs:∀ p,G'.hd s p = G.hd s p):(t:T) → ∀ (p p':List Nat),(∀ z,G'.hd d (z ++ p') = G.hd s (z ++ p)) → (∀ xs,t ≠ .tup xs) → AllR (KeepR G G') (cpT s t p) → R St G w s t p → R St G' w' d (cpT s t p) p'
 | .lit _,p,p',hd,_,_,h => by simp only [cpT,R] at h ⊢;rw [show G'.hd d p' = _ from by simpa using hd []];exact h
 | .ro _,p,p',hd,_,_,h => by simp only [cpT,R] at h ⊢;rw [show G'.hd d p' = _ from by simpa using hd []];exact h
 | .same r q,p,p',hd,_,hk,h => by simp only [cpT,R,AllR] at h hk ⊢;rw [show G'.hd d p' = _ from by simpa using hd [],hk.1];exact h
 | .addr r q,p,p',hd,_,hk,h => by simp only [cpT,R,AllR] at h hk ⊢;rw [show G'.hd d p' = _ from by simpa using hd [],hk.2];exact h
 | .sub r q k lo hi,p,p',hd,_,hk,h => by simp only [cpT,R,AllR] at h hk ⊢;rw [show G'.hd d p' = _ from by simpa using hd [],hk.1];exact h
 | .any,p,p',hd,_,_,_ | .sl _ _,p,p',hd,_,_,_ | .ptr _,p,p',hd,_,_,_ | .mp _ _,p,p',hd,_,_,_ => by
  simp only [cpT,R];rw [show G'.hd d p' = _ from by simpa using hd [],hs]
 | .tup xs,_,_,_,h,_,_ => absurd rfl (h xs)
 | .agg xs,p,p',hd,_,hk,h => by simp only [cpT,R,AllR] at h hk ⊢;exact RF_copy hs xs p p' 0 hd hk h
theorem RF_copy (hs:∀ p,G'.hd s p = G.hd s p):(xs:List T) → ∀ (p p':List Nat) (j:Nat),(∀ z,G'.hd d (z ++ p') = G.hd s (z ++ p)) → AllRs (KeepR G G') (cpF s xs p j) → RF St G w s xs p j → RF St G' w' d (cpF s xs p j) p' j
 | [],_,_,_,_,_,_ => by simp only [cpF,RF]
 | x :: xs,p,p',j,hd,hk,h => by
  simp only [cpF,RF,AllRs] at h hk ⊢
  refine ⟨?_,RF_copy hs xs p p' (j + 1) hd hk.2 h.2⟩
  by_cases hx:∃ ys,x = .tup ys
  ·obtain ⟨ys,rfl⟩:=hx
   simp only [cpT,R]
   rw [show G'.hd d (j :: p') = _ from by simpa using hd [j],hs]
  ·exact R_copy hs x (j :: p) (j :: p') (fun z => by have:=hd (z ++ [j]);simpa using this) (fun ys e => hx ⟨ys,e⟩) hk.1 h.1
end
mutual
theorem vals_copy:(t:T) → ∀ (p p':List Nat),(∀ z,G'.hd d (z ++ p') = G.hd s (z ++ p)) → vals G' d (cpT s t p) p' = vals G s t p
 | .agg xs,p,p',h => by simp only [cpT,vals];exact valsF_copy xs p p' 0 h
 | .any,p,p',h | .lit _,p,p',h | .ro _,p,p',h | .same _ _,p,p',h | .addr _ _,p,p',h | .sub _ _ _ _ _,p,p',h | .sl _ _,p,p',h | .ptr _,p,p',h | .mp _ _,p,p',h | .tup _,p,p',h => by
  simp only [cpT,vals];rw [show G'.hd d p' = G.hd s p from by simpa using h []]
theorem valsF_copy:(xs:List T) → ∀ (p p':List Nat) (j:Nat),(∀ z,G'.hd d (z ++ p') = G.hd s (z ++ p)) → valsF G' d (cpF s xs p j) p' j = valsF G s xs p j
 | [],_,_,_,_ => by rfl
 | x :: xs,p,p',j,h => by
  simp only [cpF,valsF]
  rw [vals_copy x (j :: p) (j :: p') (fun z => by have:=h (z ++ [j]);grind),valsF_copy xs p p' (j + 1) h]
end
theorem mkV_copy (t:T) (p p':List Nat) (ht:∀ xs,t ≠ .tup xs) (h:∀ z,G'.hd d (z ++ p') = G.hd s (z ++ p)):mkV G' d (cpT s t p) p' = mkV1 G s t p:=by
 cases t with
 | agg xs => grind[cpT,mkV,mkV1,valsF_copy]
 | tup xs => grind
 | _ => simpa [cpT,mkV,mkV1] using h []
end
theorem mkV_mkV1 (G:Gh) (s:Nat) (t:T) (p:List Nat) (ht:∀ xs,t ≠ .tup xs):mkV G s t p = mkV1 G s t p:=by
 cases t with
 | tup xs => grind
 | _ => rfl
def Gh.put (G:Gh) (d:Nat) (f:List Nat → Value):Gh:={ G with hd:=fun s z => if s = d then f z else G.hd s z }
theorem Gh.put_other (G:Gh) {d s:Nat} (f:List Nat → Value) (p:List Nat) (h:s ≠ d):(G.put d f).hd s p = G.hd s p:=by simp [Gh.put,h]
theorem Gh.put_self (G:Gh) (d:Nat) (f:List Nat → Value) (p:List Nat):(G.put d f).hd d p = f p:=by simp [Gh.put]
theorem off_ne {d s:Nat} {p:List Nat} (h:Off [(d,0)] s p):s ≠ d:=by
 rintro rfl
 exact absurd (h 0 (by simp)) (by simp)
theorem Gh.put_keep (G:Gh) {w w':World} (hw:w'.heap = w.heap) (d:Nat) (f:List Nat → Value):Keep [(d,0)] G w (G.put d f) w' where
 hd s p h:=G.put_other f p (off_ne h)
 ad _ _ _:=rfl
 lb b o f' s p _ h _:=⟨h,by grind[cellAt,World.cell?]⟩
 ow b s p h _:=h
 blk b cs e h:=by grind
 mp b s p ms c _ _ h:=by grind
theorem Mem.put {Γ:Ctx} {G:Gh} {w w':World} (h:Mem Γ G w) (hw:w'.heap = w.heap) (d:Nat) (f:List Nat → Value) (hf:∀ z,(f z).oneCell' = true) (ho:w'.os = w.os:=by rfl) (hq:w'.output = w.output:=by rfl):Mem Γ (G.put d f) w' where
 one s p:=by unfold Gh.put;dsimp only;split;exact hf p;exact h.one s p
 lb b o l hl:=by have:=h.lb b o l hl;exact ⟨by rw [hw];exact this.1,this.2⟩
 ow b l hl:=by have:=h.ow b l hl;exact ⟨by rw [hw];exact this.1,this.2⟩
 st b x hx:=by rw [hw];exact h.st b x hx
 fr b h1 h2:=by rw [hw];exact h.fr b h1 h2
 sz:=by rw [hw];exact h.sz
 bk:=h.bk.trans (fun b cs e hb => by grind) ho hq
 gl:=h.gl
theorem find_one (d:Nat) (x:Option T) (s:Nat):Wr.find [(d,x)] s = if d = s then some x else none:=by
 rfl
theorem rep_put {Γ:Ctx} {E:Env} {G:Gh} {tmps:Array Value} {w w':World} (h:Rep Γ E G tmps w) (hw:w'.heap = w.heap) {d:Nat} (hd:d < Γ.N)
  (f:List Nat → Value) (hf:∀ z,(f z).oneCell' = true) (t:T) (v:Value) (hv:v = mkV (G.put d f) d t []) (hr:R Γ.St (G.put d f) w' d t []) (ht:Top t) (ho:w'.os = w.os:=by rfl) (hq:w'.output = w.output:=by rfl) :
  Rep Γ (E.app [(d,some t)] [(d,0)]) (G.put d f) (tmps.setIfInBounds d v) w':=by
 refine rep_step h (by simp) (G.put_keep hw d f) (h.mem.put hw d f hf ho hq) ?_ ?_
 ·grind[find_one]
 ·intro s t' hs
  rw [find_one] at hs
  split at hs
  ·rename_i he
   subst he
   simp at hs
   subst hs
   refine ⟨?_,hr,ht⟩
   rw [Array.getElem?_setIfInBounds]
   simp [h.size,hd,hv]
  ·cases hs
def OpOk (P:Program) (Γ:Ctx) (o:Oper) (E E':Env):Prop :=
 ∀ (a:Act) (w:World) (K:Act → World → Prop) (Q:Exit → Act → World → Prop),Sim Γ E a w → (∀ a' w',Sim2 Γ E' a' w' → K a' w') → o.wp P a w K Q
def opT (E:Env):Operand → Option T
 | .tmp s => E s
 | .const v => if v.oneCell' then some (.lit v) else none
 | .func f => some (.lit (.func (.func f) #[] #[]))
 | .global _ => none
def opCp (x:Operand) (t:T):T:=match x with
 | .tmp s => cpT s t []
 | _ => t
section
variable {P:Program} {Γ:Ctx} {E E':Env} {o:Oper} {d:Nat}
theorem eval_tmp {a:Act} {s:Nat} {v:Value} (h:a.tmps[s]? = some v):a.eval (.tmp s) = v:=by
 simp [Act.eval,Array.getD_eq_getD_getElem?,h]
theorem OpOk.value (ho:o.dst = some d)
  (h:∀ (a:Act) (w:World) (G:Gh),Rep Γ E G a.tmps w → ∃ v w',(execOp a.eval o).run P w = .ok (.value v) w' ∧ ∃ G',Rep Γ E' G' (a.tmps.setIfInBounds d v) w'):OpOk P Γ o E E':=by
 intro a w K Q ⟨hdf,G,hrep⟩ hK
 obtain ⟨v,w',hrun,G',hrep'⟩:=h a w G hrep
 unfold Oper.wp
 rw [hrun,Oper.upon_value]
 refine hK _ _ ?_
 rw [ho]
 exact .of ⟨hdf,G',hrep'⟩
theorem OpOk.skip (ho:o.dst = none)
  (h:∀ (a:Act) (w:World) (G:Gh),Rep Γ E G a.tmps w → ∃ w',(execOp a.eval o).run P w = .ok .skip w' ∧ ∃ G',Rep Γ E' G' a.tmps w'):OpOk P Γ o E E':=by
 intro a w K Q ⟨hdf,G,hrep⟩ hK
 obtain ⟨w',hrun,G',hrep'⟩:=h a w G hrep
 unfold Oper.wp
 rw [hrun,Oper.upon_skip]
 refine hK _ _ ?_
 rw [ho]
 exact .of ⟨hdf,G',hrep'⟩
theorem opd {G:Gh} {a:Act} {w:World} (hrep:Rep Γ E G a.tmps w) {x:Operand} {t:T} (hx:opT E x = some t) (ht:∀ xs,t ≠ .tup xs) :
  ∃ f:List Nat → Value,(∀ z,(f z).oneCell' = true) ∧ (∀ d,(∀ s,x = .tmp s → s ≠ d) → T.okB [(d,0)] (opCp x t) = true →
   a.eval x = mkV (G.put d f) d (opCp x t) [] ∧ R Γ.St (G.put d f) w d (opCp x t) []) ∧ Top (opCp x t):=by
 cases x with
 | tmp s =>
  obtain ⟨h1,h2,h3⟩:=hrep.ent s t hx
  refine ⟨fun z => G.hd s z,fun z => hrep.mem.one s z,?_,cpT_top s t []⟩
  intro d hne hok
  have hsd:=hne s rfl
  have hk:=G.put_keep (w:=w) (w':=w) rfl d (fun z => G.hd s z)
  have hz:∀ z,(G.put d (fun z => G.hd s z)).hd d (z ++ []) = G.hd s (z ++ []):=by grind[Gh.put_self]
  refine ⟨?_,?_⟩
  ·grind[eval_tmp,opCp,mkV_copy,mkV_mkV1]
  ·exact R_copy (fun p => G.put_other _ p hsd) t [] [] hz ht (hk.keepR (okB_all _ (cpT_top s t []) hok)) h2
 | const v =>
  simp only [opT] at hx
  split at hx
  ·rename_i hone
   simp at hx;subst hx
   exact ⟨fun _ => v,fun _ => hone,fun d _ _ => ⟨by simp [Act.eval,opCp,mkV,Gh.put],by simp [opCp,R,Gh.put]⟩,by simp [opCp,Top]⟩
  ·cases hx
 | func f =>
  simp only [opT] at hx
  simp at hx;subst hx
  exact ⟨fun _ => .func (.func f) #[] #[],fun _ => rfl,fun d _ _ => ⟨by simp [Act.eval,opCp,mkV,Gh.put],by simp [opCp,R,Gh.put]⟩,by simp [opCp,Top]⟩
 | global g => cases hx
theorem ok_move (x:Operand) (t:T) (ho:o.op = .move x ∨ o.op = .assign x) (hdst:o.dst = some d) (hd:d < Γ.N) (hx:opT E x = some t) (ht:∀ xs,t ≠ .tup xs)
  (hne:∀ s,x = .tmp s → s ≠ d) (hok:T.okB [(d,0)] (opCp x t) = true):OpOk P Γ o E (E.app [(d,some (opCp x t))] [(d,0)]):=by
 refine OpOk.value hdst fun a w G hrep => ?_
 obtain ⟨f,hf,h1,h2⟩:=opd hrep hx ht
 obtain ⟨h3,h4⟩:=h1 d hne hok
 refine ⟨a.eval x,w,?_,_,rep_put hrep rfl hd f hf _ _ h3 h4 h2⟩
 rcases ho with ho | ho <;> simp [execOp,ho]
theorem opd_lit {G:Gh} {a:Act} {w:World} (hrep:Rep Γ E G a.tmps w) {x:Operand} {v:Value} (hx:opT E x = some (.lit v)):a.eval x = v ∧ v.oneCell' = true:=by
 cases x with
 | tmp s =>
  obtain ⟨h1,h2,_⟩:=hrep.ent s _ hx
  simp only [R] at h2
  refine ⟨?_,by rw [← h2];exact hrep.mem.one s []⟩
  grind[eval_tmp,mkV]
 | const u =>
  simp only [opT] at hx
  split at hx
  ·simp at hx;subst hx;exact ⟨rfl,by assumption⟩
  ·cases hx
 | func f => simp only [opT] at hx;simp at hx;subst hx;exact ⟨rfl,rfl⟩
 | global g => cases hx
theorem ok_lit (v:Value) (hv:v.oneCell' = true) (hdst:o.dst = some d) (hd:d < Γ.N)
  (h:∀ (a:Act) (w:World) (G:Gh),Rep Γ E G a.tmps w → (execOp a.eval o).run P w = .ok (.value v) w):OpOk P Γ o E (E.app [(d,some (.lit v))] [(d,0)]):=by
 refine OpOk.value hdst fun a w G hrep => ?_
 exact ⟨v,w,h a w G hrep,_,rep_put hrep rfl hd (fun _ => v) (fun _ => hv) (.lit v) v (by simp [mkV,Gh.put]) (by simp [R,Gh.put]) (by simp [Top])⟩
def binI (op:BinOp) (k:IntKind) (a b:Int):Option Value :=
 match op with
 | .add => some (.int k (k.wrap (a + b)))
 | .sub => some (.int k (k.wrap (a - b)))
 | .mul => some (.int k (k.wrap (a * b)))
 | .quo => if b = 0 then none else some (.int k (k.wrap (a.tdiv b)))
 | .rem => if b = 0 then none else some (.int k (a.tmod b))
 | .eql => some (.bool (a == b))
 | .neq => some (.bool (a != b))
 | .lss => some (.bool (decide (a < b)))
 | .leq => some (.bool (decide (a ≤ b)))
 | .gtr => some (.bool (decide (a > b)))
 | .geq => some (.bool (decide (a ≥ b)))
 | _ => none
theorem binI_one {op:BinOp} {k:IntKind} {a b:Int} {v:Value} (h:binI op k a b = some v):v.oneCell' = true:=by
 cases op <;> simp [binI] at h <;> first | (subst h;rfl) | (obtain ⟨_,rfl⟩:=h;rfl)
theorem ok_binI (op:BinOp) (xt yt:TypeId) (x y:Operand) (k:IntKind) (m n:Int) (v:Value) (ho:o.op = .binOp op xt x y yt) (hdst:o.dst = some d) (hd:d < Γ.N)
  (hx:opT E x = some (.lit (.int k m))) (hy:opT E y = some (.lit (.int k n))) (hv:binI op k m n = some v):OpOk P Γ o E (E.app [(d,some (.lit v))] [(d,0)]):=by
 refine ok_lit v (binI_one hv) hdst hd fun a w G hrep => ?_
 have h1:=(opd_lit hrep hx).1
 have h2:=(opd_lit hrep hy).1
 cases op <;> simp [binI] at hv <;>
  first
   | (subst hv;simp [execOp,ho,h1,h2,eqGuard,binOp,Op.intArith,Op.intCmp];done)
   | (obtain ⟨h0,rfl⟩:=hv;simp [execOp,ho,h1,h2,eqGuard,binOp,Op.intDiv,h0])
theorem ok_not (xt:TypeId) (x:Operand) (b:Bool) (ho:o.op = .unOp .not xt x) (hdst:o.dst = some d) (hd:d < Γ.N)
  (hx:opT E x = some (.lit (.bool b))):OpOk P Γ o E (E.app [(d,some (.lit (.bool !b)))] [(d,0)]):=by
 refine ok_lit _ rfl hdst hd fun a w G hrep => ?_
 have h1:=(opd_lit hrep hx).1
 simp [execOp,ho,h1,Op.unary]
theorem ok_neg (xt:TypeId) (x:Operand) (k:IntKind) (n:Int) (ho:o.op = .unOp .neg xt x) (hdst:o.dst = some d) (hd:d < Γ.N)
  (hx:opT E x = some (.lit (.int k n))):OpOk P Γ o E (E.app [(d,some (.lit (.int k (k.wrap (0 - n)))))] [(d,0)]):=by
 refine ok_lit _ rfl hdst hd fun a w G hrep => ?_
 have h1:=(opd_lit hrep hx).1
 simp [execOp,ho,h1,Op.unary,Op.intArith]
theorem ok_conv (src dst:TypeId) (ds:TypeDesc) (x:Operand) (k k':IntKind) (n:Int) (ho:o.op = .convert src dst x) (hdst:o.dst = some d) (hd:d < Γ.N)
  (hs:P.underlying src = some ds) (ht:P.underlying dst = some (.int k')) (hx:opT E x = some (.lit (.int k n))) :
  OpOk P Γ o E (E.app [(d,some (.lit (.int k' (k'.wrap n))))] [(d,0)]):=by
 refine ok_lit _ rfl hdst hd fun a w G hrep => ?_
 have h1:=(opd_lit hrep hx).1
 simp [execOp,ho,h1,convert,run_underlying hs,run_underlying ht,Conv.intToInt]
theorem ok_pick (c x y:Operand) (b:Bool) (t:T) (ho:o.op = .pick c x y) (hdst:o.dst = some d) (hd:d < Γ.N)
  (hc:opT E c = some (.lit (.bool b))) (hx:opT E (if b then x else y) = some t) (ht:∀ xs,t ≠ .tup xs)
  (hne:∀ s,(if b then x else y) = .tmp s → s ≠ d) (hok:T.okB [(d,0)] (opCp (if b then x else y) t) = true):OpOk P Γ o E (E.app [(d,some (opCp (if b then x else y) t))] [(d,0)]):=by
 refine OpOk.value hdst fun a w G hrep => ?_
 obtain ⟨f,hf,h1,h2⟩:=opd hrep hx ht
 obtain ⟨h3,h4⟩:=h1 d hne hok
 refine ⟨a.eval (if b then x else y),w,?_,_,rep_put hrep rfl hd f hf _ _ h3 h4 h2⟩
 have h5:=(opd_lit hrep hc).1
 cases b <;> simp [execOp,ho,h5,asBool]
end
end Go.Ab

namespace Go.Ab
open Go
def follow (E:Env):Nat → Nat → List Nat → Option (Nat × List Nat × T)
 | 0,_,_ => none
 | n + 1,r,q => match E r with
  | some t => match t.get q.reverse with
   | some (.same r' q') => follow E n r' q'
   | some u => some (r,q,u)
   | none => none
  | none => none
def locT (E:Env):Operand → Option (Nat × List Nat × T)
 | .tmp s => follow E 4 s []
 | _ => none
def T.single:T → Bool
 | .agg _ | .tup _ => false
 | _ => true
theorem mkV_single {G:Gh} {s:Nat} {t:T} {p:List Nat} (h:t.single = true):mkV G s t p = G.hd s p:=by
 cases t <;> simp [T.single] at h <;> rfl
section
variable {P:Program} {Γ:Ctx} {E:Env} {o:Oper} {d:Nat}
theorem follow_ok {G:Gh} {a:Act} {w:World} (hrep:Rep Γ E G a.tmps w):∀ (n s:Nat) (p:List Nat) (r:Nat) (q:List Nat) (u:T),follow E n s p = some (r,q,u) →
  R Γ.St G w r u q ∧ G.hd s p = G.hd r q ∧ (∃ t,E r = some t ∧ t.get q.reverse = some u)
 | 0,_,_,_,_,_,h => by simp [follow] at h
 | n + 1,s,p,r,q,u,h => by
  simp only [follow] at h
  split at h
  ·rename_i t ht
   obtain ⟨_,h4,_⟩:=hrep.ent _ _ ht
   split at h
   ·rename_i r' q' hg
    obtain ⟨h1,h2,h3⟩:=follow_ok hrep n r' q' r q u h
    have h5:=(R_get p.reverse t _ [] h4 hg).1
    simp only [rp,List.reverse_reverse,List.append_nil,R] at h5
    exact ⟨h1,h5.trans h2,h3⟩
   ·rename_i u' hns hg
    simp at h
    obtain ⟨rfl,rfl,rfl⟩:=h
    have h5:=(R_get p.reverse t _ [] h4 hg).1
    simp only [rp,List.reverse_reverse,List.append_nil] at h5
    exact ⟨h5,rfl,t,ht,hg⟩
   ·cases h
  ·cases h
theorem loc_ok {G:Gh} {a:Act} {w:World} (hrep:Rep Γ E G a.tmps w) {x:Operand} {r:Nat} {q:List Nat} {u:T} (h:locT E x = some (r,q,u)) (hu:u.single = true) :
  R Γ.St G w r u q ∧ a.eval x = G.hd r q:=by
 cases x with
 | tmp s =>
  obtain ⟨h1,h2,_⟩:=follow_ok hrep 4 s [] r q u h
  refine ⟨h1,?_⟩
  rw [← h2]
  simp only [locT,follow] at h
  split at h
  ·rename_i t ht
   obtain ⟨h3,_,_⟩:=hrep.ent s _ ht
   rw [eval_tmp h3]
   simp only [List.reverse_nil,T.get] at h
   have:t.single = true:=by
    cases t <;> first | rfl | (simp at h;obtain ⟨_,_,rfl⟩:=h;simp [T.single] at hu)
   exact mkV_single this
  ·cases h
 | _ => simp [locT] at h
theorem R_sl_hd {St:Stb} {G:Gh} {w:World} {s:Nat} {k:Nat} {xs:List T} {p:List Nat} (h:R St G w s (.sl k xs) p):∃ a c,G.hd s p = .slice a xs.length c:=by
 simp only [R] at h
 rcases h with ⟨rfl,a,h⟩ | ⟨b,_,cap,_,_,h,_⟩
 ·exact ⟨a,0,h⟩
 ·exact ⟨_,_,h⟩
theorem R_ro_sl {St:Stb} {G:Gh} {w:World} {s:Nat} {k:Nat} {xs:List T} {p:List Nat} (h:R St G w s (.ro (.sl k xs)) p):∃ a c,G.hd s p = .slice a xs.length c ∧ xs.length ≤ c ∧ c ≤ maxLen ∧
   (xs ≠ [] → ∃ b o' cs' e fr,a = some ⟨b,o',none⟩ ∧ St b = some (.cells cs' e fr) ∧ RoL St xs cs' o' k):=by
 simp only [R,RoC] at h
 obtain ⟨a,c,h1,h2,h3,h4⟩:=h
 exact ⟨a,c,by simpa using h1,h2,h3,h4⟩
def lenT:T → Option Nat
 | .sl _ xs | .ro (.sl _ xs) => some xs.length
 | .lit (.slice _ n _) => some n
 | .lit (.string s) => some s.size
 | _ => none
def lenD:T → TypeDesc → Bool
 | .lit (.string _),.string => true
 | .sl _ _,.slice _ | .ro (.sl _ _),.slice _ | .lit (.slice _ _ _),.slice _ => true
 | _,_ => false
theorem ok_len (x:Operand) (t:TypeId) (ds:TypeDesc) (r:Nat) (q:List Nat) (u:T) (n:Nat) (ho:o.op = .call { callee:=.builtin .len,args:=#[x],argTypes:=#[t] }) (hdst:o.dst = some d) (hd:d < Γ.N)
  (ht:P.underlying t = some ds) (hx:locT E x = some (r,q,u)) (hl:lenT u = some n) (hds:lenD u ds = true) :
  OpOk P Γ o E (E.app [(d,some (.lit (.int .i64 n)))] [(d,0)]):=by
 refine ok_lit (.int .i64 n) rfl hdst hd fun a w G hrep => ?_
 have hu:u.single = true:=by cases u <;> simp [lenT] at hl <;> rfl
 obtain ⟨h1,h2⟩:=loc_ok hrep hx hu
 have h3:(Builtin.len_ #[t] o.type #[G.hd r q]).run P w = .ok (.int .i64 n) w:=by
  cases u with
  | sl k xs =>
   obtain ⟨a',c,h4⟩:=R_sl_hd h1
   simp [lenT] at hl;subst hl
   cases ds <;> simp [lenD] at hds
   simp [Builtin.len_,run_underlying ht,h4,goInt]
  | ro t' =>
   cases t' <;> simp [lenT] at hl
   obtain ⟨a',c,h4,_⟩:=R_ro_sl h1
   subst hl
   cases ds <;> simp [lenD] at hds
   simp [Builtin.len_,run_underlying ht,h4,goInt]
  | lit v =>
   simp only [R] at h1
   cases v <;> simp [lenT] at hl <;> (subst hl;cases ds <;> simp [lenD] at hds;simp [Builtin.len_,run_underlying ht,h1,goInt])
  | _ => simp [lenT] at hl
 simp [execOp,ho,resolve,invoke,builtin,h2,h3]
theorem Loc_ad {G:Gh} {w:World} {s:Nat} {t:T} {p:List Nat} {b o:Nat} (h:Loc G w s t p b o):G.ad s p = ⟨b,o,none⟩:=by
 cases t <;> simp only [Loc] at h <;> first | exact h.1 | exact h.elim
theorem add_off (b o n:Nat):(⟨b,o,none⟩:Addr).add n = ⟨b,o + n,none⟩:=by
 unfold Addr.add
 split
 ·rename_i h;subst h;rfl
 ·rfl
theorem R_sl_ad {St:Stb} {G:Gh} {w:World} {s:Nat} {k:Nat} {xs:List T} {p:List Nat} (h:R St G w s (.sl k xs) p) {i:Nat} (hi:i < xs.length) :
  ∃ b o0 cap,G.hd s p = .slice (some ⟨b,o0,none⟩) xs.length cap ∧ G.ad s (i :: p) = ⟨b,o0 + i * k,none⟩:=by
 simp only [R] at h
 rcases h with ⟨rfl,_⟩ | ⟨b,o0,cap,cs,e,h1,h2,h3,h4,h5,h6,h7,h8⟩
 ·simp at hi
 ·have:=(RL_get xs p 0 b o0 k i xs[i] h8 (by simp [hi])).1
  simp only [Nat.zero_add] at this
  exact ⟨b,o0,cap,h1,Loc_ad this⟩
theorem ok_ix (x y:Operand) (t e:TypeId) (ti:TypeInfo) (r:Nat) (q:List Nat) (k:Nat) (xs:List T) (kd:IntKind) (i:Int) (ho:o.op = .indexAddr t x y) (hdst:o.dst = some d) (hd:d < Γ.N)
  (ht:P.underlying t = some (.slice e)) (he:P.info? e = some ti) (hk:ti.size = k) (hx:locT E x = some (r,q,.sl k xs)) (hy:opT E y = some (.lit (.int kd i))) (h0:0 ≤ i) (h1:i.toNat < xs.length) :
  OpOk P Γ o E (E.app [(d,some (.addr r (i.toNat :: q)))] [(d,0)]):=by
 refine OpOk.value hdst fun a w G hrep => ?_
 obtain ⟨g1,g2⟩:=loc_ok hrep hx rfl
 have g3:=(opd_lit hrep hy).1
 obtain ⟨b,o0,cap,g4,g5⟩:=R_sl_ad g1 h1
 refine ⟨.pointer (some (G.ad r (i.toNat :: q))),w,?_,_,rep_put hrep rfl hd (fun _ => .pointer (some (G.ad r (i.toNat :: q)))) (fun _ => rfl) _ _ (by simp [mkV,Gh.put]) (by simp [R,Gh.put]) (by simp [Top])⟩
 have hlt:i < (xs.length:Int):=by omega
 simp [execOp,ho,Instr.indexAt,g3,g2,g4,asIntOf,run_underlying ht,h0,hlt,sizeOf,typeInfo,he,hk,add_off,g5]
theorem RoL_get {St:Stb}:(xs:List T) → ∀ (cs:Array Value) (o k i:Nat) (x:T),RoL St xs cs o k → xs[i]? = some x → RoC St x cs (o + i * k)
 | [],_,_,_,_,_,_,h => by simp at h
 | y :: ys,cs,o,k,i,x,hr,h => by
  simp only [RoL] at hr
  cases i with
  | zero => simp at h;subst h;simpa using hr.1
  | succ i =>
   have:=RoL_get ys cs (o + k) k i x hr.2 (by simpa using h)
   rwa [show o + (i + 1) * k = o + k + i * k from by rw [Nat.succ_mul];omega]
theorem RoF_get {St:Stb}:(xs:List T) → ∀ (cs:Array Value) (o i:Nat) (x:T),RoF St xs cs o → xs[i]? = some x → RoC St x cs (o + T.sizes (xs.take i))
 | [],_,_,_,_,_,h => by simp at h
 | y :: ys,cs,o,i,x,hr,h => by
  simp only [RoF] at hr
  cases i with
  | zero => simp at h;subst h;simpa [T.sizes] using hr.1
  | succ i =>
   have:=RoF_get ys cs (o + y.size) i x hr.2 (by simpa using h)
   rwa [List.take_succ_cons,T.sizes,← Nat.add_assoc]
theorem ok_ix_ro (x y:Operand) (t e:TypeId) (ti:TypeInfo) (r:Nat) (q:List Nat) (k:Nat) (xs:List T) (kd:IntKind) (i:Int) (u:T) (ho:o.op = .indexAddr t x y) (hdst:o.dst = some d) (hd:d < Γ.N)
  (ht:P.underlying t = some (.slice e)) (he:P.info? e = some ti) (hk:ti.size = k) (hx:locT E x = some (r,q,.ro (.sl k xs))) (hy:opT E y = some (.lit (.int kd i))) (h0:0 ≤ i) (h1:xs[i.toNat]? = some u) :
  OpOk P Γ o E (E.app [(d,some (.ro (.ptr u)))] [(d,0)]):=by
 refine OpOk.value hdst fun a w G hrep => ?_
 obtain ⟨g1,g2⟩:=loc_ok hrep hx rfl
 have g3:=(opd_lit hrep hy).1
 have hlt':i.toNat < xs.length:=(List.getElem?_eq_some_iff.1 h1).1
 obtain ⟨a',c,g4,_,_,g5⟩:=R_ro_sl g1
 obtain ⟨b,o',cs',e',fr,rfl,g6,g7⟩:=g5 (by rintro rfl;simp at hlt')
 have g8:=RoL_get xs cs' o' k i.toNat u g7 h1
 refine ⟨.pointer (some ⟨b,o' + i.toNat * k,none⟩),w,?_,_,rep_put hrep rfl hd (fun _ => .pointer (some ⟨b,o' + i.toNat * k,none⟩)) (fun _ => rfl) _ _ (by simp [mkV,Gh.put]) ?_ (by simp [Top])⟩
 ·have hlt:i < (xs.length:Int):=by omega
  simp [execOp,ho,Instr.indexAt,g3,g2,g4,asIntOf,run_underlying ht,h0,hlt,sizeOf,typeInfo,he,hk,add_off]
 ·simp only [R,Gh.put_self,RoC]
  exact ⟨b,_,cs',e',fr,by simp,g6,g8⟩
theorem LocF_off:(xs:List T) → ∀ {G:Gh} {w:World} {s:Nat} (p:List Nat) (j b o i:Nat) (x:T),LocF G w s xs p j b o → xs[i]? = some x →
  Loc G w s x ((j + i) :: p) b (o + T.sizes (xs.take i))
 | [],_,_,_,_,_,_,_,_,_,_,h => by simp at h
 | y :: ys,G,w,s,p,j,b,o,i,x,hr,h => by
  simp only [LocF] at hr
  cases i with
  | zero => simp at h;subst h;simpa [T.sizes] using hr.1
  | succ i =>
   have:=LocF_off ys p (j + 1) b (o + y.size) i x hr.2 (by simpa using h)
   rwa [show j + (i + 1) = j + 1 + i from by omega,List.take_succ_cons,T.sizes,← Nat.add_assoc]
theorem sureAddr_some {P:Program} {w:World} (a:Addr):(Instr.sureAddr (.pointer (some a))).run P w = .ok a w:=rfl
theorem run_fieldAt {P:Program} {w:World} {S:TypeId} {fs:Array Field} {f:Field} {fi:TypeInfo} {j:Nat} {b o':Nat} (hS:P.underlying S = some (.struct fs)) (hf:fs[j]? = some f) (hi:P.info? f.type = some fi) (hz:fi.size ≠ 0) :
  (Instr.fieldAt S (.pointer (some ⟨b,o',none⟩)) j).run P w = .ok (.pointer (some ⟨b,o' + f.offset,none⟩)) w:=by
 simp [Instr.fieldAt,run_underlying hS,hf,sureAddr_some,fieldPlace,sizeOf,typeInfo,hi,hz,add_off]
theorem ok_fa (x:Operand) (S:TypeId) (fs:Array Field) (f:Field) (fi:TypeInfo) (j:Nat) (r:Nat) (q:List Nat) (xs:List T) (u:T) (ho:o.op = .fieldAddr S x j) (hdst:o.dst = some d) (hd:d < Γ.N)
  (hS:P.underlying S = some (.struct fs)) (hf:fs[j]? = some f) (hi:P.info? f.type = some fi) (hz:fi.size ≠ 0) (hx:locT E x = some (r,q,.ptr (.agg xs))) (hu:xs[j]? = some u) (hoff:T.sizes (xs.take j) = f.offset) :
  OpOk P Γ o E (E.app [(d,some (.addr r (j :: 0 :: q)))] [(d,0)]):=by
 refine OpOk.value hdst fun a w G hrep => ?_
 obtain ⟨g1,g2⟩:=loc_ok hrep hx rfl
 simp only [R] at g1
 obtain ⟨b,cs,e,g4,_,_,_,g5,_⟩:=g1
 simp only [Loc] at g5
 have g6:=LocF_off xs (0 :: q) 0 b 0 j u g5.2 hu
 simp only [Nat.zero_add] at g6
 refine ⟨.pointer (some (G.ad r (j :: 0 :: q))),w,?_,_,rep_put hrep rfl hd (fun _ => .pointer (some (G.ad r (j :: 0 :: q)))) (fun _ => rfl) _ _ (by simp [mkV,Gh.put]) (by simp [R,Gh.put]) (by simp [Top])⟩
 have g7:=run_fieldAt (w:=w) (b:=b) (o':=0) hS hf hi hz
 simp [execOp,ho,g2,g4,g7,Loc_ad g6,hoff]
theorem ok_fa_addr (x:Operand) (S:TypeId) (fs:Array Field) (f:Field) (fi:TypeInfo) (j:Nat) (r:Nat) (q:List Nat) (t:T) (xs:List T) (u:T) (ho:o.op = .fieldAddr S x j) (hdst:o.dst = some d) (hd:d < Γ.N)
  (hS:P.underlying S = some (.struct fs)) (hf:fs[j]? = some f) (hi:P.info? f.type = some fi) (hz:fi.size ≠ 0) (hx:opT E x = some (.addr r q)) (hr:E r = some t) (hg:t.get q.reverse = some (.agg xs)) (hl:t.locd q.reverse = true)
  (hu:xs[j]? = some u) (hoff:T.sizes (xs.take j) = f.offset) :
  OpOk P Γ o E (E.app [(d,some (.addr r (j :: q)))] [(d,0)]):=by
 refine OpOk.value hdst fun a w G hrep => ?_
 cases x with
 | tmp s =>
  obtain ⟨h1,h2,_⟩:=hrep.ent s _ hx
  obtain ⟨_,h4,_⟩:=hrep.ent r _ hr
  simp only [R] at h2
  obtain ⟨b,o',cs,e,h6,_,_⟩:=(R_get q.reverse t _ [] h4 hg).2 hl
  simp only [rp,List.reverse_reverse,List.append_nil] at h6
  have h7:=Loc_ad h6
  simp only [Loc] at h6
  have g6:=LocF_off xs q 0 b o' j u h6.2 hu
  simp only [Nat.zero_add] at g6
  refine ⟨.pointer (some (G.ad r (j :: q))),w,?_,_,rep_put hrep rfl hd (fun _ => .pointer (some (G.ad r (j :: q)))) (fun _ => rfl) _ _ (by simp [mkV,Gh.put]) (by simp [R,Gh.put]) (by simp [Top])⟩
  have g7:=run_fieldAt (w:=w) (b:=b) (o':=o') hS hf hi hz
  simp [execOp,ho,eval_tmp h1,mkV,h2,h7,g7,Loc_ad g6,hoff]
 | const v => simp only [opT] at hx;split at hx <;> simp at hx
 | func f => simp [opT] at hx
 | global g => simp [opT] at hx
theorem opd_ro {G:Gh} {a:Act} {w:World} (hrep:Rep Γ E G a.tmps w) {x:Operand} {u:T} (hx:opT E x = some (.ro u)):RoC Γ.St u #[a.eval x] 0:=by
 cases x with
 | tmp s =>
  obtain ⟨h1,h2,_⟩:=hrep.ent s _ hx
  simp only [R] at h2
  rw [eval_tmp h1,mkV_single rfl]
  exact h2
 | const v => simp only [opT] at hx;split at hx <;> simp at hx
 | func f => simp [opT] at hx
 | global g => simp [opT] at hx
theorem ok_fa_ro (x:Operand) (S:TypeId) (fs:Array Field) (f:Field) (fi:TypeInfo) (j:Nat) (xs:List T) (u:T) (ho:o.op = .fieldAddr S x j) (hdst:o.dst = some d) (hd:d < Γ.N)
  (hS:P.underlying S = some (.struct fs)) (hf:fs[j]? = some f) (hi:P.info? f.type = some fi) (hz:fi.size ≠ 0) (hx:opT E x = some (.ro (.ptr (.agg xs)))) (hu:xs[j]? = some u) (hoff:T.sizes (xs.take j) = f.offset) :
  OpOk P Γ o E (E.app [(d,some (.ro (.ptr u)))] [(d,0)]):=by
 refine OpOk.value hdst fun a w G hrep => ?_
 have h1:=opd_ro hrep hx
 simp only [RoC] at h1
 obtain ⟨b,o',cs',e,fr,h2,h3,h4⟩:=h1
 have h5:=RoF_get xs cs' o' j u h4 hu
 refine ⟨.pointer (some ⟨b,o' + f.offset,none⟩),w,?_,_,rep_put hrep rfl hd (fun _ => .pointer (some ⟨b,o' + f.offset,none⟩)) (fun _ => rfl) _ _ (by simp [mkV,Gh.put]) ?_ (by simp [Top])⟩
 ·have g7:=run_fieldAt (w:=w) (b:=b) (o':=o') hS hf hi hz
  have h6:a.eval x = .pointer (some ⟨b,o',none⟩):=by simpa using h2
  simp [execOp,ho,h6,g7]
 ·simp only [R,Gh.put_self,RoC]
  exact ⟨b,o' + f.offset,cs',e,fr,by simp,h3,by rw [← hoff];exact h5⟩
def aggB:TypeDesc → Bool
 | .struct _ | .array _ _ => true
 | _ => false
theorem run_isAgg {P:Program} {w:World} {t:TypeId} {ds:TypeDesc} (ht:P.underlying t = some ds):(isAgg t).run P w = .ok (aggB ds) w:=by
 cases ds <;> simp [isAgg,run_underlying ht,aggB]
theorem Loc_single {G:Gh} {w:World} {s:Nat} {t:T} {p:List Nat} {b o:Nat} (ht:t.single = true) (h:Loc G w s t p b o):G.ad s p = ⟨b,o,none⟩ ∧ G.lb b o = some (false,s,p) ∧ cellAt w b o = some (G.hd s p):=by
 cases t <;> simp [T.single] at ht <;> simpa only [Loc] using h
mutual
theorem Loc_vals {G:Gh} {w:World} {s:Nat}:(t:T) → ∀ (p:List Nat) (b o:Nat),Loc G w s t p b o → ∀ (i:Nat) (v:Value),(vals G s t p)[i]? = some v → cellAt w b (o + i) = some v
 | .agg xs,p,b,o,h,i,v,hv => by simp only [Loc,vals] at h hv;exact LocF_vals xs p 0 b o h.2 i v hv
 | .any,p,b,o,h,i,v,hv | .lit _,p,b,o,h,i,v,hv | .ro _,p,b,o,h,i,v,hv | .same _ _,p,b,o,h,i,v,hv | .addr _ _,p,b,o,h,i,v,hv | .sub _ _ _ _ _,p,b,o,h,i,v,hv | .sl _ _,p,b,o,h,i,v,hv | .ptr _,p,b,o,h,i,v,hv | .mp _ _,p,b,o,h,i,v,hv => by
  simp only [Loc,vals] at h hv
  cases i with
  | zero => simp at hv;rw [← hv];exact h.2.2
  | succ i => simp at hv
 | .tup _,_,_,_,h,_,_,_ => by simp only [Loc] at h
theorem LocF_vals {G:Gh} {w:World} {s:Nat}:(xs:List T) → ∀ (p:List Nat) (j b o:Nat),LocF G w s xs p j b o → ∀ (i:Nat) (v:Value),(valsF G s xs p j)[i]? = some v → cellAt w b (o + i) = some v
 | [],_,_,_,_,_,i,v,hv => by simp [valsF] at hv
 | x :: xs,p,j,b,o,h,i,v,hv => by
  simp only [LocF,valsF] at h hv
  rw [List.getElem?_append] at hv
  split at hv
  ·exact Loc_vals x (j :: p) b o h.1 i v hv
  ·rename_i hge
   have hlen:=vals_length (G:=G) (s:=s) x (j :: p) (fun ys e => by subst e;simp only [Loc] at h;exact h.1)
   have:=LocF_vals xs p (j + 1) b (o + x.size) h.2 _ v hv
   rwa [show o + x.size + (i - (vals G s x (j :: p)).length) = o + i from by omega] at this
theorem vals_length {G:Gh} {s:Nat}:(t:T) → ∀ (p:List Nat),(∀ xs,t ≠ .tup xs) → (vals G s t p).length = t.size
 | .agg xs,p,_ => by simp only [vals,T.size];exact valsF_length xs p 0
 | .any,_,_ | .lit _,_,_ | .ro _,_,_ | .same _ _,_,_ | .addr _ _,_,_ | .sub _ _ _ _ _,_,_ | .sl _ _,_,_ | .ptr _,_,_ | .mp _ _,_,_ | .tup _,_,_ => by simp [vals,T.size]
theorem valsF_length {G:Gh} {s:Nat}:(xs:List T) → ∀ (p:List Nat) (j:Nat),(valsF G s xs p j).length = T.sizes xs
 | [],_,_ => by simp [valsF,T.sizes]
 | x :: xs,p,j => by
  simp only [valsF,List.length_append,T.sizes,valsF_length xs p (j + 1)]
  by_cases hx:∃ ys,x = .tup ys
  ·obtain ⟨ys,rfl⟩:=hx;simp [vals,T.size]
  ·rw [vals_length x (j :: p) (fun ys e => hx ⟨ys,e⟩)]
end
theorem run_load_at {P:Program} {G:Gh} {w:World} {s:Nat} {t:T} {p:List Nat} {b o':Nat} {T':TypeId} {ds:TypeDesc} {ti:TypeInfo} (hT:P.underlying T' = some ds) (hi:P.info? T' = some ti) (hl:Loc G w s t p b o')
  (hsh:aggB ds = !t.single) (hsz:ti.size = t.size):(loadVar T' ⟨b,o',none⟩).run P w = .ok (mkV1 G s t p) w:=by
 cases t with
 | agg xs =>
  have h1:=run_loadCells_list (P:=P) (w:=w) ⟨b,o',none⟩ (valsF G s xs p 0) (fun j v hv => by
   rw [add_off]
   simp only [Loc] at hl
   exact LocF_vals xs p 0 b o' hl.2 j v hv)
  rw [valsF_length] at h1
  simp only [T.size] at hsz
  simp [T.single] at hsh
  simp [loadVar,run_isAgg hT,hsh,sizeOf,typeInfo,hi,hsz,h1,mkV1]
 | tup xs => simp only [Loc] at hl
 | _ =>
  have h1:=(Loc_single rfl hl).2.2
  simp [T.single] at hsh
  simp only [cellAt] at h1
  simp [loadVar,run_isAgg hT,hsh,load,Sem.run,h1,mkV1]
def AdrOf (Γ:Ctx) (E:Env) (x:Operand) (r:Nat) (q:List Nat):Prop:=∀ (a:Act) (w:World) (G:Gh),Rep Γ E G a.tmps w → a.eval x = .pointer (some (G.ad r q))
theorem AdrOf.addr {x:Operand} {r:Nat} {q:List Nat} (hx:opT E x = some (.addr r q)):AdrOf Γ E x r q:=fun a w G hrep => by
 cases x with
 | tmp s =>
  obtain ⟨h1,h2,_⟩:=hrep.ent s _ hx
  simp only [R] at h2
  rw [eval_tmp h1];exact h2
 | const v => simp only [opT] at hx;split at hx <;> simp at hx
 | func f => simp [opT] at hx
 | global g => simp [opT] at hx
theorem AdrOf.ptr {x:Operand} {r:Nat} {q:List Nat} {t:T} (hx:locT E x = some (r,q,.ptr t)):AdrOf Γ E x r (0 :: q):=fun a w G hrep => by
 obtain ⟨g1,g2⟩:=loc_ok hrep hx rfl
 simp only [R] at g1
 obtain ⟨b,cs,e,g4,_,_,_,g5,_⟩:=g1
 rw [g2,g4,Loc_ad g5]
theorem ok_loadA (x:Operand) (T':TypeId) (ds:TypeDesc) (ti:TypeInfo) (r:Nat) (q:List Nat) (t u:T) (ho:o.op = .load T' x) (hdst:o.dst = some d) (hd:d < Γ.N)
  (hT:P.underlying T' = some ds) (hi:P.info? T' = some ti) (hsh:aggB ds = !u.single) (hsz:ti.size = u.size)
  (hx:AdrOf Γ E x r q) (hr:E r = some t) (hg:t.get q.reverse = some u) (hl:t.locd q.reverse = true) (hrd:r ≠ d) (hok:T.okB [(d,0)] (cpT r u q) = true) :
  OpOk P Γ o E (E.app [(d,some (cpT r u q))] [(d,0)]):=by
 refine OpOk.value hdst fun a w G hrep => ?_
 have hadr:=hx a w G hrep
 obtain ⟨_,h4,_⟩:=hrep.ent r _ hr
 obtain ⟨h5,h6⟩:=R_get q.reverse t u [] h4 hg
 obtain ⟨b,o',cs,e,h6,_,_⟩:=h6 hl
 simp only [rp,List.reverse_reverse,List.append_nil] at h5 h6
 have hnt:∀ xs,u ≠ .tup xs:=by rintro xs rfl;simp only [Loc] at h6
 have h7:=Loc_ad h6
 have hz:∀ z,(G.put d (fun z => G.hd r (z ++ q))).hd d (z ++ []) = G.hd r (z ++ q):=fun z => by rw [Gh.put_self,List.append_nil]
 have hk:=G.put_keep (w:=w) (w':=w) rfl d (fun z => G.hd r (z ++ q))
 refine ⟨mkV1 G r u q,w,?_,_,rep_put hrep rfl hd (fun z => G.hd r (z ++ q)) (fun z => hrep.mem.one _ _) _ _ (mkV_copy u q [] hnt hz).symm
  (R_copy (fun p => G.put_other _ p hrd) u q [] hz hnt (hk.keepR (okB_all _ (cpT_top r u q) hok)) h5) (cpT_top r u q)⟩
 have h8:=run_load_at (T':=T') hT hi h6 hsh hsz
 simp [execOp,ho,hadr,h7,Instr.loadAt,sureAddr_some,h8]
theorem ok_load (x:Operand) (T':TypeId) (ds:TypeDesc) (ti:TypeInfo) (r:Nat) (q:List Nat) (t u:T) (ho:o.op = .load T' x) (hdst:o.dst = some d) (hd:d < Γ.N)
  (hT:P.underlying T' = some ds) (hi:P.info? T' = some ti) (hsh:aggB ds = !u.single) (hsz:ti.size = u.size)
  (hx:opT E x = some (.addr r q)) (hr:E r = some t) (hg:t.get q.reverse = some u) (hl:t.locd q.reverse = true) (hrd:r ≠ d) (hok:T.okB [(d,0)] (cpT r u q) = true) :
  OpOk P Γ o E (E.app [(d,some (cpT r u q))] [(d,0)]):=ok_loadA x T' ds ti r q t u ho hdst hd hT hi hsh hsz (AdrOf.addr hx) hr hg hl hrd hok
def roT:T → T
 | .lit v => .lit v
 | .agg xs => .agg (roTs xs)
 | .ro t => .ro (.ro t)
 | .any => .any
 | .same r q => .ro (.same r q)
 | .addr r q => .ro (.addr r q)
 | .sub r q k lo hi => .ro (.sub r q k lo hi)
 | .sl k xs => .ro (.sl k xs)
 | .ptr t => .ro (.ptr t)
 | .tup xs => .ro (.tup xs)
 | .mp ks xs => .ro (.mp ks xs)
where roTs:List T → List T
 | [] => []
 | x :: xs => roT x :: roTs xs
end
end Go.Ab

namespace Go.Ab
open Go
def oneV (v:Value):Value:=if v.oneCell' then v else .bool false
theorem oneV_one (v:Value):(oneV v).oneCell' = true:=by
 unfold oneV
 split
 ·assumption
 ·rfl
theorem oneV_of {v:Value} (h:v.oneCell' = true):oneV v = v:=by simp [oneV,h]
def roHd:T → Array Value → Nat → List Nat → Value
 | .agg xs,cs,o,i :: f => match xs[i]? with
  | some x => roHd x cs (o + T.sizes (xs.take i)) f
  | none => .bool false
 | _,cs,o,_ => cs.getD o (.bool false)
termination_by structural _ _ _ f => f
theorem roHd_single {t:T} (h:t.single = true) (cs:Array Value) (o:Nat) (f:List Nat):roHd t cs o f = cs.getD o (.bool false):=by
 cases t <;> simp [T.single] at h <;> cases f <;> rfl
mutual
theorem size_roT:(u:T) → (∀ xs,u ≠ .tup xs) → (roT u).size = u.size
 | .agg xs,_ => by simp only [roT,T.size];exact sizes_roT xs
 | .lit _,_ | .any,_ | .sl _ _,_ | .ptr _,_ | .mp _ _,_ | .ro _,_ | .same _ _,_ | .addr _ _,_ | .sub _ _ _ _ _,_ | .tup _,_ => by simp [roT,T.size]
theorem sizes_roT:(xs:List T) → T.sizes (roT.roTs xs) = T.sizes xs
 | [] => by simp only [roT.roTs]
 | x :: xs => by
  simp only [roT.roTs,T.sizes,sizes_roT xs]
  by_cases hx:∃ ys,x = .tup ys
  ·obtain ⟨ys,rfl⟩:=hx;simp [roT,T.size]
  ·rw [size_roT x (fun ys e => hx ⟨ys,e⟩)]
end
section
variable {St:Stb} {G:Gh} {w:World} {d:Nat}
theorem RoC_cell {u:T} {cs:Array Value} {o:Nat} (hu:u.single = true) (h:RoC St u cs o):∃ v,cs[o]? = some v ∧ v.oneCell' = true ∧ RoC St u #[v] 0:=by
 cases u <;> simp [T.single] at hu <;> simp only [RoC] at h ⊢
 ·obtain ⟨v,h1,h2⟩:=h;exact ⟨v,h1,h2,v,by simp,h2⟩
 ·exact ⟨_,h.1,h.2,by simp,h.2⟩
 ·obtain ⟨f,vs,h1,h2⟩:=h;exact ⟨_,h1,rfl,f,vs,by simp,h2⟩
 ·obtain ⟨v,h1,h2,h3⟩:=h;exact ⟨v,h1,h2,v,by simp,h2,h3⟩
 ·obtain ⟨a,c,h1,h2⟩:=h;exact ⟨_,h1,rfl,a,c,by simp,h2⟩
 ·obtain ⟨b,o',cs',e,fr,h1,h2⟩:=h;exact ⟨_,h1,rfl,b,o',cs',e,fr,by simp,h2⟩
 ·rcases h with ⟨v,h1,h2,h3⟩ | ⟨b,ms,c,es,h1,h2⟩
  ·exact ⟨v,h1,h2,.inl ⟨v,by simp,h2,h3⟩⟩
  ·exact ⟨_,h1,rfl,.inr ⟨b,ms,c,es,by simp,h2⟩⟩
mutual
theorem R_roT:(u:T) → ∀ (cs:Array Value) (o:Nat) (p:List Nat),(∀ z,G.hd d (z ++ p) = oneV (roHd u cs o z.reverse)) → RoC St u cs o → R St G w d (roT u) p
 | .agg xs,cs,o,p,hd,h => by
  simp only [roT,R,RoC] at h ⊢
  exact RF_roT xs cs o p 0 o (by simp) (fun z j x hx => by
   have:=hd (z ++ [j])
   simp only [List.append_assoc,List.cons_append,List.nil_append,List.reverse_append,List.reverse_cons,List.reverse_nil,roHd] at this
   rw [Nat.zero_add,this]
   simp [hx]) h
 | .lit v,cs,o,p,hd,h => by
  simp only [roT,R,RoC] at h ⊢
  have:=hd []
  rw [List.nil_append,roHd_single rfl] at this
  rw [this]
  simp [Array.getD_eq_getD_getElem?,h.1,oneV_of h.2]
 | .any,_,_,_,_,_ => by simp only [roT,R]
 | .ro _,cs,o,p,hd,h | .sub _ _ _ _ _,cs,o,p,hd,h | .sl _ _,cs,o,p,hd,h | .ptr _,cs,o,p,hd,h | .mp _ _,cs,o,p,hd,h => by
  obtain ⟨v,h1,h2,h3⟩:=RoC_cell rfl h
  have:=hd []
  rw [List.nil_append,roHd_single rfl] at this
  simp only [roT,R]
  rw [this]
  simpa [Array.getD_eq_getD_getElem?,h1,oneV_of h2] using h3
 | .same _ _,_,_,_,_,h | .addr _ _,_,_,_,_,h | .tup _,_,_,_,_,h => by simp only [RoC] at h
theorem RF_roT:(xs:List T) → ∀ (cs:Array Value) (o0:Nat) (p:List Nat) (j o:Nat),o0 ≤ o → (∀ z i x,xs[i]? = some x → G.hd d (z ++ ((j + i) :: p)) = oneV (roHd x cs (o + T.sizes (xs.take i)) z.reverse)) → RoF St xs cs o → RF St G w d (roT.roTs xs) p j
 | [],_,_,_,_,_,_,_,_ => by simp only [roT.roTs,RF]
 | x :: xs,cs,o0,p,j,o,ho,hd,h => by
  simp only [roT.roTs,RF,RoF] at h ⊢
  refine ⟨R_roT x cs o (j :: p) (fun z => by simpa [T.sizes] using hd z 0 x (by simp)) h.1,RF_roT xs cs o0 p (j + 1) (o + x.size) (by omega) (fun z i y hy => ?_) h.2⟩
  have:=hd z (i + 1) y (by simpa using hy)
  simp only [List.take_succ_cons,T.sizes] at this
  rw [show j + 1 + i = j + (i + 1) from by omega,show o + x.size + T.sizes (xs.take i) = o + (x.size + T.sizes (xs.take i)) from Nat.add_assoc ..]
  exact this
end
mutual
theorem vals_roT:(u:T) → ∀ (cs:Array Value) (o:Nat) (p:List Nat),(∀ z,G.hd d (z ++ p) = oneV (roHd u cs o z.reverse)) → RoC St u cs o → ∀ (i:Nat) (v:Value),(vals G d (roT u) p)[i]? = some v → cs[o + i]? = some v
 | .agg xs,cs,o,p,hd,h,i,v,hv => by
  simp only [roT,vals,RoC] at h hv
  exact valsF_roT xs cs p 0 o (fun z j x hx => by
   have:=hd (z ++ [j])
   simp only [List.append_assoc,List.cons_append,List.nil_append,List.reverse_append,List.reverse_cons,List.reverse_nil,roHd] at this
   rw [Nat.zero_add,this]
   simp [hx]) h i v hv
 | .lit _,cs,o,p,hd,h,i,v,hv | .sub _ _ _ _ _,cs,o,p,hd,h,i,v,hv | .ro _,cs,o,p,hd,h,i,v,hv | .any,cs,o,p,hd,h,i,v,hv | .sl _ _,cs,o,p,hd,h,i,v,hv | .ptr _,cs,o,p,hd,h,i,v,hv | .mp _ _,cs,o,p,hd,h,i,v,hv => by
  obtain ⟨v',h1,h2,h3⟩:=RoC_cell rfl h
  have:=hd []
  rw [List.nil_append,roHd_single rfl] at this
  simp only [roT,vals] at hv
  cases i with
  | zero =>
   simp at hv
   rw [← hv,this]
   simp [Array.getD_eq_getD_getElem?,h1,oneV_of h2]
  | succ i => simp at hv
 | .same _ _,_,_,_,_,h,_,_,_ | .addr _ _,_,_,_,_,h,_,_,_ | .tup _,_,_,_,_,h,_,_,_ => by simp only [RoC] at h
theorem valsF_roT:(xs:List T) → ∀ (cs:Array Value) (p:List Nat) (j o:Nat),(∀ z i x,xs[i]? = some x → G.hd d (z ++ ((j + i) :: p)) = oneV (roHd x cs (o + T.sizes (xs.take i)) z.reverse)) → RoF St xs cs o → ∀ (i:Nat) (v:Value),(valsF G d (roT.roTs xs) p j)[i]? = some v → cs[o + i]? = some v
 | [],_,_,_,_,_,_,i,v,hv => by simp [roT.roTs,valsF] at hv
 | x :: xs,cs,p,j,o,hd,h,i,v,hv => by
  simp only [roT.roTs,valsF,RoF] at h hv
  have hx:∀ z,G.hd d (z ++ (j :: p)) = oneV (roHd x cs o z.reverse):=fun z => by simpa [T.sizes] using hd z 0 x (by simp)
  have hlen:(vals G d (roT x) (j :: p)).length = x.size:=by
   have hs:(roT x).size = x.size:=size_roT x (fun ys e => by subst e;simp only [RoC] at h;exact h.1)
   rw [vals_length (roT x) (j :: p) (fun ys e => by cases x <;> simp [roT] at e),hs]
  rw [List.getElem?_append] at hv
  split at hv
  ·exact vals_roT x cs o (j :: p) hx h.1 i v hv
  ·have:=valsF_roT xs cs p (j + 1) (o + x.size) (fun z i y hy => by
    have:=hd z (i + 1) y (by simpa using hy)
    simp only [List.take_succ_cons,T.sizes] at this
    rw [show j + 1 + i = j + (i + 1) from by omega,show o + x.size + T.sizes (xs.take i) = o + (x.size + T.sizes (xs.take i)) from Nat.add_assoc ..]
    exact this) h.2 _ v hv
   rwa [hlen,show o + x.size + (i - x.size) = o + i from by omega] at this
end
mutual
theorem top_roT:(u:T) → Top (roT u)
 | .agg xs => by simp only [roT,Top];exact tops_roT xs
 | .lit _ | .any | .sl _ _ | .ptr _ | .mp _ _ | .ro _ | .same _ _ | .addr _ _ | .sub _ _ _ _ _ | .tup _ => by simp [roT,Top]
theorem tops_roT:(xs:List T) → Tops (roT.roTs xs)
 | [] => by simp only [roT.roTs,Tops]
 | x :: xs => by simp only [roT.roTs,Tops];exact ⟨top_roT x,tops_roT xs⟩
end
end
section
variable {P:Program} {Γ:Ctx} {E:Env} {o:Oper} {d:Nat}
theorem cell_st {G:Gh} {w:World} (hm:Mem Γ G w) {b:Nat} {cs:Array Value} {e:TypeId} {fr:Nat × Nat} (h:Γ.St b = some (.cells cs e fr)) (i:Nat):w.cell? ⟨b,i,none⟩ = cs[i]?:=by
 simp [World.cell?,hm.st b _ h]
theorem ok_load_ro (x:Operand) (T':TypeId) (ds:TypeDesc) (ti:TypeInfo) (u:T) (ho:o.op = .load T' x) (hdst:o.dst = some d) (hd:d < Γ.N)
  (hT:P.underlying T' = some ds) (hi:P.info? T' = some ti) (hsh:aggB ds = !u.single) (hsz:ti.size = u.size)
  (hx:opT E x = some (.ro (.ptr u))):OpOk P Γ o E (E.app [(d,some (roT u))] [(d,0)]):=by
 refine OpOk.value hdst fun a w G hrep => ?_
 have h1:=opd_ro hrep hx
 simp only [RoC] at h1
 obtain ⟨b,o',cs',e,fr,h2,h3,h4⟩:=h1
 have h2':a.eval x = .pointer (some ⟨b,o',none⟩):=by simpa using h2
 have hnt:∀ xs,u ≠ .tup xs:=by rintro xs rfl;simp only [RoC] at h4
 let f:List Nat → Value:=fun z => oneV (roHd u cs' o' z.reverse)
 have hz:∀ z,(G.put d f).hd d (z ++ []) = oneV (roHd u cs' o' z.reverse):=fun z => by rw [Gh.put_self,List.append_nil]
 refine ⟨mkV (G.put d f) d (roT u) [],w,?_,_,rep_put hrep rfl hd f (fun z => oneV_one _) _ _ rfl (R_roT u cs' o' [] hz h4) (top_roT u)⟩
 cases u with
 | agg xs =>
  have h5:∀ j v,(valsF (G.put d f) d (roT.roTs xs) [] 0)[j]? = some v → w.cell? ((⟨b,o',none⟩:Addr).add j) = some v:=by
   intro j v hv
   rw [add_off,cell_st hrep.mem h3]
   exact vals_roT (.agg xs) cs' o' [] hz h4 j v (by simpa only [roT,vals] using hv)
  have h6:=run_loadCells_list (P:=P) (w:=w) ⟨b,o',none⟩ _ h5
  rw [valsF_length,sizes_roT] at h6
  simp only [T.size] at hsz
  simp [T.single] at hsh
  simp [execOp,ho,h2',Instr.loadAt,sureAddr_some,loadVar,run_isAgg hT,hsh,sizeOf,typeInfo,hi,hsz,h6,mkV,roT]
 | tup xs => exact absurd rfl (hnt xs)
 | _ =>
  obtain ⟨v,h5,h6,h7⟩:=RoC_cell rfl h4
  have h8:w.cell? ⟨b,o',none⟩ = some v:=by rw [cell_st hrep.mem h3];exact h5
  simp [T.single] at hsh
  have h9:f [] = v:=by show oneV (roHd _ cs' o' _) = v;rw [roHd_single rfl];simp [Array.getD_eq_getD_getElem?,h5,oneV_of h6]
  simp [execOp,ho,h2',Instr.loadAt,sureAddr_some,loadVar,run_isAgg hT,hsh,load,Sem.run,h8,mkV,roT,Gh.put_self,h9]
def isPtr (E:Env) (x:Operand):Bool :=
 match opT E x with
 | some (.addr _ _) | some (.ro (.ptr _)) => true
 | _ => match locT E x with
  | some (_,_,.ptr _) => true
  | some (_,_,.ro (.ptr _)) => true
  | _ => false
theorem isPtr_ok {G:Gh} {a:Act} {w:World} (hrep:Rep Γ E G a.tmps w) {x:Operand} (h:isPtr E x = true):∃ ad,a.eval x = .pointer (some ad):=by
 unfold isPtr at h
 split at h
 ·rename_i r q hx
  cases x with
  | tmp s =>
   obtain ⟨h1,h2,_⟩:=hrep.ent s _ hx
   simp only [R] at h2
   exact ⟨_,by rw [eval_tmp h1,mkV_single rfl,h2]⟩
  | const v => simp only [opT] at hx;split at hx <;> simp at hx
  | func f => simp [opT] at hx
  | global g => simp [opT] at hx
 ·rename_i u hx
  have:=opd_ro hrep hx
  simp only [RoC] at this
  obtain ⟨b,o',_,_,_,h1,_⟩:=this
  exact ⟨_,by simpa using h1⟩
 ·split at h
  ·rename_i hl
   obtain ⟨h1,h2⟩:=loc_ok hrep hl rfl
   simp only [R] at h1
   obtain ⟨b,cs,e,h3,_⟩:=h1
   exact ⟨_,by rw [h2,h3]⟩
  ·rename_i hl
   obtain ⟨h1,h2⟩:=loc_ok hrep hl rfl
   simp only [R,RoC] at h1
   obtain ⟨b,o',_,_,_,h3,_⟩:=h1
   exact ⟨_,by rw [h2];simpa using h3⟩
  ·cases h
theorem ok_nil (x:Operand) (t:T) (ho:o.op = .nilCheck x) (hdst:o.dst = some d) (hd:d < Γ.N) (hx:opT E x = some t) (hp:isPtr E x = true) (ht:∀ xs,t ≠ .tup xs)
  (hne:∀ s,x = .tmp s → s ≠ d) (hok:T.okB [(d,0)] (opCp x t) = true):OpOk P Γ o E (E.app [(d,some (opCp x t))] [(d,0)]):=by
 refine OpOk.value hdst fun a w G hrep => ?_
 obtain ⟨f,hf,h1,h2⟩:=opd hrep hx ht
 obtain ⟨h3,h4⟩:=h1 d hne hok
 obtain ⟨ad,h5⟩:=isPtr_ok hrep hp
 refine ⟨a.eval x,w,?_,_,rep_put hrep rfl hd f hf _ _ h3 h4 h2⟩
 simp [execOp,ho,h5]
theorem tupF_get {G:Gh} {s:Nat}:(xs:List T) → ∀ (p:List Nat) (j i:Nat) (x:T),xs[i]? = some x → (tupF G s xs p j)[i]? = some (mkV1 G s x ((j + i) :: p))
 | [],_,_,_,_,h => by simp at h
 | y :: ys,p,j,i,x,h => by
  cases i with
  | zero => simp at h;subst h;simp [tupF]
  | succ i =>
   have:=tupF_get (G:=G) (s:=s) ys p (j + 1) i x (by simpa using h)
   rw [show j + (i + 1) = j + 1 + i from by omega]
   simpa [tupF] using this
theorem ok_extract (s i:Nat) (ts:List T) (t:T) (ho:o.op = .extract (.tmp s) i) (hdst:o.dst = some d) (hd:d < Γ.N) (hs:E s = some (.tup ts)) (hi:ts[i]? = some t) (ht:∀ xs,t ≠ .tup xs)
  (hne:s ≠ d) (hok:T.okB [(d,0)] (cpT s t [i]) = true):OpOk P Γ o E (E.app [(d,some (cpT s t [i]))] [(d,0)]):=by
 refine OpOk.value hdst fun a w G hrep => ?_
 obtain ⟨h1,h2,_⟩:=hrep.ent s _ hs
 simp only [R] at h2
 have h3:=RF_get ts [] 0 i t h2 hi
 simp only [Nat.zero_add] at h3
 have h4:=tupF_get (G:=G) (s:=s) ts [] 0 i t hi
 simp only [Nat.zero_add] at h4
 have hk:=G.put_keep (w:=w) (w':=w) rfl d (fun z => G.hd s (z ++ [i]))
 have hz:∀ z,(G.put d (fun z => G.hd s (z ++ [i]))).hd d (z ++ []) = G.hd s (z ++ [i]):=fun z => by rw [Gh.put_self,List.append_nil]
 refine ⟨mkV1 G s t [i],w,?_,_,rep_put hrep rfl hd (fun z => G.hd s (z ++ [i])) (fun z => hrep.mem.one _ _) _ _ (mkV_copy t [i] [] ht hz).symm
  (R_copy (fun p => G.put_other _ p hne) t [i] [] hz ht (hk.keepR (okB_all _ (cpT_top s t [i]) hok)) h3) (cpT_top s t [i])⟩
 simp [execOp,ho,eval_tmp h1,mkV,Instr.extract,h4]
def optI (E:Env) (x:Option Operand) (dflt n:Nat):Prop :=
 match x with
 | none => n = dflt
 | some y => ∃ kd,opT E y = some (.lit (.int kd n))
theorem RoL_drop {St:Stb}:(xs:List T) → ∀ (cs:Array Value) (o k l:Nat),RoL St xs cs o k → RoL St (xs.drop l) cs (o + l * k) k
 | [],_,_,_,_,_ => by simp [RoL]
 | x :: xs,cs,o,k,l,h => by
  cases l with
  | zero => simpa using h
  | succ l =>
   simp only [RoL] at h
   have:=RoL_drop xs cs (o + k) k l h.2
   rwa [List.drop_succ_cons,show o + (l + 1) * k = o + k + l * k from by rw [Nat.succ_mul];omega]
theorem RoL_take {St:Stb}:(xs:List T) → ∀ (cs:Array Value) (o k l:Nat),RoL St xs cs o k → RoL St (xs.take l) cs o k
 | [],_,_,_,_,_ => by simp [RoL]
 | x :: xs,cs,o,k,l,h => by
  cases l with
  | zero => simp [RoL]
  | succ l => simp only [RoL,List.take_succ_cons] at h ⊢;exact ⟨h.1,RoL_take xs cs _ k l h.2⟩
theorem run_bound {P:Program} {G:Gh} {a:Act} {w:World} (hrep:Rep Γ E G a.tmps w) {x:Operand} {kd:IntKind} {n y:Nat} {c:BoundsCode} (hx:opT E x = some (.lit (.int kd n))) (h:n ≤ y) :
  (Instr.sliceBound (a.eval x) y c).run P w = .ok n w:=by
 rw [(opd_lit hrep hx).1]
 have:(n:Int) ≤ (y:Int):=by omega
 simp [Instr.sliceBound,asIntOf,this]
theorem run_bounds {P:Program} {G:Gh} {a:Act} {w:World} (hrep:Rep Γ E G a.tmps w) {lo hi:Option Operand} {l h n c:Nat} (hlo:optI E lo 0 l) (hhi:optI E hi n h) (h1:l ≤ h) (h2:h ≤ c) :
  (Instr.sliceBounds true n c (lo.map a.eval) (hi.map a.eval) none).run P w = .ok (l,h,c) w:=by
 cases lo with
 | none =>
  cases hi with
  | none => simp only [optI] at hlo hhi;subst hlo;subst hhi;simp [Instr.sliceBounds]
  | some y => simp only [optI] at hlo hhi;obtain ⟨kd,hy⟩:=hhi;subst hlo;simp [Instr.sliceBounds,run_bound hrep hy h2]
 | some x =>
  obtain ⟨kd,hx⟩:=hlo
  cases hi with
  | none => simp only [optI] at hhi;subst hhi;simp [Instr.sliceBounds,run_bound hrep hx h1]
  | some y => obtain ⟨kd',hy⟩:=hhi;simp [Instr.sliceBounds,run_bound hrep hy h2,run_bound hrep hx h1]
theorem ok_slice_ro (x:Operand) (lo hi:Option Operand) (t e:TypeId) (ti:TypeInfo) (r:Nat) (q:List Nat) (k:Nat) (xs:List T) (l h:Nat) (ho:o.op = .slice t x lo hi none) (hdst:o.dst = some d) (hd:d < Γ.N)
  (ht:P.underlying t = some (.slice e)) (he:P.info? e = some ti) (hk:ti.size = k) (hx:locT E x = some (r,q,.ro (.sl k xs))) (hlo:optI E lo 0 l) (hhi:optI E hi xs.length h) (h1:l ≤ h) (h2:h ≤ xs.length) :
  OpOk P Γ o E (E.app [(d,some (.ro (.sl k ((xs.drop l).take (h - l)))))] [(d,0)]):=by
 refine OpOk.value hdst fun a w G hrep => ?_
 obtain ⟨g1,g2⟩:=loc_ok hrep hx rfl
 obtain ⟨a',c,g4,g5,g6,g7⟩:=R_ro_sl g1
 have g8:=run_bounds (P:=P) hrep hlo hhi h1 (Nat.le_trans h2 g5)
 have hlen:((xs.drop l).take (h - l)).length = h - l:=by simp;omega
 refine ⟨.slice (if c = l then a' else a'.map (·.add (l * k))) (h - l) (c - l),w,?_,_,rep_put hrep rfl hd (fun _ => .slice (if c = l then a' else a'.map (·.add (l * k))) (h - l) (c - l)) (fun _ => rfl) _ _ (by simp [mkV,Gh.put]) ?_ (by simp [Top])⟩
 ·simp only [execOp,ho,Option.map_none]
  simp [Instr.sliceAt,Instr.slice,run_underlying ht,g2,g4,g8,sizeOf,typeInfo,he,hk]
 ·simp only [R,Gh.put_self,RoC]
  refine ⟨_,_,by rw [hlen];rfl,by omega,by omega,?_⟩
  intro hne
  have hne':xs ≠ []:=by rintro rfl;simp at hne
  obtain ⟨b,o',cs',e',fr,rfl,h3,h4⟩:=g7 hne'
  have hcl:c ≠ l:=by rintro rfl;apply hne;apply List.eq_nil_of_length_eq_zero;omega
  exact ⟨b,o' + l * k,cs',e',fr,by simp [hcl,add_off],h3,RoL_take _ _ _ _ _ (RoL_drop _ _ _ _ _ h4)⟩
theorem ok_slice_own (x:Operand) (lo hi:Option Operand) (t e:TypeId) (ti:TypeInfo) (r:Nat) (q:List Nat) (k:Nat) (xs:List T) (l h:Nat) (ho:o.op = .slice t x lo hi none) (hdst:o.dst = some d) (hd:d < Γ.N)
  (ht:P.underlying t = some (.slice e)) (he:P.info? e = some ti) (hk:ti.size = k) (hx:locT E x = some (r,q,.sl k xs)) (hlo:optI E lo 0 l) (hhi:optI E hi xs.length h) (h1:l ≤ h) (h2:h ≤ xs.length) (hrd:r ≠ d) :
  OpOk P Γ o E (E.app [(d,some (.sub r q k l h))] [(d,0)]):=by
 refine OpOk.value hdst fun a w G hrep => ?_
 obtain ⟨g1,g2⟩:=loc_ok hrep hx rfl
 obtain ⟨a',c,g4⟩:=R_sl_hd g1
 have g5:xs.length ≤ c:=by
  simp only [R] at g1
  rcases g1 with ⟨rfl,_⟩ | ⟨b,o0,cap,cs,e,g,_,g',_⟩
  ·simp
  ·rw [g4] at g;simp at g;omega
 have g8:=run_bounds (P:=P) hrep hlo hhi h1 (Nat.le_trans h2 g5)
 refine ⟨subOf (G.hd r q) k l h,w,?_,_,rep_put hrep rfl hd (fun _ => subOf (G.hd r q) k l h) (fun _ => by rw [g4];rfl) _ _ (by simp [mkV,Gh.put]) ?_ (by simp [Top])⟩
 ·simp only [execOp,ho,Option.map_none]
  simp [Instr.sliceAt,Instr.slice,run_underlying ht,g2,g4,g8,sizeOf,typeInfo,he,hk,subOf]
 ·simp only [R,Gh.put_self]
  rw [Gh.put_other _ _ _ hrd]
end
end Go.Ab

namespace Go.Ab
open Go
def T.inT:T → List Nat → Bool
 | _,[] => true
 | .agg xs,i :: f => match xs[i]? with
  | some x => x.inT f
  | none => false
 | .any,_ :: _ | .lit _,_ :: _ | .ro _,_ :: _ | .same _ _,_ :: _ | .addr _ _,_ :: _ | .sub _ _ _ _ _,_ :: _ | .sl _ _,_ :: _ | .ptr _,_ :: _ | .mp _ _,_ :: _ | .tup _,_ :: _ => false
termination_by structural _ f => f
def T.offT:T → List Nat → Nat
 | _,[] => 0
 | .agg xs,i :: f => match xs[i]? with
  | some x => T.sizes (xs.take i) + x.offT f
  | none => 0
 | .any,_ :: _ | .lit _,_ :: _ | .ro _,_ :: _ | .same _ _,_ :: _ | .addr _ _,_ :: _ | .sub _ _ _ _ _,_ :: _ | .sl _ _,_ :: _ | .ptr _,_ :: _ | .mp _ _,_ :: _ | .tup _,_ :: _ => 0
termination_by structural _ f => f
theorem inT_single {t:T} (h:t.single = true) {f:List Nat} (hf:f ≠ []):t.inT f = false:=by
 cases f with
 | nil => grind
 | cons i f => cases t <;> simp [T.single] at h <;> rfl
mutual
def leafT:T → List Nat → Nat → Option (List Nat)
 | .agg xs,p,o => leafF xs p 0 o
 | .any,p,o | .lit _,p,o | .ro _,p,o | .same _ _,p,o | .addr _ _,p,o | .sub _ _ _ _ _,p,o | .sl _ _,p,o | .ptr _,p,o | .mp _ _,p,o | .tup _,p,o => if o = 0 then some p else none
def leafF:List T → List Nat → Nat → Nat → Option (List Nat)
 | [],_,_,_ => none
 | x :: xs,p,j,o => if o < x.size then leafT x (j :: p) o else leafF xs p (j + 1) (o - x.size)
end
mutual
def T.okTup:T → Bool
 | .tup _ => false
 | .agg xs => okTups xs
 | .any | .lit _ | .ro _ | .same _ _ | .addr _ _ | .sub _ _ _ _ _ | .sl _ _ | .ptr _ | .mp _ _ => true
def okTups:List T → Bool
 | [] => true
 | x :: xs => x.okTup && okTups xs
end
theorem leafF_none:(xs:List T) → ∀ (p:List Nat) (j o:Nat),T.sizes xs ≤ o → leafF xs p j o = none
 | [],_,_,_,_ => by rfl
 | x :: xs,p,j,o,h => by
  simp only [T.sizes] at h
  simp only [leafF]
  rw [if_neg (by omega)]
  exact leafF_none xs p (j + 1) _ (by omega)
section
variable {G:Gh} {w:World} {d:Nat}
mutual
theorem Loc_mk:(x:T) → ∀ (p:List Nat) (B o:Nat),(∀ xs,x ≠ .tup xs) → x.okTup = true →
  (∀ f,x.inT f = true → G.ad d (f.reverse ++ p) = ⟨B,o + x.offT f,none⟩) → (∀ j p',j < x.size → leafT x p j = some p' → G.lb B (o + j) = some (false,d,p')) →
  (∀ j v,(vals G d x p)[j]? = some v → cellAt w B (o + j) = some v) → Loc G w d x p B o
 | .agg xs,p,B,o,_,hn,ha,hl,hc => by
  simp only [Loc]
  refine ⟨by simpa [T.offT] using ha [] rfl,LocF_mk xs p 0 B o (by grind[T.okTup]) (fun i x hx f hf => ?_) (fun j p' hj hp => ?_) (by grind[vals])⟩
  ·have:=ha (i :: f) (by grind[T.inT])
   grind[T.offT]
  grind[T.size,leafT]
 | .any,p,B,o,_,_,ha,hl,hc | .lit _,p,B,o,_,_,ha,hl,hc | .ro _,p,B,o,_,_,ha,hl,hc | .same _ _,p,B,o,_,_,ha,hl,hc | .addr _ _,p,B,o,_,_,ha,hl,hc | .sub _ _ _ _ _,p,B,o,_,_,ha,hl,hc | .sl _ _,p,B,o,_,_,ha,hl,hc | .ptr _,p,B,o,_,_,ha,hl,hc | .mp _ _,p,B,o,_,_,ha,hl,hc => by
  simp only [Loc]
  exact ⟨by simpa [T.offT] using ha [] rfl,by simpa using hl 0 p (by simp [T.size]) (by rfl),by simpa using hc 0 (G.hd d p) (by simp [vals])⟩
 | .tup xs,_,_,_,h,_,_,_,_ => absurd rfl (h xs)
theorem LocF_mk:(xs:List T) → ∀ (p:List Nat) (j B o:Nat),okTups xs = true →
  (∀ i x,xs[i]? = some x → ∀ f,x.inT f = true → G.ad d (f.reverse ++ ((j + i) :: p)) = ⟨B,o + (T.sizes (xs.take i) + x.offT f),none⟩) →
  (∀ i p',i < T.sizes xs → leafF xs p j i = some p' → G.lb B (o + i) = some (false,d,p')) →
  (∀ i v,(valsF G d xs p j)[i]? = some v → cellAt w B (o + i) = some v) → LocF G w d xs p j B o
 | [],_,_,_,_,_,_,_,_ => by simp only [LocF]
 | x :: xs,p,j,B,o,hn,ha,hl,hc => by
  simp only [okTups,Bool.and_eq_true] at hn
  have hnt:∀ ys,x ≠ .tup ys:=by rintro ys rfl;grind[T.okTup]
  simp only [LocF]
  refine ⟨Loc_mk x (j :: p) B o hnt hn.1 (fun f hf => by simpa [T.sizes] using ha 0 x (by simp) f hf) (fun i p' hi hp => hl i p' (by grind[T.sizes]) (by simp only [leafF,hi,if_true];exact hp)) (fun i v hv => hc i v ?_),
   LocF_mk xs p (j + 1) B (o + x.size) hn.2 (fun i y hy f hf => ?_) (fun i p' hi hp => ?_) (fun i v hv => ?_)⟩
  ·grind[valsF]
  ·have:=ha (i + 1) y (by grind) f hf
   grind[T.sizes]
  ·have:=hl (x.size + i) p' (by grind[T.sizes]) (by simp only [leafF];grind)
   grind
  ·have:=hc (x.size + i) v (by
    grind[valsF,vals_length])
   grind
end
end
structure MvC (G:Gh) (w:World) (G':Gh) (w':World) (s:Nat) (p:List Nat) (s':Nat) (p':List Nat) (t:T):Prop where
 hd:∀ z,G'.hd s' (z ++ p') = G.hd s (z ++ p)
 ad:∀ z,t.inT z.reverse = false → G'.ad s' (z ++ p') = G.ad s (z ++ p)
 lb:∀ b o f z,(f = true ∨ t.inT z.reverse = false) → G.lb b o = some (f,s,z ++ p) → G'.lb b o = some (f,s',z ++ p') ∧ cellAt w' b o = cellAt w b o
 ow:∀ b z,G.ow b = some (s,z ++ p) → G'.ow b = some (s',z ++ p')
 blk:Blk w w'
 mp:∀ b z (ms:Obj) (_:ms.nocell = true),G.ow b = some (s,z ++ p) → w.heap[b]? = some ms → w'.heap[b]? = some ms
section
variable {St:Stb} {G:Gh} {w:World} {G':Gh} {w':World} {s:Nat} {s':Nat}
theorem MvC.moves {p p':List Nat} {t:T} (h:MvC G w G' w' s p s' p' t) (ht:t.single = true):Moves G w G' w' s p s' p' where
 hd:=h.hd
 ad z hz:=h.ad z (inT_single ht (by simp_all))
 lb b o f z hz _ hl:=h.lb b o f z (.inr (inT_single ht (by simp_all))) hl
 ow b z _ hl:=h.ow b z hl
 blk:=h.blk
 mp:=h.mp
 sp b o _ hl:=by simpa using h.lb b o true [] (.inl rfl) (by grind)
 ow0 b hl:=by simpa using h.ow b [] (by grind)
theorem MvC.field {p p':List Nat} {xs:List T} (h:MvC G w G' w' s p s' p' (.agg xs)) {j:Nat} {x:T} (hx:xs[j]? = some x):MvC G w G' w' s (j :: p) s' (j :: p') x where
 hd z:=by have:=h.hd (z ++ [j]);grind
 ad z hz:=by
  have:=h.ad (z ++ [j]) (by grind[T.inT])
  grind
 lb b o f z hf hl:=by
  have:=h.lb b o f (z ++ [j]) (by grind[T.inT]) (by grind)
  grind
 ow b z hl:=by
  have:=h.ow b (z ++ [j]) (by grind)
  grind
 blk:=h.blk
 mp b z ms c hl hb:=h.mp b (z ++ [j]) ms c (by simpa using hl) hb
mutual
theorem R_mvc:(t:T) → ∀ (p p':List Nat),t.okTup = true → MvC G w G' w' s p s' p' t → AllR (KeepR G G') t → R St G w s t p → R St G' w' s' t p'
 | .agg xs,p,p',hn,h,hk,hr => by
  simp only [R,AllR,T.okTup] at hr hk hn ⊢
  exact RF_mvc xs p p' 0 hn (fun j x hx => by rw [Nat.zero_add];exact h.field hx) hk hr
 | .any,p,p',_,h,hk,hr | .lit _,p,p',_,h,hk,hr | .ro _,p,p',_,h,hk,hr | .same _ _,p,p',_,h,hk,hr | .addr _ _,p,p',_,h,hk,hr | .sub _ _ _ _ _,p,p',_,h,hk,hr | .sl _ _,p,p',_,h,hk,hr | .ptr _,p,p',_,h,hk,hr | .mp _ _,p,p',_,h,hk,hr =>
  R_move0 (h.moves rfl) _ hk hr
 | .tup _,_,_,hn,_,_,_ => by grind[T.okTup]
theorem RF_mvc:(xs:List T) → ∀ (p p':List Nat) (j:Nat),okTups xs = true → (∀ i x,xs[i]? = some x → MvC G w G' w' s ((j + i) :: p) s' ((j + i) :: p') x) → AllRs (KeepR G G') xs → RF St G w s xs p j → RF St G' w' s' xs p' j
 | [],_,_,_,_,_,_,_ => by simp only [RF]
 | x :: xs,p,p',j,hn,h,hk,hr => by
  simp only [RF,AllRs,okTups,Bool.and_eq_true] at hr hk hn ⊢
  exact ⟨R_mvc x (j :: p) (j :: p') hn.1 (by simpa using h 0 x (by simp)) hk.1 hr.1,RF_mvc xs p p' (j + 1) hn.2 (fun i y hy => by
   have:=h (i + 1) y (by grind)
   grind) hk.2 hr.2⟩
end
end
theorem RF_of {St:Stb} {G:Gh} {w:World} {s:Nat}:(xs:List T) → ∀ (p:List Nat) (j:Nat),(∀ i x,xs[i]? = some x → R St G w s x ((j + i) :: p)) → RF St G w s xs p j
 | [],_,_,_ => by simp only [RF]
 | x :: xs,p,j,h => by
  simp only [RF]
  exact ⟨by simpa using h 0 x (by simp),RF_of xs p (j + 1) (fun i y hy => by
   have:=h (i + 1) y (by grind)
   grind)⟩
theorem RL_of {St:Stb} {G:Gh} {w:World} {s:Nat} {k:Nat}:(xs:List T) → ∀ (p:List Nat) (j b o:Nat),(∀ x ∈ xs,x.size = k) → LocF G w s xs p j b o → RF St G w s xs p j → RL St G w s xs p j b o k
 | [],_,_,_,_,_,_,_ => by simp only [RL]
 | x :: xs,p,j,b,o,hk,hl,hr => by
  simp only [RL,LocF,RF] at hl hr ⊢
  have h1:=hk x (by simp)
  exact ⟨⟨hl.1,h1⟩,hr.1,RL_of xs p (j + 1) b (o + k) (by grind) (by grind) hr.2⟩
theorem sizes_uniform {k:Nat}:(xs:List T) → (∀ x ∈ xs,x.size = k) → T.sizes xs = xs.length * k
 | [],_ => by simp [T.sizes]
 | x :: xs,h => by simp [T.sizes,sizes_uniform xs (fun y hy => h y (by simp [hy])),h x (by simp),Nat.succ_mul];omega
def Gh.nb (G:Gh) (d B:Nat) (xs:List T) (src:Nat → Option (Nat × List Nat)) (φ:Nat → List Nat → Option (List Nat)) (f:Nat → List Nat → Value) (hdr:Value):Gh where
 hd s z:=if s = d then (match z.getLast? with
  | some i => f i z.dropLast
  | none => hdr) else G.hd s z
 ad s z:=if s = d then (if (T.agg xs).inT z.reverse then ⟨B,(T.agg xs).offT z.reverse,none⟩ else match z.getLast? with
  | some i => (match src i with
   | some (x,q) => G.ad x (z.dropLast ++ q)
   | none => default)
  | none => default) else G.ad s z
 lb b o:=if b = B then some (match leafF xs [] 0 o with
  | some p => (false,d,p)
  | none => (true,d,[])) else match G.lb b o with
  | some (fl,s,z) => (match φ s z with
   | some z' => some (fl,d,z')
   | none => some (fl,s,z))
  | none => none
 ow b:=if b = B then some (d,[]) else match G.ow b with
  | some (s,z) => (match φ s z with
   | some z' => some (d,z')
   | none => some (s,z))
  | none => none
theorem new_block {Γ:Ctx} {G:Gh} {w w':World} (hm:Mem Γ G w) {cells:Array Value} {e:TypeId} (hw:w'.heap = w.heap.push (.cells cells e)) (d:Nat) (xs:List T)
  (src:Nat → Option (Nat × List Nat)) (φ:Nat → List Nat → Option (List Nat)) (f:Nat → List Nat → Value) (hdr:Value) (chg:Chg)
  (hok:okTups xs = true) (hf:∀ (i:Nat) (z:List Nat),(f i z).oneCell' = true) (hh:hdr.oneCell' = true)
  (hφ:∀ (i:Nat) u x q (z:List Nat),xs[i]? = some u → src i = some (x,q) → φ x (z ++ q) = some (z ++ [i]))
  (hsrc:∀ (i:Nat) u x q,xs[i]? = some u → src i = some (x,q) → (∀ z,f i z = G.hd x (z ++ q)) ∧ R Γ.St G w x u q ∧ Clean u ∧ x ≠ d)
  (hnone:∀ (i:Nat) u,xs[i]? = some u → src i = none → ∀ (G2:Gh) (w2:World),(∀ z,G2.hd d (z ++ [i]) = f i z) → R Γ.St G2 w2 d u [i])
  (hcells:∀ (G2:Gh),(∀ i z,G2.hd d (z ++ [i]) = f i z) → ∀ (o:Nat) (v:Value),(valsF G2 d xs [] 0)[o]? = some v → cells[o]? = some v)
  (hchg:∀ s p,(∀ n,(s,n) ∉ (d,0) :: chg) → φ s p = none) (ho:w'.os = w.os:=by rfl) (hq:w'.output = w.output:=by rfl) :
  Keep ((d,0) :: chg) G w (G.nb d w.heap.size xs src φ f hdr) w' ∧ Mem Γ (G.nb d w.heap.size xs src φ f hdr) w' ∧
  LocF (G.nb d w.heap.size xs src φ f hdr) w' d xs [] 0 w.heap.size 0 ∧ RF Γ.St (G.nb d w.heap.size xs src φ f hdr) w' d xs [] 0 ∧
  w'.heap[w.heap.size]? = some (.cells cells e):=by
 have hnew:w'.heap[w.heap.size]? = some (.cells cells e):=by grind
 have hold:∀ b,b < w.heap.size → w'.heap[b]? = w.heap[b]?:=fun b hb => by rw [hw,Array.getElem?_push];grind
 have hsz:w'.heap.size = w.heap.size + 1:=by grind
 have hcell:∀ b o,b < w.heap.size → cellAt w' b o = cellAt w b o:=fun b o hb => by simp [cellAt,World.cell?,hold b hb]
 have hblk:Blk w w':=fun b cs e' h => ⟨cs,by rw [hold b (by grind)];exact h,rfl⟩
 have hone:=hm.one
 generalize hG':G.nb d w.heap.size xs src φ f hdr = G'
 have ghd:∀ i z,G'.hd d (z ++ [i]) = f i z:=fun i z => by rw [← hG'];simp [Gh.nb]
 have gad:∀ g,(T.agg xs).inT g = true → G'.ad d g.reverse = ⟨w.heap.size,(T.agg xs).offT g,none⟩:=fun g hg => by rw [← hG'];simp [Gh.nb,hg]
 have gadm:∀ i x q z,src i = some (x,q) → (T.agg xs).inT (i :: z.reverse) = false → G'.ad d (z ++ [i]) = G.ad x (z ++ q):=fun i x q z hs hin => by
  rw [← hG']
  simp [Gh.nb,hin,hs]
 have glb:∀ o p,leafF xs [] 0 o = some p → G'.lb w.heap.size o = some (false,d,p):=fun o p h => by rw [← hG'];simp [Gh.nb,h]
 have glbm:∀ b o fl x z z',G.lb b o = some (fl,x,z) → φ x z = some z' → G'.lb b o = some (fl,d,z'):=fun b o fl x z z' h1 h2 => by
  have:=(hm.lb b o _ h1).1
  rw [← hG']
  simp [Gh.nb,h1,h2,show b ≠ w.heap.size from by omega]
 have gowm:∀ b x z z',G.ow b = some (x,z) → φ x z = some z' → G'.ow b = some (d,z'):=fun b x z z' h1 h2 => by
  have:=(hm.ow b _ h1).1
  rw [← hG']
  simp [Gh.nb,h1,h2,show b ≠ w.heap.size from by omega]
 have hne:∀ s p,Off ((d,0) :: chg) s p → s ≠ d:=fun s p h e => absurd (h 0 (by simp [e])) (by simp)
 have hkeep:Keep ((d,0) :: chg) G w G' w':=by
  refine ⟨fun s p h => ?_,fun s p h => ?_,fun b o fl s p _ hl h => ⟨?_,hcell b o (hm.lb b o _ hl).1⟩,fun b s p hl h => ?_,hblk,fun b s p ms c hl _ hb => by rw [hold b (hm.ow b _ hl).1];exact hb⟩
  ·rw [← hG'];simp [Gh.nb,hne s p h]
  ·rw [← hG'];simp [Gh.nb,hne s p h]
  ·have:=(hm.lb b o _ hl).1
   rw [← hG'];simp [Gh.nb,hl,hchg s p h,show b ≠ w.heap.size from by omega]
  ·have:=(hm.ow b _ hl).1
   rw [← hG'];simp [Gh.nb,hl,hchg s p h,show b ≠ w.heap.size from by omega]
 refine ⟨hkeep,?_,?_,?_,hnew⟩
 ·
  have hB:BlkOk Γ w' w.heap.size:=⟨by omega,.inl hm.sz,by
   cases hst:Γ.St w.heap.size with
   | none => rfl
   | some x => have:=hm.st _ x hst;simp at this⟩
  have hup:∀ b,BlkOk Γ w b → BlkOk Γ w' b:=fun b h => ⟨by have:=h.1;omega,h.2⟩
  refine ⟨fun s p => ?_,fun b o l hl => ?_,fun b l hl => ?_,fun b x hx => ?_,fun b h1 h2 => ?_,by have:=hm.sz;omega,hm.bk.trans hblk ho hq,hm.gl⟩
  ·rw [← hG']
   simp only [Gh.nb]
   split
   ·split
    ·exact hf _ _
    ·exact hh
   ·exact hone s p
  ·rw [← hG'] at hl
   simp only [Gh.nb] at hl
   split at hl
   ·grind
   ·split at hl
    ·rename_i hg;exact hup b (hm.lb b o _ hg)
    ·cases hl
  ·rw [← hG'] at hl
   simp only [Gh.nb] at hl
   split at hl
   ·grind
   ·split at hl
    ·rename_i hg;exact hup b (hm.ow b _ hg)
    ·cases hl
  ·have:=hm.st b x hx
   rw [hold b (Array.getElem?_eq_some_iff.1 this).1]
   exact this
  ·rw [hold b (Nat.lt_of_lt_of_le h1 hm.sz)]
   exact hm.fr b h1 h2
 ·
  refine LocF_mk xs [] 0 w.heap.size 0 hok (fun i x hx g hg => ?_) (fun i p' _ hp => by simpa using glb i p' hp) (fun i v hv => ?_)
  ·have:=gad (i :: g) (by simp only [T.inT,hx];exact hg)
   simpa [T.offT,hx] using this
  ·have:=hcells G' ghd i v hv
   rw [Nat.zero_add]
   simp [cellAt,World.cell?,hnew,this]
 ·
  refine RF_of xs [] 0 (fun i u hu => ?_)
  rw [Nat.zero_add]
  cases hs:src i with
  | none => exact hnone i u hu hs G' w' (fun z => ghd i z)
  | some xq =>
   obtain ⟨x,q⟩:=xq
   obtain ⟨h1,h2,h3,h4⟩:=hsrc i u x q hu hs
   have hin:∀ g,(T.agg xs).inT (i :: g) = u.inT g:=fun g => by simp only [T.inT,hu]
   refine R_mvc u q [i] (okTups_get xs hok i u hu) ⟨fun z => by rw [ghd,h1],fun z hz => gadm i x q z hs (by rw [hin];exact hz),fun b o fl z hz hl => ⟨glbm b o fl x _ _ hl (hφ i u x q z hu hs),hcell b o (hm.lb b o _ hl).1⟩,
    fun b z hl => gowm b x _ _ hl (hφ i u x q z hu hs),hblk,fun b z ms c hl hb => by rw [hold b (hm.ow b _ hl).1];exact hb⟩ (AllR.mono (by simp) u h3) h2
where okTups_get:(xs:List T) → okTups xs = true → ∀ (i:Nat) (x:T),xs[i]? = some x → x.okTup = true
 | [],_,_,_,h => by simp at h
 | y :: ys,hk,i,x,h => by
  simp only [okTups,Bool.and_eq_true] at hk
  cases i with
  | zero => grind
  | succ i => exact okTups_get ys hk.2 i x (by grind)
end Go.Ab

namespace Go.Ab
open Go
inductive Part where
 | slot (s:Nat) (t:T)
 | zero (u:T)
def Part.tree:Part → T
 | .slot _ t => t
 | .zero u => u
def movedT:T → Bool
 | .lit _ | .ro _ => false
 | _ => true
mutual
def T.zOk:T → Bool
 | .lit v => v.oneCell'
 | .sl _ xs => xs.isEmpty
 | .agg xs => zOks xs
 | .any | .ro _ | .same _ _ | .addr _ _ | .sub _ _ _ _ _ | .ptr _ | .tup _ | .mp _ _ => false
def zOks:List T → Bool
 | [] => true
 | x :: xs => x.zOk && zOks xs
end
def zhd:T → List Nat → Value
 | .agg xs,i :: f => match xs[i]? with
  | some x => zhd x f
  | none => .bool false
 | .lit v,_ => v
 | .sl _ _,_ => .slice none 0 0
 | .agg _,[] | .any,_ | .ro _,_ | .same _ _,_ | .addr _ _,_ | .sub _ _ _ _ _,_ | .ptr _,_ | .tup _,_ | .mp _ _,_ => .bool false
termination_by structural _ f => f
mutual
def zvals:T → List Value
 | .lit v => [v]
 | .sl _ _ => [.slice none 0 0]
 | .agg xs => zvalsF xs
 | .any | .ro _ | .same _ _ | .addr _ _ | .sub _ _ _ _ _ | .ptr _ | .tup _ | .mp _ _ => []
def zvalsF:List T → List Value
 | [] => []
 | x :: xs => zvals x ++ zvalsF xs
end
section
variable {St:Stb} {G:Gh} {w:World} {d:Nat}
mutual
theorem R_zero:(u:T) → ∀ (p:List Nat),u.zOk = true → (∀ z,G.hd d (z ++ p) = oneV (zhd u z.reverse)) → R St G w d u p
 | .lit v,p,h,hd => by
  simp only [T.zOk,R] at h ⊢
  have:=hd []
  rw [List.nil_append] at this
  rw [this]
  exact oneV_of h
 | .sl k xs,p,h,hd => by
  simp only [T.zOk,List.isEmpty_iff] at h
  subst h
  have:=hd []
  rw [List.nil_append] at this
  simp only [R]
  exact .inl ⟨trivial,none,by rw [this];rfl⟩
 | .agg xs,p,h,hd => by
  simp only [T.zOk,R] at h ⊢
  exact RF_zero xs p 0 h (fun i x hx z => by
   rw [Nat.zero_add]
   have:=hd (z ++ [i])
   grind[zhd])
 | .any,_,h,_ | .ro _,_,h,_ | .same _ _,_,h,_ | .addr _ _,_,h,_ | .sub _ _ _ _ _,_,h,_ | .ptr _,_,h,_ | .tup _,_,h,_ | .mp _ _,_,h,_ => by grind[T.zOk]
theorem RF_zero:(xs:List T) → ∀ (p:List Nat) (j:Nat),zOks xs = true → (∀ i x,xs[i]? = some x → ∀ z,G.hd d (z ++ ((j + i) :: p)) = oneV (zhd x z.reverse)) → RF St G w d xs p j
 | [],_,_,_,_ => by simp only [RF]
 | x :: xs,p,j,h,hd => by
  simp only [zOks,Bool.and_eq_true,RF] at h ⊢
  exact ⟨R_zero x (j :: p) h.1 (by simpa using hd 0 x (by simp)),RF_zero xs p (j + 1) h.2 (fun i y hy z => by
   have:=hd (i + 1) y (by grind) z
   grind)⟩
end
end
section
variable {G:Gh} {d:Nat}
mutual
theorem vals_zero:(u:T) → ∀ (p:List Nat),u.zOk = true → (∀ z,G.hd d (z ++ p) = oneV (zhd u z.reverse)) → vals G d u p = zvals u
 | .lit v,p,h,hd => by
  simp only [T.zOk,vals,zvals] at h ⊢
  have:=hd []
  grind[zhd,oneV_of]
 | .sl k xs,p,h,hd => by
  have:=hd []
  grind[vals,zvals,zhd,oneV,Value.oneCell']
 | .agg xs,p,h,hd => by
  simp only [T.zOk,vals,zvals] at h ⊢
  exact valsF_zero xs p 0 h (fun i x hx z => by
   rw [Nat.zero_add]
   have:=hd (z ++ [i])
   grind[zhd])
 | .any,_,h,_ | .ro _,_,h,_ | .same _ _,_,h,_ | .addr _ _,_,h,_ | .sub _ _ _ _ _,_,h,_ | .ptr _,_,h,_ | .tup _,_,h,_ | .mp _ _,_,h,_ => by grind[T.zOk]
theorem valsF_zero:(xs:List T) → ∀ (p:List Nat) (j:Nat),zOks xs = true → (∀ i x,xs[i]? = some x → ∀ z,G.hd d (z ++ ((j + i) :: p)) = oneV (zhd x z.reverse)) → valsF G d xs p j = zvalsF xs
 | [],_,_,_,_ => by rfl
 | x :: xs,p,j,h,hd => by
  simp only [zOks,Bool.and_eq_true,valsF,zvalsF] at h ⊢
  rw [vals_zero x (j :: p) h.1 (by simpa using hd 0 x (by simp)),valsF_zero xs p (j + 1) h.2 (fun i y hy z => by
   have:=hd (i + 1) y (by grind) z
   grind)]
end
end
mutual
theorem zOk_clean:(u:T) → u.zOk = true → Clean u ∧ u.okTup = true
 | .lit _,_ => by simp [Clean,AllR,T.okTup]
 | .sl _ xs,h => by simp only [T.zOk,List.isEmpty_iff] at h;subst h;simp [Clean,AllR,AllRs,T.okTup]
 | .agg xs,h => by simp only [T.zOk] at h;simpa only [Clean,AllR,T.okTup] using zOks_clean xs h
 | .any,h | .ro _,h | .same _ _,h | .addr _ _,h | .sub _ _ _ _ _,h | .ptr _,h | .tup _,h | .mp _ _,h => by grind[T.zOk]
theorem zOks_clean:(xs:List T) → zOks xs = true → Cleans xs ∧ okTups xs = true
 | [],_ => by simp [Cleans,AllRs,okTups]
 | x :: xs,h => by
  simp only [zOks,Bool.and_eq_true] at h
  simp only [Cleans,AllRs,okTups,Bool.and_eq_true]
  exact ⟨⟨(zOk_clean x h.1).1,(zOks_clean xs h.2).1⟩,(zOk_clean x h.1).2,(zOks_clean xs h.2).2⟩
end
mutual
theorem zvals_length:(u:T) → u.zOk = true → (zvals u).length = u.size
 | .lit _,_ | .sl _ _,_ => by rfl
 | .agg xs,h => by simp only [T.zOk] at h;simp only [zvals,T.size];exact zvalsF_length xs h
 | .any,h | .ro _,h | .same _ _,h | .addr _ _,h | .sub _ _ _ _ _,h | .ptr _,h | .tup _,h | .mp _ _,h => by grind[T.zOk]
theorem zvalsF_length:(xs:List T) → zOks xs = true → (zvalsF xs).length = T.sizes xs
 | [],_ => by rfl
 | x :: xs,h => by
  simp only [zOks,Bool.and_eq_true] at h
  simp only [zvalsF,List.length_append,T.sizes,zvals_length x h.1,zvalsF_length xs h.2]
end
def pSrc (ps:List Part) (i:Nat):Option (Nat × List Nat) :=
 match ps[i]? with
 | some (.slot s t) => if movedT t then some (s,[]) else none
 | _ => none
def pIdx:List Part → Nat → Nat → Option Nat
 | [],_,_ => none
 | .slot x t :: r,i,s => if movedT t && x == s then some i else pIdx r (i + 1) s
 | .zero _ :: r,i,s => pIdx r (i + 1) s
def pPhi (ps:List Part) (s:Nat) (z:List Nat):Option (List Nat) :=
 match pIdx ps 0 s with
 | some i => some (z ++ [i])
 | none => none
def pWr (d:Nat):List Part → Nat → Wr
 | [],_ => []
 | .slot s t :: r,i => if movedT t then (s,some (cpT d t [i])) :: pWr d r (i + 1) else pWr d r (i + 1)
 | .zero _ :: r,i => pWr d r (i + 1)
def pSlots:List Part → List Nat
 | [] => []
 | .slot s t :: r => if movedT t then s :: pSlots r else pSlots r
 | .zero _ :: r => pSlots r
def pChg (ps:List Part):Chg:=(pSlots ps).map fun s => (s,1)
def pVals (G:Gh):Part → List Value
 | .slot s t => vals G s t []
 | .zero u => zvals u
def pHd (G:Gh) (ps:List Part) (i:Nat) (z:List Nat):Value :=
 match ps[i]? with
 | some (.slot s _) => G.hd s z
 | some (.zero u) => oneV (zhd u z.reverse)
 | none => .bool false
structure PartsOk (E:Env) (d:Nat) (ps:List Part):Prop where
 slot:∀ s t,Part.slot s t ∈ ps → E s = some t ∧ Clean t ∧ t.okTup = true
 zero:∀ u,Part.zero u ∈ ps → u.zOk = true
 dist:(d :: pSlots ps).Nodup
theorem pIdx_some:(ps:List Part) → ∀ (i0 i s:Nat) (t:T),ps[i]? = some (.slot s t) → movedT t = true → (pSlots ps).Nodup → pIdx ps i0 s = some (i0 + i)
 | [],_,_,_,_,h,_,_ => by simp at h
 | .slot x u :: r,i0,i,s,t,h,hm,hn => by
  cases i with
  | zero => simp at h;obtain ⟨rfl,rfl⟩:=h;simp [pIdx,hm]
  | succ i =>
   simp only [List.getElem?_cons_succ] at h
   have hin:s ∈ pSlots r:=pSlots_mem r i s t h hm
   simp only [pIdx]
   by_cases hu:movedT u = true
   ·simp only [pSlots,hu,if_true,List.nodup_cons] at hn
    have:x ≠ s:=by grind
    simp only [hu,Bool.true_and,beq_iff_eq,this,if_false]
    rw [pIdx_some r (i0 + 1) i s t h hm hn.2]
    grind
   ·simp only [pSlots,hu] at hn
    simp only [hu,Bool.false_and,Bool.false_eq_true,if_false]
    rw [pIdx_some r (i0 + 1) i s t h hm (by grind)]
    grind
 | .zero u :: r,i0,i,s,t,h,hm,hn => by
  cases i with
  | zero => simp at h
  | succ i =>
   simp only [List.getElem?_cons_succ] at h
   simp only [pIdx]
   rw [pIdx_some r (i0 + 1) i s t h hm (by grind[pSlots])]
   grind
where pSlots_mem:(ps:List Part) → ∀ (i s:Nat) (t:T),ps[i]? = some (.slot s t) → movedT t = true → s ∈ pSlots ps
 | [],_,_,_,h,_ => by simp at h
 | .slot x u :: r,i,s,t,h,hm => by
  cases i with
  | zero => simp at h;obtain ⟨rfl,rfl⟩:=h;simp [pSlots,hm]
  | succ i =>
   have:=pSlots_mem r i s t (by grind) hm
   grind[pSlots]
 | .zero u :: r,i,s,t,h,hm => by
  cases i with
  | zero => simp at h
  | succ i => simpa only [pSlots] using pSlots_mem r i s t (by grind) hm
theorem pIdx_none:(ps:List Part) → ∀ (i0 s:Nat),s ∉ pSlots ps → pIdx ps i0 s = none
 | [],_,_,_ => by rfl
 | .slot x u :: r,i0,s,h => by
  simp only [pIdx]
  by_cases hu:movedT u = true
  ·simp only [pSlots,hu,if_true,List.mem_cons,not_or] at h
   simp only [hu,Bool.true_and,beq_iff_eq,Ne.symm h.1,if_false]
   exact pIdx_none r _ s h.2
  ·simp only [pSlots,hu] at h
   simp only [hu,Bool.false_and,Bool.false_eq_true,if_false]
   exact pIdx_none r _ s (by grind)
 | .zero u :: r,i0,s,h => by simp only [pIdx];exact pIdx_none r _ s (by grind[pSlots])
theorem pWr_find:(ps:List Part) → ∀ (d i0 s:Nat) (x:Option T),(pWr d ps i0).find s = some x → ∃ i t,ps[i]? = some (.slot s t) ∧ movedT t = true ∧ x = some (cpT d t [i0 + i])
 | [],_,_,_,_,h => by grind[pWr,Wr.find]
 | .slot y u :: r,d,i0,s,x,h => by
  simp only [pWr] at h
  split at h
  ·rename_i hu
   simp only [Wr.find] at h
   split at h
   ·rename_i he;subst he;simp at h;exact ⟨0,u,by simp,hu,by grind⟩
   ·obtain ⟨i,t,h1,h2,h3⟩:=pWr_find r d (i0 + 1) s x h
    exact ⟨i + 1,t,by grind,h2,by grind⟩
  ·obtain ⟨i,t,h1,h2,h3⟩:=pWr_find r d (i0 + 1) s x h
   exact ⟨i + 1,t,by grind,h2,by grind⟩
 | .zero u :: r,d,i0,s,x,h => by
  simp only [pWr] at h
  obtain ⟨i,t,h1,h2,h3⟩:=pWr_find r d (i0 + 1) s x h
  exact ⟨i + 1,t,by grind,h2,by grind⟩
theorem pWr_none:(ps:List Part) → ∀ (d i0 s:Nat),(pWr d ps i0).find s = none → s ∉ pSlots ps
 | [],_,_,_,_ => by simp [pSlots]
 | .slot y u :: r,d,i0,s,h => by
  simp only [pWr] at h
  simp only [pSlots]
  split at h
  ·rename_i hu
   simp only [Wr.find] at h
   split at h
   ·cases h
   ·rename_i hne
    simp only [hu,if_true,List.mem_cons,not_or]
    exact ⟨fun e => hne e.symm,pWr_none r d _ s h⟩
  ·rename_i hu
   simp only [hu]
   simpa using pWr_none r d _ s h
 | .zero u :: r,d,i0,s,h => by
  simp only [pWr] at h
  simpa only [pSlots] using pWr_none r d _ s h
section
variable {Γ:Ctx} {E:Env} {G:Gh} {tmps:Array Value} {w:World} {d:Nat} {ps:List Part}
theorem parts_facts (hrep:Rep Γ E G tmps w) (h:PartsOk E d ps) :
  okTups (ps.map Part.tree) = true ∧ Cleans (ps.map Part.tree) ∧ (∀ i z,(pHd G ps i z).oneCell' = true) ∧
  (∀ (i:Nat) u x q (z:List Nat),(ps.map Part.tree)[i]? = some u → pSrc ps i = some (x,q) → pPhi ps x (z ++ q) = some (z ++ [i])) ∧
  (∀ (i:Nat) u x q,(ps.map Part.tree)[i]? = some u → pSrc ps i = some (x,q) → (∀ z,pHd G ps i z = G.hd x (z ++ q)) ∧ R Γ.St G w x u q ∧ Clean u ∧ x ≠ d) ∧
  (∀ (i:Nat) u,(ps.map Part.tree)[i]? = some u → pSrc ps i = none → ∀ (G2:Gh) (w2:World),(∀ z,G2.hd d (z ++ [i]) = pHd G ps i z) → R Γ.St G2 w2 d u [i]) ∧
  (∀ s p,(∀ n,(s,n) ∉ (d,0) :: pChg ps) → pPhi ps s p = none):=by
 have hdn:=List.nodup_cons.1 h.dist
 refine ⟨?_,?_,?_,?_,?_,?_,?_⟩
 ·have:∀ qs:List Part,(∀ p ∈ qs,p ∈ ps) → okTups (qs.map Part.tree) = true:=by
   intro qs
   induction qs with
   | nil => intro _;rfl
   | cons q qs ih =>
    intro hq
    simp only [List.map_cons,okTups,Bool.and_eq_true]
    refine ⟨?_,by grind⟩
    cases q with
    | slot s t => exact (h.slot s t (hq _ (by simp))).2.2
    | zero u => exact (zOk_clean u (h.zero u (hq _ (by simp)))).2
  grind
 ·have:∀ qs:List Part,(∀ p ∈ qs,p ∈ ps) → Cleans (qs.map Part.tree):=by
   intro qs
   induction qs with
   | nil => intro _;trivial
   | cons q qs ih =>
    intro hq
    simp only [List.map_cons,Cleans,AllRs]
    refine ⟨?_,by grind⟩
    cases q with
    | slot s t => exact (h.slot s t (hq _ (by simp))).2.1
    | zero u => exact (zOk_clean u (h.zero u (hq _ (by simp)))).1
  grind
 ·intro i z
  unfold pHd
  split
  ·exact hrep.mem.one _ _
  ·exact oneV_one _
  ·rfl
 ·intro i u x q z hu hs
  rw [List.getElem?_map] at hu
  unfold pSrc at hs
  cases hp:ps[i]? with
  | none => grind
  | some p =>
   cases p with
   | zero v => grind
   | slot s t =>
    simp only [hp] at hs
    split at hs
    ·rename_i hm
     simp at hs
     obtain ⟨rfl,rfl⟩:=hs
     simp [pPhi,pIdx_some ps 0 i s t hp hm hdn.2]
    ·cases hs
 ·intro i u x q hu hs
  rw [List.getElem?_map] at hu
  unfold pSrc at hs
  cases hp:ps[i]? with
  | none => grind
  | some p =>
   cases p with
   | zero v => grind
   | slot s t =>
    simp only [hp] at hs
    split at hs
    ·rename_i hm
     simp at hs
     obtain ⟨rfl,rfl⟩:=hs
     simp [hp,Part.tree] at hu
     subst hu
     obtain ⟨h1,h2,h3⟩:=h.slot s t (by grind)
     refine ⟨by grind[pHd],(hrep.ent s t h1).2.1,h2,fun e => hdn.1 ?_⟩
     grind[pIdx_some.pSlots_mem]
    ·cases hs
 ·intro i u hu hs G2 w2 hG2
  rw [List.getElem?_map] at hu
  unfold pSrc at hs
  cases hp:ps[i]? with
  | none => grind
  | some p =>
   cases p with
   | zero v =>
    simp [hp,Part.tree] at hu
    subst hu
    exact R_zero v [i] (h.zero v (by grind)) (by grind[pHd])
   | slot s t =>
    simp only [hp] at hs
    split at hs
    ·cases hs
    ·rename_i hm
     simp [hp,Part.tree] at hu
     subst hu
     have h1:=(hrep.ent s t (h.slot s t (by grind)).1).2.1
     have h2:G2.hd d [i] = G.hd s []:=by have:=hG2 [];grind[pHd]
     cases t <;> simp [movedT] at hm <;> simp only [R] at h1 ⊢ <;> rw [h2] <;> exact h1
 ·intro s p hoff
  have:s ∉ pSlots ps:=fun hin => hoff 1 (by grind[pChg])
  grind[pPhi,pIdx_none]
theorem parts_vals (hrep:Rep Γ E G tmps w) (h:PartsOk E d ps) (G2:Gh):∀ (qs:List Part) (i0:Nat),(∀ i q,qs[i]? = some q → ps[i0 + i]? = some q) → (∀ i z,G2.hd d (z ++ [i]) = pHd G ps i z) →
  valsF G2 d (qs.map Part.tree) [] i0 = qs.flatMap (pVals G)
 | [],_,_,_ => by rfl
 | q :: qs,i0,hq,hG2 => by
  have h0:ps[i0]? = some q:=by simpa using hq 0 q (by simp)
  have ih:=parts_vals hrep h G2 qs (i0 + 1) (fun i p hp => by rw [show i0 + 1 + i = i0 + (i + 1) from by omega];simp_all) hG2
  simp only [List.map_cons,valsF,List.flatMap_cons,ih]
  congr 1
  cases q with
  | slot s t => exact vals_hd t [] [i0] (by grind[pHd])
  | zero u => exact vals_zero u [i0] (h.zero u (by grind)) (by grind[pHd])
end
end Go.Ab

namespace Go.Ab
open Go
section
variable {P:Program} {Γ:Ctx} {E:Env} {o:Oper} {d:Nat}
theorem moved_ent {G G':Gh} {w':World} {s i:Nat} {t:T} {v:Option Value} (hv:v = some (mkV G s t [])) (hnt:∀ xs,t ≠ .tup xs) (hs:∀ p,G'.hd s p = G.hd s p) (hd':∀ z,G'.hd d (z ++ [i]) = G.hd s z)
  (hr:R Γ.St G' w' d t [i]):Ent Γ G' w' v s (cpT d t [i]):=by
 have hz:∀ z,G'.hd s (z ++ []) = G'.hd d (z ++ [i]):=fun z => by rw [List.append_nil,hs,hd']
 refine ⟨?_,?_,cpT_top d t [i]⟩
 ·rw [hv,mkV_copy (G:=G') (G':=G') t [i] [] hnt hz,mkV_mkV1 G s t [] hnt,mkV1_hd t [] [i] (fun z => by rw [hd',List.append_nil])]
 ·exact R_copy (G:=G') (G':=G') (fun _ => rfl) t [i] [] hz hnt (AllR.triv (fun _ _ => ⟨rfl,rfl⟩) _) hr
theorem rep_block {G:Gh} {a:Act} {w w':World} {ps:List Part} (hrep:Rep Γ E G a.tmps w) (h:PartsOk E d ps) (hd:d < Γ.N) {cells:Array Value} {e:TypeId} (hw:w'.heap = w.heap.push (.cells cells e))
  (hcells:∀ (o:Nat) (v:Value),(ps.flatMap (pVals G))[o]? = some v → cells[o]? = some v)
  (rt:T) (hdr:Value)
  (hrt:(∃ k cap,rt = .sl k (ps.map Part.tree) ∧ (∀ p ∈ ps,p.tree.size = k) ∧ hdr = .slice (some ⟨w.heap.size,0,none⟩) ps.length cap ∧ ps.length ≤ cap ∧ cap ≤ maxLen ∧ cells.size = cap * k) ∨
   ∃ p,ps = [p] ∧ rt = .ptr p.tree ∧ hdr = .pointer (some ⟨w.heap.size,0,none⟩) ∧ cells.size = p.tree.size)
  (ho:w'.os = w.os:=by rfl) (hq:w'.output = w.output:=by rfl) :
  ∃ G',Rep Γ (E.app ((d,some rt) :: pWr d ps 0) ((d,0) :: pChg ps)) G' (a.tmps.setIfInBounds d hdr) w':=by
 obtain ⟨f1,f0,f2,f3,f4,f5,f6⟩:=parts_facts hrep h
 have hh:hdr.oneCell' = true:=by rcases hrt with ⟨k,cap,_,_,rfl,_⟩ | ⟨p,_,_,rfl,_⟩ <;> rfl
 have hdn:=List.nodup_cons.1 h.dist
 obtain ⟨g1,g2,g3,g4,g5⟩:=new_block hrep.mem hw d (ps.map Part.tree) (pSrc ps) (pPhi ps) (pHd G ps) hdr (pChg ps) f1 f2 hh f3 f4 f5
  (fun G2 hG2 o v hv => hcells o v (by
   rw [parts_vals hrep h G2 ps 0 (fun i q hq => by simpa using hq) hG2] at hv
   exact hv)) f6 (ho:=ho) (hq:=hq)
 refine ⟨_,rep_step hrep (by simp) g1 g2 ?_ ?_⟩
 ·intro s hs
  simp only [Wr.find] at hs
  split at hs
  ·cases hs
  ·rename_i hne
   have hns:=pWr_none ps d 0 s hs
   refine ⟨fun n hn => ?_,by rw [Array.getElem?_setIfInBounds];simp [hne]⟩
   simp only [List.mem_cons,Prod.mk.injEq,pChg,List.mem_map] at hn
   rcases hn with ⟨e1,_⟩ | ⟨y,hy,e1,_⟩
   ·exact hne e1.symm
   ·exact hns (e1 ▸ hy)
 ·intro s t hs
  simp only [Wr.find] at hs
  split at hs
  ·rename_i he
   subst he
   simp at hs
   subst hs
   have hroot:(G.nb d w.heap.size (ps.map Part.tree) (pSrc ps) (pPhi ps) (pHd G ps) hdr).hd d [] = hdr:=by simp [Gh.nb]
   have how:(G.nb d w.heap.size (ps.map Part.tree) (pSrc ps) (pPhi ps) (pHd G ps) hdr).ow w.heap.size = some (d,[]):=by simp [Gh.nb]
   refine ⟨?_,?_,?_⟩
   ·rw [Array.getElem?_setIfInBounds]
    rcases hrt with ⟨k,cap,rfl,_⟩ | ⟨p,_,rfl,_⟩ <;> simp [hrep.size,hd,mkV,hroot]
   ·rcases hrt with ⟨k,cap,rfl,hk,h1,h2,h3,h4⟩ | ⟨p,rfl,rfl,h1,h4⟩
    ·simp only [R]
     rw [hroot]
     refine .inr ⟨w.heap.size,0,cap,cells,e,by simpa using h1,g5,by simpa using h2,h3,by omega,how,?_,RL_of _ _ _ _ _ (fun x hx => ?_) g3 g4⟩
     ·intro o ho _
      have hsz:T.sizes (ps.map Part.tree) = (ps.map Part.tree).length * k:=sizes_uniform _ (fun x hx => by
       obtain ⟨p,hp,rfl⟩:=List.mem_map.1 hx
       exact hk p hp)
      simp [Gh.nb,leafF_none (ps.map Part.tree) [] 0 o (by omega)]
     ·obtain ⟨p,hp,rfl⟩:=List.mem_map.1 hx
      exact hk p hp
    ·simp only [R]
     rw [hroot]
     simp only [List.map_cons,List.map_nil,LocF,RF] at g3 g4
     exact ⟨w.heap.size,cells,e,h1,g5,h4,how,g3.1,g4.1⟩
   ·rcases hrt with ⟨k,cap,rfl,_⟩ | ⟨p,rfl,rfl,_⟩
    ·simp only [Top];exact f0
    ·simp only [Top];exact f0.1
  ·rename_i hne
   obtain ⟨i,u,h1,h2,h3⟩:=pWr_find ps d 0 s _ hs
   simp only [Nat.zero_add] at h3
   simp at h3
   subst h3
   obtain ⟨h4,h5,h6⟩:=h.slot s u (List.mem_of_getElem? h1)
   have hnt:∀ xs,u ≠ .tup xs:=by rintro xs rfl;simp [T.okTup] at h6
   have hi:(ps.map Part.tree)[i]? = some u:=by simp [h1,Part.tree]
   have hr:=RF_get _ [] 0 i u g4 hi
   simp only [Nat.zero_add] at hr
   refine moved_ent (G:=G) (by rw [Array.getElem?_setIfInBounds];simp only [hne,if_false];exact (hrep.ent s u h4).1) hnt (fun p => ?_) (fun z => ?_) hr
   ·simp [Gh.nb,show s ≠ d from fun e => hne e.symm]
   ·simp [Gh.nb,pHd,h1]
inductive PartOf (E:Env):Operand → Part → Prop where
 | slot (s:Nat) (t:T):PartOf E (.tmp s) (.slot s t)
 | zero (v:Value) (u:T) (h:zvals u = v.cells.toList):PartOf E (.const v) (.zero u)
theorem part_cells {G:Gh} {a:Act} {w:World} {ps:List Part} (hrep:Rep Γ E G a.tmps w) (h:PartsOk E d ps) {x:Operand} {p:Part} (hp:p ∈ ps) (hx:PartOf E x p) :
  (a.eval x).cells.toList = pVals G p:=by
 cases hx with
 | slot s t =>
  obtain ⟨h1,h2,h3⟩:=h.slot s t hp
  obtain ⟨h4,_,_⟩:=hrep.ent s t h1
  rw [eval_tmp h4]
  cases t with
  | agg xs => simp [mkV,Value.cells,vals,pVals]
  | tup xs => simp [T.okTup] at h3
  | _ =>
   have:=hrep.mem.one s []
   simp only [mkV,vals,pVals]
   generalize G.hd s [] = v at this
   cases v <;> simp [Value.oneCell',Value.cells] at this ⊢
 | zero v u h => simp [Act.eval,h,pVals]
def PartsOf (E:Env):List Operand → List Part → Prop
 | [],[] => True
 | x :: xs,p :: ps => PartOf E x p ∧ PartsOf E xs ps
 | _,_ => False
theorem PartsOf.length:(xs:List Operand) → (ps:List Part) → PartsOf E xs ps → xs.length = ps.length
 | [],[],_ => rfl
 | _ :: xs,_ :: ps,h => by simp [PartsOf.length xs ps h.2]
 | [],_ :: _,h => by simp [PartsOf] at h
 | _ :: _,[],h => by simp [PartsOf] at h
theorem PartsOf.mem:(xs:List Operand) → (ps:List Part) → PartsOf E xs ps → ∀ x ∈ xs,∃ p,p ∈ ps ∧ PartOf E x p
 | [],_,_,x,hx => by simp at hx
 | y :: xs,p :: ps,h,x,hx => by
  rcases List.mem_cons.1 hx with rfl | hx
  ·exact ⟨p,by simp,h.1⟩
  ·obtain ⟨q,hq,hxq⟩:=PartsOf.mem xs ps h.2 x hx;exact ⟨q,by simp [hq],hxq⟩
 | _ :: _,[],h,_,_ => by simp [PartsOf] at h
theorem cells_flat {G:Gh} {a:Act} {w:World} {ps:List Part} (hrep:Rep Γ E G a.tmps w) (h:PartsOk E d ps):∀ (xs:List Operand) (qs:List Part),(∀ q ∈ qs,q ∈ ps) → PartsOf E xs qs →
  ((xs.map a.eval).flatMap fun v => v.cells.toList) = qs.flatMap (pVals G)
 | [],[],_,_ => rfl
 | x :: xs,q :: qs,hq,hx => by
  simp only [List.map_cons,List.flatMap_cons,part_cells hrep h (hq q (by simp)) hx.1,cells_flat hrep h xs qs (fun p hp => hq p (by simp [hp])) hx.2]
 | [],_ :: _,_,hx => by simp [PartsOf] at hx
 | _ :: _,[],_,hx => by simp [PartsOf] at hx
theorem ok_alloc (T':TypeId) (ti:TypeInfo) (z:Value) (u:T) (ho:o.op = .alloc T') (hdst:o.dst = some d) (hd:d < Γ.N)
  (hi:P.info? T' = some ti) (hz:ti.zero = some z) (hu:u.zOk = true) (hv:zvals u = z.cells.toList) (hsz:z.cells.size = u.size) :
  OpOk P Γ o E (E.app [(d,some (.ptr u))] [(d,0)]):=by
 refine OpOk.value hdst fun a w G hrep => ?_
 have hps:PartsOk E d [.zero u]:=⟨fun s t h => by simp at h,fun v h => by simp at h;subst h;exact hu,by simp [pSlots]⟩
 obtain ⟨G',hG'⟩:=rep_block (w':=w.alloc (.cells z.cells T')) hrep hps hd (cells:=z.cells) (e:=T') rfl (fun o v h => by simpa [hv,pVals] using h) (.ptr u) (.pointer (some ⟨w.heap.size,0,none⟩)) (.inr ⟨.zero u,rfl,rfl,rfl,hsz⟩)
 refine ⟨_,_,?_,G',by simpa [pWr,pChg,pSlots] using hG'⟩
 simp [execOp,ho,Instr.alloc,zeroValue,typeInfo,hi,hz,newVar,newRow]
theorem ok_box (T':TypeId) (x:Operand) (p:Part) (ho:o.op = .box T' x) (hdst:o.dst = some d) (hd:d < Γ.N) (hx:PartOf E x p) (hps:PartsOk E d [p]) :
  OpOk P Γ o E (E.app ((d,some (.ptr p.tree)) :: pWr d [p] 0) ((d,0) :: pChg [p])):=by
 refine OpOk.value hdst fun a w G hrep => ?_
 have hc:=part_cells hrep hps (by simp) hx
 have hsz:(a.eval x).cells.size = p.tree.size:=by
  rw [← Array.length_toList,hc]
  cases p with
  | slot s t =>
   obtain ⟨_,_,h3⟩:=hps.slot s t (by simp)
   show (vals G s t []).length = t.size
   exact vals_length t [] (by rintro xs rfl;simp [T.okTup] at h3)
  | zero u => exact zvals_length u (hps.zero u (by simp))
 obtain ⟨G',hG'⟩:=rep_block (w':=w.alloc (.cells (a.eval x).cells T')) hrep hps hd (cells:=(a.eval x).cells) (e:=T') rfl (fun o v h => by
  rw [← Array.getElem?_toList,hc];simpa using h) (.ptr p.tree) (.pointer (some ⟨w.heap.size,0,none⟩)) (.inr ⟨p,rfl,rfl,rfl,hsz⟩)
 refine ⟨_,_,?_,G',hG'⟩
 simp [execOp,ho,Instr.box,newVar,newRow]
theorem ok_buildSlice (t e:TypeId) (ti:TypeInfo) (z:Value) (k n:Nat) (xs:List Operand) (ps:List Part) (ho:o.op = .buildSlice t n ((xs.zipIdx 0).map fun x => (x.2,x.1)).toArray) (hdst:o.dst = some d) (hd:d < Γ.N)
  (ht:P.underlying t = some (.slice e)) (hi:P.info? e = some ti) (hz:ti.zero = some z) (hk:ti.size = k) (hk0:0 < k) (hn:xs.length = n) (hn0:0 < n) (hsm:n * k ≤ 2 ^ 24)
  (hx:PartsOf E xs ps) (hps:PartsOk E d ps) (hsz:∀ p ∈ ps,p.tree.size = k) :
  OpOk P Γ o E (E.app ((d,some (.sl k (ps.map Part.tree))) :: pWr d ps 0) ((d,0) :: pChg ps)):=by
 refine OpOk.value hdst fun a w G hrep => ?_
 subst hk
 have hlen:xs.length = ps.length:=PartsOf.length xs ps hx
 have hc:=cells_flat hrep hps xs ps (fun _ h => h) hx
 have hvs:∀ v ∈ xs.map a.eval,v.cells.size = ti.size:=by
  intro v hv
  obtain ⟨x,hxm,rfl⟩:=List.mem_map.1 hv
  obtain ⟨p,hp,hxp⟩:=PartsOf.mem xs ps hx x hxm
  rw [← Array.length_toList,part_cells hrep hps hp hxp,← hsz p hp]
  cases p with
  | slot s t =>
   obtain ⟨_,_,h3⟩:=hps.slot s t hp
   show (vals G s t []).length = t.size
   exact vals_length t [] (by rintro xs rfl;simp [T.okTup] at h3)
  | zero u => exact zvals_length u (hps.zero u hp)
 have hfill:=Great.fill_whole hk0 (xs.map a.eval) ((Array.range (n * ti.size)).map (z.cells[· % z.cells.size]!)) hvs (by simp [hn])
 have hparts:((((xs.zipIdx 0).map fun x => (x.2,x.1)).toArray).map fun (i,x) => (i,a.eval x)).toList = ((xs.map a.eval).zipIdx 0).map fun x => (x.2,x.1):=by
  simp [List.zipIdx_map,Function.comp_def]
 have hrun:=run_buildSlice (P:=P) w t e n _ _ ti z ht hi hz (by omega) (by have:=Nat.mul_pos hn0 hk0;omega) (by rw [hparts];exact hfill)
 have hsize:((xs.map a.eval).flatMap fun v => v.cells.toList).toArray.size = n * ti.size:=by
  rw [List.size_toArray,flat_len (k:=ti.size) _ (fun v hv => by rw [Array.length_toList];exact hvs v hv)]
  simp [hn]
 obtain ⟨G',hG'⟩:=rep_block (w':=w.alloc (.cells ((xs.map a.eval).flatMap fun v => v.cells.toList).toArray e)) hrep hps hd rfl (fun o v h => by
  rw [hc];simpa using h) (.sl ti.size (ps.map Part.tree)) (.slice (some ⟨w.heap.size,0,none⟩) n n) (.inl ⟨ti.size,n,rfl,hsz,by rw [← hlen,hn],by omega,by have:n ≤ n * ti.size:=Nat.le_mul_of_pos_right n hk0;simp only [maxLen];omega,hsize⟩)
 refine ⟨_,_,?_,G',hG'⟩
 simp only [execOp,ho,Sem.run_bind,hrun,Result.andThen_ok]
 rfl
where
 flat_len {k:Nat} (vs:List Value) (h:∀ v ∈ vs,v.cells.toList.length = k):(vs.flatMap fun v => v.cells.toList).length = vs.length * k:=by
  induction vs with
  | nil => simp
  | cons v vs ih => simp [List.flatMap_cons,ih (fun u hu => h u (by simp [hu])),Nat.succ_mul];have:=h v (by simp);simp at this;omega
end
end Go.Ab

namespace Go.Ab
open Go
theorem rep_get {α β:Type} (f:α → List β) (x:α) (k:Nat) (hk:(f x).length = k) (hk0:0 < k):∀ (n o:Nat) (v:β),((List.replicate n x).flatMap f)[o]? = some v → o < n * k ∧ (f x)[o % k]? = some v
 | 0,o,v,h => by simp at h
 | n + 1,o,v,h => by
  rw [List.replicate_succ,List.flatMap_cons,List.getElem?_append] at h
  split at h
  ·grind[Nat.mod_eq_of_lt]
  ·rename_i hge
   rw [hk] at h hge
   obtain ⟨h1,h2⟩:=rep_get f x k hk hk0 n (o - k) v h
   grind[Nat.mod_eq_sub_mod]
section
variable {P:Program} {Γ:Ctx} {E:Env} {o:Oper} {d:Nat}
theorem ok_make (t e:TypeId) (ti:TypeInfo) (z:Value) (u:T) (k:Nat) (x y:Operand) (n c:Nat) (kl kc:IntKind) (ho:o.op = .makeSlice t x y) (hdst:o.dst = some d) (hd:d < Γ.N)
  (ht:P.underlying t = some (.slice e)) (hi:P.info? e = some ti) (hz:ti.zero = some z) (hk:ti.size = k) (hk0:0 < k) (hu:u.zOk = true) (hv:zvals u = z.cells.toList) (hus:u.size = k) (hb:ti.bytes ≤ 4096)
  (hx:opT E x = some (.lit (.int kl n))) (hy:opT E y = some (.lit (.int kc c))) (hnc:n ≤ c) (hc:c ≤ 68719476736) :
  OpOk P Γ o E (E.app [(d,some (.sl k (List.replicate n u)))] [(d,0)]):=by
 refine OpOk.value hdst fun a w G hrep => ?_
 have h1:=(opd_lit hrep hx).1
 have h2:=(opd_lit hrep hy).1
 subst hk
 have hps:PartsOk E d (List.replicate n (.zero u)):=⟨by simp,by grind,by
  have:∀ m,pSlots (List.replicate m (.zero u)) = []:=by intro m;induction m with | zero => rfl | succ m ih => grind[pSlots]
  simp [this]⟩
 have hzs:z.cells.size = ti.size:=by grind[zvals_length]
 have hbytes:(ti.bytes:Int) * (c:Int) ≤ 281474976710656:=by
  have:ti.bytes * c ≤ 4096 * 68719476736:=Nat.mul_le_mul hb hc
  omega
 have hrun:=run_make (P:=P) w t e ti z ht hi hz kl kc n c (by omega) (by omega) hbytes (by omega)
 simp only [Int.toNat_natCast] at hrun
 obtain ⟨G',hG'⟩:=rep_block (w':=w.alloc (.cells (madeCells z.cells (c * ti.size)) e)) hrep hps hd rfl (fun i v h => by
  obtain ⟨h3,h4⟩:=rep_get (pVals G) (.zero u) ti.size (by grind[pVals]) hk0 n i v h
  grind[Nat.lt_of_lt_of_le,Nat.mul_le_mul_right,pVals,madeCells]) (.sl ti.size (List.replicate n u)) (.slice (some ⟨w.heap.size,0,none⟩) n c)
  (.inl ⟨ti.size,c,by simp [Part.tree],fun p hp => by simp at hp;obtain ⟨_,rfl⟩:=hp;exact hus,by simp,by grind,by grind[maxLen],by simp [madeCells]⟩)
 refine ⟨.slice (some ⟨w.heap.size,0,none⟩) n c,w.alloc (.cells (madeCells z.cells (c * ti.size)) e),?_,G',?_⟩
 ·simp only [execOp,ho,h1,h2,Sem.run_bind,hrun,Result.andThen_ok]
  rfl
 ·have h6:∀ m i,pWr d (List.replicate m (.zero u)) i = []:=by intro m;induction m with | zero => intro i;rfl | succ m ih => grind[pWr]
  have h7:pChg (List.replicate n (.zero u)) = []:=by
   have:∀ m,pSlots (List.replicate m (.zero u)) = []:=by intro m;induction m with | zero => rfl | succ m ih => grind[pSlots]
   grind[pChg]
  grind
theorem ok_buildSlice0 (t e:TypeId) (ti:TypeInfo) (k:Nat) (ho:o.op = .buildSlice t 0 #[]) (hdst:o.dst = some d) (hd:d < Γ.N)
  (ht:P.underlying t = some (.slice e)) (hi:P.info? e = some ti):OpOk P Γ o E (E.app [(d,some (.sl k []))] [(d,0)]):=by
 refine OpOk.value hdst fun a w G hrep => ?_
 have hps:PartsOk E d []:=⟨by simp,by simp,by simp [pSlots]⟩
 obtain ⟨G',hG'⟩:=rep_block (w':=w.alloc (.cells #[] e)) hrep hps hd (cells:=#[]) rfl (by simp) (.sl k []) (.slice (some ⟨w.heap.size,0,none⟩) 0 0)
  (by simp)
 refine ⟨_,_,?_,G',hG'⟩
 have h0:(Array.range 0:Array Nat) = #[]:=by rfl
 simp [execOp,ho,Instr.buildSlice,run_underlying ht,sizeOf,typeInfo,hi,Instr.fill,newRow,h0]
theorem ok_nilslice (k:Nat) (x:Operand) (ho:o.op = .move x ∨ o.op = .assign x) (hx:x = .const (.slice none 0 0)) (hdst:o.dst = some d) (hd:d < Γ.N):OpOk P Γ o E (E.app [(d,some (.sl k []))] [(d,0)]):=by
 refine OpOk.value hdst fun a w G hrep => ?_
 refine ⟨.slice none 0 0,w,?_,_,rep_put hrep rfl hd (fun _ => .slice none 0 0) (fun _ => rfl) (.sl k []) (.slice none 0 0) (by simp [mkV,Gh.put]) (by simp [R,Gh.put]) (by simp [Top,Cleans,AllRs])⟩
 subst hx
 rcases ho with ho | ho <;> simp [execOp,ho,Act.eval]
def Gh.nv (G:Gh) (d:Nat) (src:Nat → Option (Nat × List Nat)) (φ:Nat → List Nat → Option (List Nat)) (f:Nat → List Nat → Value):Gh where
 hd s z:=if s = d then (match z.getLast? with
  | some i => f i z.dropLast
  | none => .bool false) else G.hd s z
 ad s z:=if s = d then (match z.getLast? with
  | some i => (match src i with
   | some (x,q) => G.ad x (z.dropLast ++ q)
   | none => default)
  | none => default) else G.ad s z
 lb b o:=match G.lb b o with
  | some (fl,s,z) => (match φ s z with
   | some z' => some (fl,d,z')
   | none => some (fl,s,z))
  | none => none
 ow b:=match G.ow b with
  | some (s,z) => (match φ s z with
   | some z' => some (d,z')
   | none => some (s,z))
  | none => none
theorem rep_agg {G:Gh} {a:Act} {w:World} {ps:List Part} (hrep:Rep Γ E G a.tmps w) (h:PartsOk E d ps) (hd:d < Γ.N) :
  ∃ G',Rep Γ (E.app ((d,some (.agg (ps.map Part.tree))) :: pWr d ps 0) ((d,0) :: pChg ps)) G' (a.tmps.setIfInBounds d (.agg (ps.flatMap (pVals G)).toArray)) w:=by
 obtain ⟨f1,f0,f2,f3,f4,f5,f6⟩:=parts_facts hrep h
 have hm:=hrep.mem
 have hblk:Blk w w:=fun b cs e' h => ⟨cs,h,rfl⟩
 generalize hG':G.nv d (pSrc ps) (pPhi ps) (pHd G ps) = G'
 have ghd:∀ i z,G'.hd d (z ++ [i]) = pHd G ps i z:=by grind[Gh.nv]
 have ghd':∀ s z,s ≠ d → G'.hd s z = G.hd s z:=by grind[Gh.nv]
 have glbm:∀ b o fl x z z',G.lb b o = some (fl,x,z) → pPhi ps x z = some z' → G'.lb b o = some (fl,d,z'):=by grind[Gh.nv]
 have gowm:∀ b x z z',G.ow b = some (x,z) → pPhi ps x z = some z' → G'.ow b = some (d,z'):=by grind[Gh.nv]
 have hne:∀ s p,Off ((d,0) :: pChg ps) s p → s ≠ d:=fun s p h e => absurd (h 0 (by simp [e])) (by simp)
 have hkeep:Keep ((d,0) :: pChg ps) G w G' w:=by
  refine ⟨by grind,fun s p h => ?_,fun b o fl s p _ hl h => ⟨?_,rfl⟩,fun b s p hl h => ?_,hblk,by intros;assumption⟩
  ·grind[Gh.nv]
  all_goals grind[Gh.nv]
 have hmem:Mem Γ G' w:=by
  refine ⟨fun s p => ?_,fun b o l hl => ?_,fun b l hl => ?_,hm.st,hm.fr,hm.sz,hm.bk,hm.gl⟩
  ·rw [← hG']
   simp only [Gh.nv]
   split
   ·split
    ·grind
    ·rfl
   ·exact hm.one s p
  ·rw [← hG'] at hl
   simp only [Gh.nv] at hl
   split at hl
   ·rename_i hg;exact hm.lb b o _ hg
   ·cases hl
  ·rw [← hG'] at hl
   simp only [Gh.nv] at hl
   split at hl
   ·rename_i hg;exact hm.ow b _ hg
   ·cases hl
 have g4:RF Γ.St G' w d (ps.map Part.tree) [] 0:=by
  refine RF_of _ [] 0 (fun i u hu => ?_)
  rw [Nat.zero_add]
  cases hs:pSrc ps i with
  | none => grind
  | some xq =>
   obtain ⟨x,q⟩:=xq
   obtain ⟨h1,h2,h3,h4⟩:=f4 i u x q hu hs
   refine R_mvc u q [i] (new_block.okTups_get _ f1 i u hu) ⟨by grind,by grind[Gh.nv],by grind,
    by grind,hblk,by intros;assumption⟩ (by grind[AllR.mono]) h2
 refine ⟨G',rep_step hrep (by simp) hkeep hmem ?_ ?_⟩
 ·grind[Wr.find,pWr_none,pChg]
 ·intro s t hs
  simp only [Wr.find] at hs
  split at hs
  ·rename_i he
   subst he
   simp at hs
   subst hs
   refine ⟨?_,by simpa only [R] using g4,by simp only [Top];exact Tops.of_clean _ f0⟩
   rw [Array.getElem?_setIfInBounds]
   simp only [hrep.size,hd,mkV,if_true]
   rw [parts_vals hrep h G' ps 0 (by simp) ghd]
  ·rename_i hne
   obtain ⟨i,u,h1,h2,h3⟩:=pWr_find ps d 0 s _ hs
   simp only [Nat.zero_add] at h3
   simp at h3
   subst h3
   obtain ⟨h4,h5,h6⟩:=h.slot s u (by grind)
   have hnt:∀ xs,u ≠ .tup xs:=by rintro xs rfl;grind[T.okTup]
   have hi:(ps.map Part.tree)[i]? = some u:=by simp [h1,Part.tree]
   have hr:=RF_get _ [] 0 i u g4 hi
   simp only [Nat.zero_add] at hr
   refine moved_ent (G:=G) (by rw [Array.getElem?_setIfInBounds];simp only [hne,if_false];exact (hrep.ent s u h4).1) hnt (by grind) (fun z => ?_) hr
   grind[pHd]
theorem seg_get (off:Nat):∀ (vs:List Value) (i:Nat) (cs:Array Value) (k:Nat),off + i + vs.length ≤ cs.size →
  ((vs.zipIdx i).foldl (fun cs (x:Value × Nat) => cs.setIfInBounds (off + x.2) x.1) cs)[k]? = if off + i ≤ k ∧ k < off + i + vs.length then vs[k - (off + i)]? else cs[k]?
 | [],i,cs,k,_ => by simp;omega
 | v :: vs,i,cs,k,h => by
  simp only [List.length_cons] at h
  simp only [List.zipIdx_cons,List.foldl_cons]
  rw [seg_get off vs (i + 1) _ k (by simp;omega)]
  grind
theorem fill_parts {pv:Part → List Value} (place:Nat → Option (Nat × Nat)):∀ (vs:List (Nat × Value)) (qs:List (Nat × Part)) (ps:List Part) (cs:Array Value),cs.toList = ps.flatMap pv →
  (∀ i p,ps[i]? = some p → place i = some (((ps.take i).flatMap pv).length,(pv p).length)) →
  vs.map (·.1) = qs.map (·.1) → (∀ (j:Nat) (v:Nat × Value) (q:Nat × Part),vs[j]? = some v → qs[j]? = some q → v.2.cells.toList = pv q.2 ∧ ∃ p,ps[q.1]? = some p ∧ (pv p).length = (pv q.2).length) →
  ∃ cs',Instr.fill place cs vs = some cs' ∧ cs'.toList = (qs.foldl (fun ps q => ps.set q.1 q.2) ps).flatMap pv
 | [],[],ps,cs,hcs,_,_,_ => ⟨cs,rfl,hcs⟩
 | [],_ :: _,_,_,_,_,h,_ => by simp at h
 | _ :: _,[],_,_,_,_,h,_ => by simp at h
 | (i,v) :: vs,(i',q) :: qs,ps,cs,hcs,hpl,hi,hq => by
  simp only [List.map_cons,List.cons.injEq] at hi
  obtain ⟨hi0,hi⟩:=hi
  subst hi0
  obtain ⟨h1,p,h2,h3⟩:=hq 0 (i,v) (i,q) rfl rfl
  dsimp only at h1 h2 h3
  have hplace:=hpl i p h2
  have hlt:=(List.getElem?_eq_some_iff.1 h2).1
  have hsplit:ps = ps.take i ++ p :: ps.drop (i + 1):=by
   grind[List.drop_eq_getElem_cons,List.take_append_drop]
  have hset:ps.set i q = ps.take i ++ q :: ps.drop (i + 1):=by grind
  have hvl:v.cells.size = (pv p).length:=by grind
  have hcl:cs.size = ((ps.take i).flatMap pv).length + ((pv p).length + ((ps.drop (i + 1)).flatMap pv).length):=by
   grind[Array.length_toList]
  have hnew:(v.cells.zipIdx.foldl (fun cs (x:Value × Nat) => cs.setIfInBounds (((ps.take i).flatMap pv).length + x.2) x.1) cs).toList = (ps.set i q).flatMap pv:=by
   rw [hset]
   simp only [List.flatMap_append,List.flatMap_cons,← h1]
   apply List.ext_getElem?
   intro k
   rw [← Array.foldl_toList,Array.getElem?_toList,show v.cells.zipIdx.toList = v.cells.toList.zipIdx 0 from by simp,seg_get _ _ 0 cs k (by grind)]
   have hcs2:cs.toList = ((ps.take i).flatMap pv) ++ (pv p ++ (ps.drop (i + 1)).flatMap pv):=by
    grind
   have hvl2:v.cells.toList.length = (pv p).length:=by rw [h1,h3]
   rw [← Array.getElem?_toList,hcs2]
   grind
  have hpl':∀ j p',(ps.set i q)[j]? = some p' → place j = some ((((ps.set i q).take j).flatMap pv).length,(pv p').length):=by
   intro j p' hp'
   have htk:(((ps.set i q).take j).flatMap pv).length = ((ps.take j).flatMap pv).length:=by
    rw [hset]
    conv => rhs;rw [hsplit]
    by_cases hj:j ≤ i
    ·grind
    ·rw [List.take_append,List.take_append]
     simp only [List.flatMap_append,List.length_append]
     congr 1
     have:j - (ps.take i).length = (j - (ps.take i).length - 1) + 1:=by simp;omega
     grind
   grind
  have hq':∀ (j:Nat) (x:Nat × Value) (y:Nat × Part),vs[j]? = some x → qs[j]? = some y → x.2.cells.toList = pv y.2 ∧ ∃ p,(ps.set i q)[y.1]? = some p ∧ (pv p).length = (pv y.2).length:=by
   intro j x y hx hy
   obtain ⟨h6,p',h7,h8⟩:=hq (j + 1) x y (by grind) (by grind)
   grind
  obtain ⟨cs',h4,h5⟩:=fill_parts place vs qs (ps.set i q) _ hnew hpl' hi hq'
  grind[Instr.fill]
theorem built_struct {t:TypeId} {it:TypeInfo} {fields:Array Field} {z:Value} {places:List (Nat × Nat)} (hi:P.info? t = some it) (hu:P.underlying t = some (.struct fields)) (hz:it.zero = some z)
  (hp:fields.toList.mapM (fun f => (P.info? f.type).map fun i => (f.offset,i.size)) = some places) (parts:List (Nat × Value)):P.built t parts = Instr.fill (places.toArray[·]?) z.cells parts:=by
 grind[Program.built]
theorem flat_zero {G:Gh}:(zs:List T) → (zs.map Part.zero).flatMap (pVals G) = zvalsF zs
 | [] => rfl
 | z :: zs => by simp [pVals,zvalsF,← flat_zero (G:=G) zs]
theorem ok_build (t:TypeId) (place:Nat → Option (Nat × Nat)) (z:Value) (zs:List T) (pl:List (Nat × Operand)) (qs:List (Nat × Part)) (ps:List Part) (ho:o.op = .build t pl.toArray) (hdst:o.dst = some d) (hd:d < Γ.N)
  (hb:∀ parts,P.built t parts = Instr.fill place z.cells parts) (hzv:zvalsF zs = z.cells.toList) (hz:zOks zs = true) (hpl:∀ i u,zs[i]? = some u → place i = some (T.sizes (zs.take i),u.size))
  (hps:qs.foldl (fun ps q => ps.set q.1 q.2) (zs.map Part.zero) = ps) (hok:PartsOk E d ps) (hix:pl.map (·.1) = qs.map (·.1))
  (hq:∀ (j:Nat) (x:Nat × Operand) (q:Nat × Part),pl[j]? = some x → qs[j]? = some q → PartOf E x.2 q.2 ∧ q.2 ∈ ps ∧ ∃ u,zs[q.1]? = some u ∧ u.size = q.2.tree.size) :
  OpOk P Γ o E (E.app ((d,some (.agg (ps.map Part.tree))) :: pWr d ps 0) ((d,0) :: pChg ps)):=by
 refine OpOk.value hdst fun a w G hrep => ?_
 obtain ⟨G',hG'⟩:=rep_agg hrep hok hd
 have hsz:∀ (us:List T),zOks us = true → ((us.map Part.zero).flatMap (pVals G)).length = T.sizes us:=by grind[flat_zero,zvalsF_length]
 obtain ⟨cs',h1,h2⟩:=fill_parts (pv:=pVals G) place (pl.map fun x => (x.1,a.eval x.2)) qs (zs.map Part.zero) z.cells (by rw [flat_zero,hzv]) (fun i p hp => by
   rw [List.getElem?_map] at hp
   cases hu:zs[i]? with
   | none => grind
   | some u =>
    simp [hu] at hp
    subst hp
    rw [hpl i u hu,← List.map_take,hsz _ (zOks_take zs i hz),pVals,zvals_length u (zOks_get zs hz i u hu)])
  (by grind[Function.comp_def]) (fun j v q hv hqj => by
   rw [List.getElem?_map] at hv
   cases hx:pl[j]? with
   | none => grind
   | some x =>
    simp [hx] at hv
    subst hv
    obtain ⟨h3,h4,u,h5,h6⟩:=hq j x q hx hqj
    refine ⟨part_cells hrep hok h4 h3,.zero u,by simp [h5],?_⟩
    rw [pVals,zvals_length u (zOks_get zs hz _ u h5),h6]
    cases hqq:q.2 with
    | slot s t =>
     rw [hqq] at h4
     obtain ⟨_,_,h7⟩:=hok.slot s t h4
     exact (vals_length t [] (by rintro xs rfl;grind[T.okTup])).symm
    | zero u' =>
     rw [hqq] at h4
     exact (zvals_length u' (hok.zero u' h4)).symm)
 rw [hps] at h2
 have h3:cs' = (ps.flatMap (pVals G)).toArray:=by rw [← h2]
 refine ⟨_,w,?_,G',hG'⟩
 have hrun:=run_build (P:=P) w t (pl.map fun x => (x.1,a.eval x.2)).toArray cs' (by grind)
 simp only [List.map_toArray,execOp,ho,Sem.run_bind] at hrun ⊢
 simp_all
where
 zOks_get:(xs:List T) → zOks xs = true → ∀ (i:Nat) (x:T),xs[i]? = some x → x.zOk = true
  | [],_,_,_,h => by simp at h
  | y :: ys,hk,i,x,h => by
   simp only [zOks,Bool.and_eq_true] at hk
   cases i with
   | zero => grind
   | succ i => exact zOks_get ys hk.2 i x (by grind)
 zOks_take:(xs:List T) → ∀ i,zOks xs = true → zOks (xs.take i) = true
  | [],i,_ => by simp [zOks]
  | y :: ys,0,_ => by simp [zOks]
  | y :: ys,i + 1,hk => by
   simp only [zOks,Bool.and_eq_true,List.take_succ_cons] at hk ⊢
   exact ⟨hk.1,zOks_take ys i hk.2⟩
end
end Go.Ab

namespace Go.Ab
open Go
mutual
def sameFl:T → T → Bool
 | .agg xs,.agg ys => sameFls xs ys
 | .agg _,_ => false
 | .tup _,_ => false
 | _,.agg _ => false
 | _,.tup _ => false
 | .any,_ | .lit _,_ | .ro _,_ | .same _ _,_ | .addr _ _,_ | .sub _ _ _ _ _,_ | .sl _ _,_ | .ptr _,_ | .mp _ _,_ => true
def sameFls:List T → List T → Bool
 | [],[] => true
 | x :: xs,y :: ys => sameFl x y && sameFls xs ys
 | [],_ :: _ => false
 | _ :: _,[] => false
end
mutual
theorem sameFl_size:(x y:T) → sameFl x y = true → x.size = y.size
 | .agg xs,.agg ys,h => by simp only [sameFl] at h;simp only [T.size];exact sameFls_size xs ys h
 | .agg _,.any,h | .agg _,.lit _,h | .agg _,.ro _,h | .agg _,.same _ _,h | .agg _,.addr _ _,h | .agg _,.sub _ _ _ _ _,h | .agg _,.sl _ _,h | .agg _,.ptr _,h | .agg _,.tup _,h => by grind[sameFl]
 | .tup _,_,h => by grind[sameFl]
 | .any,y,h | .lit _,y,h | .ro _,y,h | .same _ _,y,h | .addr _ _,y,h | .sub _ _ _ _ _,y,h | .sl _ _,y,h | .ptr _,y,h | .mp _ _,y,h => by
  cases y <;> simp [sameFl] at h <;> simp [T.size]
theorem sameFls_size:(xs ys:List T) → sameFls xs ys = true → T.sizes xs = T.sizes ys
 | [],[],_ => rfl
 | x :: xs,y :: ys,h => by
  simp only [sameFls,Bool.and_eq_true] at h
  simp only [T.sizes,sameFl_size x y h.1,sameFls_size xs ys h.2]
 | [],_ :: _,h => by grind[sameFls]
 | _ :: _,[],h => by grind[sameFls]
end
section
variable {G:Gh} {w:World} {s:Nat}
mutual
theorem Loc_lb:(t:T) → ∀ (p:List Nat) (b o j:Nat),Loc G w s t p b o → j < t.size → ∃ y,G.lb b (o + j) = some (false,s,y ++ p)
 | .agg xs,p,b,o,j,h,hj => by simp only [Loc,T.size] at h hj;exact LocF_lb xs p 0 b o j h.2 hj
 | .any,p,b,o,j,h,hj | .lit _,p,b,o,j,h,hj | .ro _,p,b,o,j,h,hj | .same _ _,p,b,o,j,h,hj | .addr _ _,p,b,o,j,h,hj | .sub _ _ _ _ _,p,b,o,j,h,hj | .sl _ _,p,b,o,j,h,hj | .ptr _,p,b,o,j,h,hj | .mp _ _,p,b,o,j,h,hj => by
  simp only [Loc,T.size] at h hj
  simp_all
 | .tup _,_,_,_,_,h,_ => by simp only [Loc] at h
theorem LocF_lb:(xs:List T) → ∀ (p:List Nat) (i b o j:Nat),LocF G w s xs p i b o → j < T.sizes xs → ∃ y,G.lb b (o + j) = some (false,s,y ++ p)
 | [],_,_,_,_,_,_,hj => by grind[T.sizes]
 | x :: xs,p,i,b,o,j,h,hj => by
  simp only [LocF,T.sizes] at h hj
  by_cases hlt:j < x.size
  ·obtain ⟨y,hy⟩:=Loc_lb x (i :: p) b o j h.1 hlt
   exact ⟨y ++ [i],by grind⟩
  ·obtain ⟨y,hy⟩:=LocF_lb xs p (i + 1) b (o + x.size) (j - x.size) h.2 (by omega)
   grind
end
mutual
theorem Loc_sh {G':Gh} {w':World}:(u u0:T) → ∀ (p:List Nat) (b o:Nat),sameFl u u0 = true → (∀ y,u.inT y.reverse = true → G'.ad s (y ++ p) = G.ad s (y ++ p)) →
  (∀ b o y,G.lb b o = some (false,s,y ++ p) → G'.lb b o = some (false,s,y ++ p)) → (∀ j v,(vals G' s u p)[j]? = some v → cellAt w' b (o + j) = some v) → Loc G w s u0 p b o → Loc G' w' s u p b o
 | .agg xs,.agg ys,p,b,o,h,ha,hl,hc,h0 => by
  simp only [Loc,sameFl] at h h0 ⊢
  refine ⟨by have:=ha [] rfl;grind,LocF_sh xs ys p 0 b o h (fun i x hx y hy => ?_) (by omega) (by grind[vals]) h0.2⟩
  grind[List.reverse_cons,T.inT]
 | .agg _,.any,_,_,_,h,_,_,_,_ | .agg _,.lit _,_,_,_,h,_,_,_,_ | .agg _,.ro _,_,_,_,h,_,_,_,_ | .agg _,.same _ _,_,_,_,h,_,_,_,_ | .agg _,.addr _ _,_,_,_,h,_,_,_,_ | .agg _,.sub _ _ _ _ _,_,_,_,h,_,_,_,_ | .agg _,.sl _ _,_,_,_,h,_,_,_,_ | .agg _,.ptr _,_,_,_,h,_,_,_,_ | .agg _,.tup _,_,_,_,h,_,_,_,_ => by grind[sameFl]
 | .tup _,_,_,_,_,h,_,_,_,_ => by grind[sameFl]
 | .any,u0,p,b,o,h,ha,hl,hc,h0 | .lit _,u0,p,b,o,h,ha,hl,hc,h0 | .ro _,u0,p,b,o,h,ha,hl,hc,h0 | .same _ _,u0,p,b,o,h,ha,hl,hc,h0 | .addr _ _,u0,p,b,o,h,ha,hl,hc,h0 | .sub _ _ _ _ _,u0,p,b,o,h,ha,hl,hc,h0 | .sl _ _,u0,p,b,o,h,ha,hl,hc,h0 | .ptr _,u0,p,b,o,h,ha,hl,hc,h0 | .mp _ _,u0,p,b,o,h,ha,hl,hc,h0 => by
  have h1:=Loc_single (by cases u0 <;> simp [sameFl] at h <;> rfl) h0
  have h2:=ha [] rfl
  rw [List.nil_append] at h2
  simp only [Loc]
  exact ⟨h2.trans h1.1,by simp_all,by simpa using hc 0 (G'.hd s p) (by simp [vals])⟩
theorem LocF_sh {G':Gh} {w':World}:(xs ys:List T) → ∀ (p:List Nat) (j b o:Nat),sameFls xs ys = true → (∀ i x,xs[i]? = some x → ∀ y,x.inT y.reverse = true → G'.ad s (y ++ ((j + i) :: p)) = G.ad s (y ++ ((j + i) :: p))) →
  (∀ b o y,G.lb b o = some (false,s,y ++ p) → G'.lb b o = some (false,s,y ++ p)) → (∀ i v,(valsF G' s xs p j)[i]? = some v → cellAt w' b (o + i) = some v) → LocF G w s ys p j b o → LocF G' w' s xs p j b o
 | [],[],_,_,_,_,_,_,_,_,_ => by simp only [LocF]
 | x :: xs,y :: ys,p,j,b,o,h,ha,hl,hc,h0 => by
  simp only [sameFls,Bool.and_eq_true,LocF] at h h0 ⊢
  have hs:=sameFl_size x y h.1
  have hnt:∀ zs,x ≠ .tup zs:=by rintro zs rfl;grind[sameFl]
  refine ⟨Loc_sh x y (j :: p) b o h.1 (fun z hz => by simpa using ha 0 x (by simp) z hz) (fun b o z hz => by have:=hl b o (z ++ [j]) (by grind);grind) (fun i v hv => hc i v ?_) h0.1,
   LocF_sh xs ys p (j + 1) b (o + x.size) h.2 (fun i z hz => by have:=ha (i + 1) z (by grind);grind) hl (fun i v hv => ?_) (by grind)⟩
  ·grind[valsF]
  ·have:=hc (x.size + i) v (by
    grind[valsF,vals_length])
   grind
 | [],_ :: _,_,_,_,_,h,_,_,_,_ => by grind[sameFls]
 | _ :: _,[],_,_,_,_,h,_,_,_,_ => by grind[sameFls]
end
end
def sPhi (p:Part) (q:List Nat) (s:Nat) (z:List Nat):Option (List Nat) :=
 match p with
 | .slot s0 t => if movedT t && s0 == s then some (z ++ q) else none
 | .zero _ => none
def sHd (G:Gh) (p:Part) (y:List Nat):Value :=
 match p with
 | .slot s _ => G.hd s y
 | .zero u => oneV (zhd u y.reverse)
def sWr (r:Nat) (q:List Nat):Part → Wr
 | .slot s t => if movedT t then [(s,some (cpT r t q))] else []
 | .zero _ => []
def Gh.st (G:Gh) (r:Nat) (q:List Nat) (p:Part):Gh where
 hd s z:=if s = r ∧ q <:+ z then sHd G p (z.take (z.length - q.length)) else G.hd s z
 ad s z:=if s = r ∧ q <:+ z ∧ p.tree.inT (z.take (z.length - q.length)).reverse = false then (match p with
  | .slot s0 _ => G.ad s0 (z.take (z.length - q.length))
  | .zero _ => default) else G.ad s z
 lb b o:=match G.lb b o with
  | some (fl,s,z) => (match sPhi p q s z with
   | some z' => some (fl,r,z')
   | none => some (fl,s,z))
  | none => none
 ow b:=match G.ow b with
  | some (s,z) => (match sPhi p q s z with
   | some z' => some (r,z')
   | none => some (s,z))
  | none => none
mutual
theorem vals_one {Γ:Ctx} {G:Gh} {w:World} (hm:Mem Γ G w) {s:Nat}:(t:T) → ∀ (p:List Nat) (v:Value),v ∈ vals G s t p → v.oneCell' = true
 | .agg xs,p,v,h => by simp only [vals] at h;exact valsF_one hm xs p 0 v h
 | .any,p,v,h | .lit _,p,v,h | .ro _,p,v,h | .same _ _,p,v,h | .addr _ _,p,v,h | .sub _ _ _ _ _,p,v,h | .sl _ _,p,v,h | .ptr _,p,v,h | .mp _ _,p,v,h | .tup _,p,v,h => by
  simp only [vals,List.mem_singleton] at h;rw [h];exact hm.one s p
theorem valsF_one {Γ:Ctx} {G:Gh} {w:World} (hm:Mem Γ G w) {s:Nat}:(xs:List T) → ∀ (p:List Nat) (j:Nat) (v:Value),v ∈ valsF G s xs p j → v.oneCell' = true
 | [],_,_,_,h => by grind[valsF]
 | x :: xs,p,j,v,h => by
  simp only [valsF,List.mem_append] at h
  rcases h with h | h
  ·exact vals_one hm x _ v h
  ·exact valsF_one hm xs p _ v h
end
mutual
theorem zvals_one:(u:T) → u.zOk = true → ∀ v ∈ zvals u,v.oneCell' = true
 | .lit v,h,x,hx => by simp only [zvals,List.mem_singleton] at hx;rw [hx];exact h
 | .sl _ _,_,x,hx => by simp only [zvals,List.mem_singleton] at hx;rw [hx];rfl
 | .agg xs,h,x,hx => by simp only [T.zOk] at h;simp only [zvals] at hx;exact zvalsF_one xs h x hx
 | .any,h,_,_ | .ro _,h,_,_ | .same _ _,h,_,_ | .addr _ _,h,_,_ | .sub _ _ _ _ _,h,_,_ | .ptr _,h,_,_ | .tup _,h,_,_ | .mp _ _,h,_,_ => by grind[T.zOk]
theorem zvalsF_one:(xs:List T) → zOks xs = true → ∀ v ∈ zvalsF xs,v.oneCell' = true
 | [],_,_,h => by grind[zvalsF]
 | x :: xs,h,v,hv => by
  simp only [zOks,Bool.and_eq_true] at h
  simp only [zvalsF,List.mem_append] at hv
  rcases hv with hv | hv
  ·exact zvals_one x h.1 v hv
  ·exact zvalsF_one xs h.2 v hv
end
theorem take_suf (y q:List Nat):(y ++ q).take ((y ++ q).length - q.length) = y:=by simp
theorem moved_ent' {Γ:Ctx} {G G':Gh} {w':World} {s d:Nat} {q:List Nat} {t:T} {v:Option Value} (hv:v = some (mkV G s t [])) (hnt:∀ xs,t ≠ .tup xs) (hs:∀ p,G'.hd s p = G.hd s p) (hd':∀ z,G'.hd d (z ++ q) = G.hd s z)
  (hr:R Γ.St G' w' d t q):Ent Γ G' w' v s (cpT d t q):=by
 have hz:∀ z,G'.hd s (z ++ []) = G'.hd d (z ++ q):=by grind
 refine ⟨?_,?_,cpT_top d t q⟩
 ·rw [hv,mkV_copy (G:=G') (G':=G') t q [] hnt hz,mkV_mkV1 G s t [] hnt,mkV1_hd t [] q (fun z => by rw [hd',List.append_nil])]
 ·exact R_copy (G:=G') (G':=G') (fun _ => rfl) t q [] hz hnt (AllR.triv (fun _ _ => ⟨rfl,rfl⟩) _) hr
section
variable {P:Program} {Γ:Ctx} {E:Env} {o:Oper}
theorem set_clean:(f:List Nat) → ∀ (t u:T),Clean t → Clean u → Clean (t.set f u)
 | [],t,u,_,hu => by grind[T.set]
 | i :: f,t,u,ht,hu => by
  cases t with
  | sl k xs =>
   simp only [T.set]
   split
   ·rename_i x hx
    simp only [Clean,AllR] at ht ⊢
    exact sets_clean xs i _ ht (set_clean f x u (AllRs_get xs ht i x hx) hu)
   ·exact ht
  | agg xs =>
   simp only [T.set]
   split
   ·rename_i x hx
    simp only [Clean,AllR] at ht ⊢
    exact sets_clean xs i _ ht (set_clean f x u (AllRs_get xs ht i x hx) hu)
   ·exact ht
  | tup xs =>
   simp only [T.set]
   split
   ·rename_i x hx
    simp only [Clean,AllR] at ht ⊢
    exact sets_clean xs i _ ht (set_clean f x u (AllRs_get xs ht i x hx) hu)
   ·exact ht
  | ptr t =>
   simp only [T.set]
   split
   ·simp only [Clean,AllR] at ht ⊢
    exact set_clean f t u ht hu
   ·exact ht
  | _ => grind[T.set]
where sets_clean:(xs:List T) → ∀ (i:Nat) (y:T),Cleans xs → Clean y → Cleans (xs.set i y)
 | [],_,_,_,_ => by grind
 | x :: xs,0,y,h,hy => by simp only [List.set_cons_zero,Cleans,AllRs] at h ⊢;grind
 | x :: xs,i + 1,y,h,hy => by simp only [List.set_cons_succ,Cleans,AllRs] at h ⊢;exact ⟨h.1,sets_clean xs i y h.2 hy⟩
theorem ok_storeA (T':TypeId) (ti:TypeInfo) (x y:Operand) (r:Nat) (q:List Nat) (tr u0:T) (p:Part) (ho:o.op = .store T' x y) (hdst:o.dst = none)
  (hi:P.info? T' = some ti) (hsz:ti.size = p.tree.size) (hpos:0 < ti.size) (hx:AdrOf Γ E x r q) (hr:E r = some tr) (hrs:tr.single = true) (hg:tr.get q.reverse = some u0) (hl:tr.locd q.reverse = true)
  (hsh:sameFl p.tree u0 = true) (hy:PartOf E y p) (hps:PartsOk E r [p]) :
  OpOk P Γ o E (E.app ((r,some (tr.set q.reverse p.tree)) :: sWr r q p) ((r,q.length) :: pChg [p])):=by
 refine OpOk.skip hdst fun a w G hrep => ?_
 have hm:=hrep.mem
 have hadr:=hx a w G hrep
 obtain ⟨e3,e4,e5⟩:=hrep.ent r _ hr
 have hq0:q ≠ []:=by rintro rfl;simp [T.locd] at hl
 obtain ⟨i0,f0,hqr⟩:∃ i f,q.reverse = i :: f:=by
  cases h:q.reverse with
  | nil => exact absurd (by simpa using h) hq0
  | cons i f => exact ⟨i,f,rfl⟩
 have htr:∀ v:T,(tr.set q.reverse v).single = true ∧ Clean tr:=by
  intro v
  rw [hqr] at hg ⊢
  cases tr with
  | sl k xs => exact ⟨by simp only [T.set];split <;> rfl,by simpa only [Top,Clean,AllR] using e5⟩
  | ptr t => exact ⟨by simp only [T.set];split <;> rfl,by simpa only [Top,Clean,AllR] using e5⟩
  | agg xs => simp [T.single] at hrs
  | tup xs => simp [T.single] at hrs
  | _ => simp [T.get] at hg
 obtain ⟨b,ob,cs,et,hloc,hblk,hfit⟩:=(R_get q.reverse tr u0 [] e4 hg).2 hl
 simp only [rp,List.reverse_reverse,List.append_nil] at hloc
 have hru0:=(R_get q.reverse tr u0 [] e4 hg).1
 have had:=Loc_ad hloc
 have hsu:=sameFl_size _ _ hsh
 have hc:=part_cells hrep hps (by simp) hy
 have hvs:(a.eval y).cells.size = p.tree.size:=by
  rw [← Array.length_toList,hc]
  cases p with
  | slot s t => obtain ⟨_,_,h3⟩:=hps.slot s t (by simp);exact vals_length t [] (by rintro xs rfl;simp [T.okTup] at h3)
  | zero u => exact zvals_length u (hps.zero u (by simp))
 have hone:∀ v ∈ (a.eval y).cells.toList,v.oneCell' = true:=by
  rw [hc]
  intro v hv
  cases p with
  | slot s t => exact vals_one hm t [] v hv
  | zero u => exact zvals_one u (hps.zero u (by simp)) v hv
 generalize hw':w.setRow b (cs.toList.take ob ++ (a.eval y).cells.toList ++ cs.toList.drop (ob + (a.eval y).cells.toList.length)).toArray = w'
 have hnew:w'.heap[b]? = some (.cells (cs.toList.take ob ++ (a.eval y).cells.toList ++ cs.toList.drop (ob + (a.eval y).cells.toList.length)).toArray et (0,0)):=by
  rw [← hw'];exact setRow_heap w b cs _ et _ hblk
 have hold:∀ b',b' ≠ b → w'.heap[b']? = w.heap[b']?:=fun b' h => by rw [← hw'];exact setRow_other w b b' _ h
 have hsize:w'.heap.size = w.heap.size:=by rw [← hw'];exact size_setRow w b _
 have hcl:(a.eval y).cells.toList.length = u0.size:=by rw [Array.length_toList,hvs,hsu]
 have hcellb:∀ k,cellAt w' b k = if ob ≤ k ∧ k < ob + u0.size then (pVals G p)[k - ob]? else cellAt w b k:=by
  intro k
  simp only [cellAt,World.cell?,hnew,hblk,Option.isSome_none,Bool.false_eq_true,if_false]
  rw [← hc,← hcl] at *
  rw [← Array.getElem?_toList,← Array.getElem?_toList (xs:=cs)]
  simp only []
  have hcs:cs.toList.length = cs.size:=Array.length_toList ..
  generalize (a.eval y).cells.toList = V at *
  by_cases h1:k < ob
  ·rw [if_neg (by omega),List.append_assoc,List.getElem?_append_left (by simp;omega),List.getElem?_take_of_lt h1]
  ·by_cases h2:k < ob + V.length
   ·rw [if_pos ⟨by omega,h2⟩,List.append_assoc,List.getElem?_append_right (by simp;omega),List.getElem?_append_left (by simp;omega)]
    congr 1;simp;omega
   ·rw [if_neg (by omega),List.append_assoc,List.getElem?_append_right (by simp;omega),List.getElem?_append_right (by simp;omega),List.getElem?_drop]
    congr 1;simp;omega
 have hcellr:∀ b' o' fl s z,G.lb b' o' = some (fl,s,z) → ¬ (s = r ∧ q <:+ z) → cellAt w' b' o' = cellAt w b' o':=by
  intro b' o' fl s z h1 h2
  by_cases hb:b' = b
  ·subst hb
   rw [hcellb]
   split
   ·rename_i h3
    obtain ⟨y',h4⟩:=Loc_lb u0 q b' ob (o' - ob) hloc (by omega)
    rw [show ob + (o' - ob) = o' from by omega,h1] at h4
    simp at h4
    exact absurd ⟨h4.2.1,y',h4.2.2.symm⟩ h2
   ·rfl
  ·simp [cellAt,World.cell?,hold b' hb]
 have hmp:∀ (b':Nat) (ms:Obj) (_:ms.nocell = true),w.heap[b']? = some ms → w'.heap[b']? = some ms:=fun b' ms c h => by
  by_cases e:b' = b
  ·subst e
   rw [hblk] at h
   cases h;cases c
  ·rw [hold b' e];exact h
 have hblk':Blk w w':=by
  intro b' cs' e' h1
  by_cases hb:b' = b
  ·subst hb
   rw [hblk] at h1
   simp at h1
   obtain ⟨rfl,rfl⟩:=h1
   exact ⟨_,hnew,by simp;have:cs.toList.length = cs.size:=Array.length_toList ..;omega⟩
  ·exact ⟨cs',by rw [hold b' hb];exact h1,rfl⟩
 generalize hG':G.st r q p = G'
 have ghd:∀ y',G'.hd r (y' ++ q) = sHd G p y':=fun y' => by rw [← hG'];simp [Gh.st]
 have ghd':∀ s z,¬ (s = r ∧ q <:+ z) → G'.hd s z = G.hd s z:=fun s z h => by rw [← hG'];simp only [Gh.st];rw [if_neg h]
 have gad:∀ s z,¬ (s = r ∧ q <:+ z) → G'.ad s z = G.ad s z:=fun s z h => by rw [← hG'];simp only [Gh.st];rw [if_neg (fun h2 => h ⟨h2.1,h2.2.1⟩)]
 have gadf:∀ y',p.tree.inT y'.reverse = true → G'.ad r (y' ++ q) = G.ad r (y' ++ q):=fun y' h => by rw [← hG'];simp only [Gh.st,take_suf];rw [if_neg (by simp [h])]
 have gadm:∀ s0 t y',p = .slot s0 t → t.inT y'.reverse = false → G'.ad r (y' ++ q) = G.ad s0 y':=fun s0 t y' h1 h2 => by
  subst h1
  rw [← hG'];simp only [Gh.st,take_suf,Part.tree];rw [if_pos];simp [h2]
 have glb:∀ b' o' fl s z,G.lb b' o' = some (fl,s,z) → sPhi p q s z = none → G'.lb b' o' = some (fl,s,z):=fun b' o' fl s z h1 h2 => by rw [← hG'];simp [Gh.st,h1,h2]
 have glbm:∀ b' o' fl s z z',G.lb b' o' = some (fl,s,z) → sPhi p q s z = some z' → G'.lb b' o' = some (fl,r,z'):=fun b' o' fl s z z' h1 h2 => by rw [← hG'];simp [Gh.st,h1,h2]
 have gow:∀ b' s z,G.ow b' = some (s,z) → sPhi p q s z = none → G'.ow b' = some (s,z):=fun b' s z h1 h2 => by rw [← hG'];simp [Gh.st,h1,h2]
 have gowm:∀ b' s z z',G.ow b' = some (s,z) → sPhi p q s z = some z' → G'.ow b' = some (r,z'):=fun b' s z z' h1 h2 => by rw [← hG'];simp [Gh.st,h1,h2]
 have hphi:∀ s z,(∀ n,(s,n) ∉ (r,q.length) :: pChg [p]) → sPhi p q s z = none:=by
  intro s z h
  cases p with
  | zero u => rfl
  | slot s0 t =>
   simp only [sPhi]
   rw [if_neg]
   intro h2
   simp only [Bool.and_eq_true,beq_iff_eq] at h2
   obtain ⟨h3,rfl⟩:=h2
   exact h 1 (by simp [pChg,pSlots,h3])
 have hphir:∀ z,sPhi p q r z = none:=by
  intro z
  cases p with
  | zero u => rfl
  | slot s0 t =>
   simp only [sPhi]
   rw [if_neg]
   intro h2
   simp only [Bool.and_eq_true,beq_iff_eq] at h2
   obtain ⟨h3,rfl⟩:=h2
   have:=(List.nodup_cons.1 hps.dist).1
   simp [pSlots,h3] at this
 have hoffq:∀ s z,Off ((r,q.length) :: pChg [p]) s z → ¬ (s = r ∧ q <:+ z):=by
  rintro s z h ⟨rfl,h2⟩
  have:=h q.length (by simp)
  have:=h2.length_le
  omega
 have hkeep:Keep ((r,q.length) :: pChg [p]) G w G' w':=by
  refine ⟨fun s z h => ghd' s z (hoffq s z h),fun s z h => gad s z (hoffq s z h),fun b' o' fl s z _ h1 h2 => ⟨glb b' o' fl s z h1 (hphi s z h2),hcellr b' o' fl s z h1 ?_⟩,fun b' s z h1 h2 => gow b' s z h1 (hphi s z h2),hblk',fun b' _ _ ms c _ _ h => hmp b' ms c h⟩
  rintro ⟨rfl,_⟩
  exact h2 q.length (by simp)
 have hBb:BlkOk Γ w b:=by
  obtain ⟨y',h4⟩:=Loc_lb u0 q b ob 0 hloc (by omega)
  exact hm.lb _ _ _ h4
 have hmem:Mem Γ G' w':=by
  refine ⟨fun s z => ?_,fun b' o' l hl => ?_,fun b' l hl => ?_,fun b' x' hx' => ?_,fun b' h1 h2 => ?_,by rw [hsize];exact hm.sz,hm.bk.trans hblk' (by rw [← hw'];rfl) (by rw [← hw'];rfl),hm.gl⟩
  ·by_cases h:s = r ∧ q <:+ z
   ·obtain ⟨rfl,y',rfl⟩:=h
    rw [ghd]
    unfold sHd
    split
    ·exact hm.one _ _
    ·exact oneV_one _
   ·rw [ghd' s z h];exact hm.one s z
  ·have:∃ l',G.lb b' o' = some l':=by
    rw [← hG'] at hl
    simp only [Gh.st] at hl
    split at hl
    ·exact ⟨_,by assumption⟩
    ·cases hl
   obtain ⟨l',hl'⟩:=this
   have:=hm.lb b' o' l' hl'
   exact ⟨by rw [hsize];exact this.1,this.2⟩
  ·have:∃ l',G.ow b' = some l':=by
    rw [← hG'] at hl
    simp only [Gh.st] at hl
    split at hl
    ·exact ⟨_,by assumption⟩
    ·cases hl
   obtain ⟨l',hl'⟩:=this
   have:=hm.ow b' l' hl'
   exact ⟨by rw [hsize];exact this.1,this.2⟩
  ·have hb:b' ≠ b:=by rintro rfl;rw [hBb.2.2] at hx';cases hx'
   rw [hold b' hb];exact hm.st b' x' hx'
  ·have hb:b' ≠ b:=by
    rintro rfl
    rcases hBb.2.1 with h3 | h3
    ·omega
    ·exact h2 h3
   rw [hold b' hb];exact hm.fr b' h1 h2
 have hupd:Upd G w G' w' r q:=by
  refine ⟨fun z h => ghd' r z (fun h2 => h h2.2),fun z h => gad r z (fun h2 => h h2.2),fun b' o' fl z h1 h => ⟨glb b' o' fl r z h1 (hphir z),hcellr b' o' fl r z h1 (fun h2 => h h2.2)⟩,fun b' z h1 _ => gow b' r z h1 (hphir z),hblk',fun b' _ ms c _ _ h => hmp b' ms c h⟩
 have hru:R Γ.St G' w' r p.tree q:=by
  cases hp:p with
  | zero u =>
   refine R_zero u q (hps.zero u (by simp [hp])) (fun z => by rw [ghd];simp [sHd,hp])
  | slot s0 t =>
   obtain ⟨h1,h2,h3⟩:=hps.slot s0 t (by simp [hp])
   have hrt:=(hrep.ent s0 t h1).2.1
   by_cases hmv:movedT t = true
   ·have hs0r:s0 ≠ r:=by
     rintro rfl
     have:=(List.nodup_cons.1 hps.dist).1
     simp [hp,pSlots,hmv] at this
    refine R_mvc t [] q h3 ⟨fun z => by rw [ghd,List.append_nil];simp [sHd,hp],fun z hz => by rw [List.append_nil];exact gadm s0 t z hp hz,fun b' o' fl z _ h4 => ?_,fun b' z h4 => ?_,hblk',fun b' _ ms c _ h => hmp b' ms c h⟩ (AllR.mono (fun _ _ => False.elim) t h2) hrt
    ·rw [List.append_nil] at h4
     exact ⟨glbm b' o' fl s0 z _ h4 (by simp [sPhi,hp,hmv]),hcellr b' o' fl s0 z h4 (fun h5 => hs0r h5.1)⟩
    ·rw [List.append_nil] at h4
     exact gowm b' s0 z _ h4 (by simp [sPhi,hp,hmv])
   ·have hh:G'.hd r q = G.hd s0 []:=by have:=ghd [];rw [List.nil_append] at this;rw [this];simp [sHd,hp]
    cases t <;> simp [movedT] at hmv <;> simp only [R,Part.tree] at hrt ⊢ <;> rw [hh] <;> exact hrt
 have hvals:vals G' r p.tree q = pVals G p:=by
  cases hp:p with
  | zero u => exact vals_zero u q (hps.zero u (by simp [hp])) (fun z => by rw [ghd];simp [sHd,hp])
  | slot s0 t => exact vals_hd t [] q (fun z => by rw [ghd];simp [sHd,hp])
 have hlocu:∀ b' o',Loc G w r u0 q b' o' → Loc G' w' r p.tree q b' o':=by
  intro b' o' h1
  have h2:b' = b ∧ o' = ob:=by
   have:=(Loc_ad h1).symm.trans had
   simp at this
   exact this
  obtain ⟨rfl,rfl⟩:=h2
  refine Loc_sh p.tree u0 q b' o' hsh (fun y' h => gadf y' h) (fun b2 o2 y' h => glb b2 o2 false r _ h (hphir _)) (fun j v hv => ?_) h1
  rw [hvals] at hv
  have hj:=(List.getElem?_eq_some_iff.1 hv).1
  have hpl:(pVals G p).length = u0.size:=by rw [← hc,hcl]
  rw [hcellb,if_pos ⟨by omega,by omega⟩,show o' + j - o' = j from by omega]
  exact hv
 have hrset:R Γ.St G' w' r (tr.set q.reverse p.tree) []:=by
  have hrp:rp q.reverse [] = q:=by simp [rp]
  refine R_set q.reverse tr p.tree u0 [] (by rw [hrp];exact hupd) e4 hg hsu (AllR.mono (fun _ _ => False.elim) tr (htr .any).2) (by rw [hrp];exact hlocu) (by rw [hrp];exact hru)
 have hst:=run_storeCells_at P b ob et (a.eval y).cells.toList 0 cs w hblk (by omega) hone
 simp only [Nat.add_zero] at hst
 rw [hw'] at hst
 refine ⟨w',?_,G',rep_step hrep rfl hkeep hmem ?_ ?_⟩
 ·have hszv:(a.eval y).cells.size = ti.size:=by rw [hvs,hsz]
  simp [execOp,ho,hadr,had,Instr.storeAt,sureAddr_some,storeVar,sizeOf,typeInfo,hi,hszv,hst]
 ·intro s hs
  simp only [Wr.find] at hs
  split at hs
  ·cases hs
  ·rename_i hne
   refine ⟨fun n hn => ?_,rfl⟩
   simp only [List.mem_cons,Prod.mk.injEq] at hn
   rcases hn with ⟨h1,_⟩ | hn
   ·exact hne h1.symm
   ·cases p with
    | zero u => simp [pChg,pSlots] at hn
    | slot s0 t =>
     by_cases hmv:movedT t = true
     ·simp [pChg,pSlots,hmv] at hn
      simp [sWr,hmv,Wr.find,hn.1.symm] at hs
     ·simp [pChg,pSlots,hmv] at hn
 ·intro s t hs
  simp only [Wr.find] at hs
  split at hs
  ·rename_i he
   subst he
   simp at hs
   subst hs
   refine ⟨?_,hrset,Top.of_clean _ (set_clean _ _ _ (htr .any).2 ?_)⟩
   ·rw [e3,mkV_single (htr p.tree).1,mkV_single hrs]
    congr 1
    exact (ghd' r [] (fun h => hq0 (by simpa using h.2))).symm
   ·cases p with
    | zero u => exact (zOk_clean u (hps.zero u (by simp))).1
    | slot s0 t => exact (hps.slot s0 t (by simp)).2.1
  ·rename_i hne
   cases hp:p with
   | zero u => simp [sWr,hp,Wr.find] at hs
   | slot s0 t0 =>
    by_cases hmv:movedT t0 = true
    ·simp only [sWr,hp,hmv,if_true,Wr.find] at hs
     split at hs
     ·rename_i he
      subst he
      simp at hs
      subst hs
      obtain ⟨h1,h2,h3⟩:=hps.slot s0 t0 (by simp [hp])
      refine moved_ent' (G:=G) (hrep.ent s0 t0 h1).1 (by rintro xs rfl;simp [T.okTup] at h3) (fun z => ghd' s0 z (fun h => hne h.1.symm)) (fun z => by rw [ghd];simp [sHd,hp]) (by rw [hp] at hru;exact hru)
     ·cases hs
    ·simp [sWr,hp,hmv,Wr.find] at hs
theorem ok_store (T':TypeId) (ti:TypeInfo) (x y:Operand) (r:Nat) (q:List Nat) (tr u0:T) (p:Part) (ho:o.op = .store T' x y) (hdst:o.dst = none)
  (hi:P.info? T' = some ti) (hsz:ti.size = p.tree.size) (hpos:0 < ti.size) (hx:opT E x = some (.addr r q)) (hr:E r = some tr) (hrs:tr.single = true) (hg:tr.get q.reverse = some u0) (hl:tr.locd q.reverse = true)
  (hsh:sameFl p.tree u0 = true) (hy:PartOf E y p) (hps:PartsOk E r [p]) :
  OpOk P Γ o E (E.app ((r,some (tr.set q.reverse p.tree)) :: sWr r q p) ((r,q.length) :: pChg [p])) :=
 by grind[ok_storeA,AdrOf.addr]
end
end Go.Ab

namespace Go.Ab
open Go
section
variable {G G':Gh} {s:Nat}
theorem valsF_rest (xs:List T):∀ (p:List Nat) (j:Nat),(∀ k,j ≤ k → ∀ z,G'.hd s (z ++ (k :: p)) = G.hd s (z ++ (k :: p))) → valsF G' s xs p j = valsF G s xs p j:=by
 induction xs with
 | nil => grind[valsF]
 | cons z zs ih =>
  intro p j h
  simp only [valsF]
  rw [vals_hd z (j :: p) (j :: p) (h j (Nat.le_refl _)),ih p (j + 1) (by grind)]
theorem valsF_set (xs:List T):∀ (p:List Nat) (j i:Nat) (x y:T),xs[i]? = some x → (∀ k,k ≠ j + i → ∀ z,G'.hd s (z ++ (k :: p)) = G.hd s (z ++ (k :: p))) →
  vals G' s y ((j + i) :: p) = vals G s x ((j + i) :: p) → valsF G' s (xs.set i y) p j = valsF G s xs p j:=by
 induction xs with
 | nil => simp
 | cons z zs ih =>
  intro p j i x y h hz hy
  cases i with
  | zero =>
   grind[valsF,valsF_rest]
  | succ i =>
   simp only [List.set_cons_succ,valsF]
   rw [vals_hd z (j :: p) (j :: p) (hz j (by omega)),ih p (j + 1) i x y (by grind) (by grind) (by grind)]
theorem vals_set:(f:List Nat) → ∀ (t u u0:T) (p:List Nat),t.get f = some u0 → u0.single = true → u.single = true → (∀ z,(rp f p <:+ z → z = rp f p) → G'.hd s z = G.hd s z) → vals G' s (t.set f u) p = vals G s t p
 | [],t,u,u0,p,hg,h0,h1,hh => by
  simp [T.get] at hg;subst hg
  have:G'.hd s p = G.hd s p:=hh p (by simp [rp])
  simp only [T.set]
  cases t <;> simp [T.single] at h0 <;> cases u <;> simp [T.single] at h1 <;> simp [vals,this]
 | i :: f,t,u,u0,p,hg,h0,h1,hh => by
  rw [rp_cons] at hh
  have hp:G'.hd s p = G.hd s p:=by grind[suff_up]
  cases t with
  | agg xs =>
   simp only [T.get] at hg
   cases hx:xs[i]? with
   | none => grind
   | some x =>
    rw [hx] at hg
    simp only [T.set,hx,vals]
    refine valsF_set xs p 0 i x _ hx (by grind[suff_other]) ?_
    rw [Nat.zero_add]
    exact vals_set f x u u0 (i :: p) hg h0 h1 hh
  | tup xs =>
   grind[T.set,vals]
  | sl k xs => grind[T.set,vals]
  | ptr t => grind[T.set,vals]
  | _ => grind[T.get]
theorem mkV1_set (f:List Nat) (t u u0:T) (p:List Nat) (hg:t.get f = some u0) (h0:u0.single = true) (h1:u.single = true) (hh:∀ z,(rp f p <:+ z → z = rp f p) → G'.hd s z = G.hd s z) (hnt:∀ xs,t ≠ .tup xs) :
  mkV1 G' s (t.set f u) p = mkV1 G s t p:=by
 have h:=vals_set f t u u0 p hg h0 h1 hh
 cases f with
 | nil =>
  simp [T.get] at hg;subst hg
  have:G'.hd s p = G.hd s p:=hh p (by simp [rp])
  simp only [T.set]
  cases t <;> simp [T.single] at h0 <;> cases u <;> simp [T.single] at h1 <;> simp [mkV1,this]
 | cons i f =>
  rw [rp_cons] at hh
  have hp:G'.hd s p = G.hd s p:=by grind[suff_up]
  cases t with
  | agg xs =>
   grind[T.set,vals,mkV1]
  | tup xs => grind
  | sl k xs => grind[T.set,mkV1]
  | ptr t => grind[T.set,mkV1]
  | _ => grind[T.get]
theorem tupF_rest (xs:List T):∀ (p:List Nat) (j:Nat),(∀ k,j ≤ k → ∀ z,G'.hd s (z ++ (k :: p)) = G.hd s (z ++ (k :: p))) → tupF G' s xs p j = tupF G s xs p j:=by
 induction xs with
 | nil => grind[tupF]
 | cons z zs ih =>
  intro p j h
  simp only [tupF]
  rw [mkV1_hd z (j :: p) (j :: p) (h j (Nat.le_refl _)),ih p (j + 1) (by grind)]
theorem tupF_set (xs:List T):∀ (p:List Nat) (j i:Nat) (x y:T),xs[i]? = some x → (∀ k,k ≠ j + i → ∀ z,G'.hd s (z ++ (k :: p)) = G.hd s (z ++ (k :: p))) →
  mkV1 G' s y ((j + i) :: p) = mkV1 G s x ((j + i) :: p) → tupF G' s (xs.set i y) p j = tupF G s xs p j:=by
 induction xs with
 | nil => simp
 | cons z zs ih =>
  intro p j i x y h hz hy
  cases i with
  | zero =>
   grind[tupF,tupF_rest]
  | succ i =>
   simp only [List.set_cons_succ,tupF]
   rw [mkV1_hd z (j :: p) (j :: p) (hz j (by omega)),ih p (j + 1) i x y (by grind) (by grind) (by grind)]
def okTups1:T → Bool
 | .tup xs => xs.all fun x => match x with
  | .tup _ => false
  | _ => true
 | _ => true
theorem mkV_set (f:List Nat) (t u u0:T) (p:List Nat) (hg:t.get f = some u0) (h0:u0.single = true) (h1:u.single = true) (hh:∀ z,(rp f p <:+ z → z = rp f p) → G'.hd s z = G.hd s z) (hcomp:okTups1 t = true) :
  mkV G' s (t.set f u) p = mkV G s t p:=by
 by_cases ht:∃ xs,t = .tup xs
 ·obtain ⟨xs,rfl⟩:=ht
  cases f with
  | nil => grind[T.get,T.single]
  | cons i f =>
   rw [rp_cons] at hh
   simp only [T.get] at hg
   cases hx:xs[i]? with
   | none => grind
   | some x =>
    rw [hx] at hg
    simp only [T.set,hx,mkV]
    rw [tupF_set xs p 0 i x _ hx (fun k hk z => hh _ (fun h => absurd h (suff_other (by omega) z)))]
    rw [Nat.zero_add]
    refine mkV1_set f x u u0 (i :: p) hg h0 h1 hh ?_
    rintro ys rfl
    simp only [okTups1] at hcomp
    have:=List.all_eq_true.1 hcomp _ (List.mem_of_getElem? hx)
    grind
 ·have hnt:∀ xs,t ≠ .tup xs:=by grind
  rw [mkV_mkV1 G s t p hnt,← mkV1_set f t u u0 p hg h0 h1 hh hnt]
  refine mkV_mkV1 G' s _ p ?_
  rintro xs hxs
  cases f with
  | nil => grind[T.set,T.single]
  | cons i f => cases t <;> simp only [T.set] at hxs <;> first | grind | grind | cases hxs
end
theorem top_set:(f:List Nat) → ∀ (t u:T),Top t → Clean u → Top (t.set f u)
 | [],t,u,_,hu => by grind[T.set,Top.of_clean]
 | i :: f,t,u,ht,hu => by
  cases t with
  | sl k xs =>
   refine Top.of_clean _ (set_clean (i :: f) _ u (by simpa only [Top,Clean,AllR] using ht) hu)
  | ptr t => exact Top.of_clean _ (set_clean (i :: f) _ u (by simpa only [Top,Clean,AllR] using ht) hu)
  | agg xs =>
   simp only [T.set]
   split
   ·rename_i x hx
    simp only [Top] at ht ⊢
    exact tops_set xs i _ ht (top_set f x u (tops_get xs ht i x hx) hu)
   ·exact ht
  | tup xs =>
   simp only [T.set]
   split
   ·rename_i x hx
    simp only [Top] at ht ⊢
    exact tops_set xs i _ ht (top_set f x u (tops_get xs ht i x hx) hu)
   ·exact ht
  | _ => grind[T.set]
where
 tops_set:(xs:List T) → ∀ (i:Nat) (y:T),Tops xs → Top y → Tops (xs.set i y)
  | [],_,_,_,_ => by simp [Tops]
  | x :: xs,0,y,h,hy => by simp only [List.set_cons_zero,Tops] at h ⊢;grind
  | x :: xs,i + 1,y,h,hy => by simp only [List.set_cons_succ,Tops] at h ⊢;exact ⟨h.1,tops_set xs i y h.2 hy⟩
 tops_get:(xs:List T) → Tops xs → ∀ (i:Nat) (x:T),xs[i]? = some x → Top x
  | [],_,_,_,h => by simp at h
  | y :: ys,hk,i,x,h => by
   simp only [Tops] at hk
   cases i with
   | zero => grind
   | succ i => exact tops_get ys hk.2 i x (by grind)
def Gh.tr (G:Gh) (d:Nat) (g:List Nat) (r:Nat) (p:List Nat):Gh where
 hd s z:=if s = d ∧ g <:+ z then G.hd r (z.take (z.length - g.length) ++ p) else G.hd s z
 ad s z:=if s = d ∧ g <:+ z ∧ z ≠ g then G.ad r (z.take (z.length - g.length) ++ p) else G.ad s z
 lb b o:=match G.lb b o with
  | some (fl,s,z) => if s = r ∧ p <:+ z ∧ (fl = true ∨ z ≠ p) then some (fl,d,z.take (z.length - p.length) ++ g) else some (fl,s,z)
  | none => none
 ow b:=match G.ow b with
  | some (s,z) => if s = r ∧ p <:+ z then some (d,z.take (z.length - p.length) ++ g) else some (s,z)
  | none => none
theorem size_single {t:T} (h:t.single = true):t.size = 1:=by cases t <;> simp [T.single] at h <;> simp [T.size]
theorem rep_tr {Γ:Ctx} {E:Env} {G:Gh} {tmps:Array Value} {w:World} (hrep:Rep Γ E G tmps w) (d:Nat) (g:List Nat) (r:Nat) (p:List Nat) (td tr u v0:T) (hd:E d = some td) (hg:td.get g.reverse = some v0) (hv0:v0.single = true) (hsame:G.hd d g = G.hd r p) (hr:E r = some tr)
  (hp:tr.get p.reverse = some u) (hu:u.single = true) (huc:Clean u) (hdr:d ≠ r) (hok1:td.okB [(d,g.length + 1),(r,p.length + 1)] = true) (hok2:tr.okB [(d,g.length + 1),(r,p.length + 1)] = true) (hc1:okTups1 td = true) (hc2:okTups1 tr = true) :
  Rep Γ (E.app [(d,some (td.set g.reverse u)),(r,some (if p = [] then .same d g else tr.set p.reverse .any))] [(d,g.length + 1),(r,p.length + 1)]) (G.tr d g r p) tmps w ∧ ∀ s z,¬ (s = d ∧ g <:+ z ∧ z ≠ g) → (G.tr d g r p).hd s z = G.hd s z:=by
 obtain ⟨d1,d2,d3⟩:=hrep.ent d td hd
 obtain ⟨r1,r2,r3⟩:=hrep.ent r tr hr
 have hm:=hrep.mem
 have hru:=(R_get p.reverse tr u [] r2 hp).1
 simp only [rp,List.reverse_reverse,List.append_nil] at hru
 have hblk:Blk w w:=fun b cs e' h => ⟨cs,h,rfl⟩
 generalize hG':G.tr d g r p = G'
 have ghd:∀ z,G'.hd d (z ++ g) = G.hd r (z ++ p):=fun z => by rw [← hG'];simp [Gh.tr]
 have ghd0:∀ s z,¬ (s = d ∧ g <:+ z ∧ z ≠ g) → G'.hd s z = G.hd s z:=by
  intro s z h
  rw [← hG']
  simp only [Gh.tr]
  by_cases h2:s = d ∧ g <:+ z
  ·have h3:z = g:=by
    rcases Decidable.em (z = g) with e | e
    ·exact e
    ·exact absurd ⟨h2.1,h2.2,e⟩ h
   subst h3
   rw [if_pos h2,h2.1]
   simpa using hsame.symm
  ·rw [if_neg h2]
 have gad0:∀ s z,¬ (s = d ∧ g <:+ z ∧ z ≠ g) → G'.ad s z = G.ad s z:=fun s z h => by rw [← hG'];simp only [Gh.tr];rw [if_neg h]
 have gad:∀ z,z ≠ [] → G'.ad d (z ++ g) = G.ad r (z ++ p):=fun z h => by rw [← hG'];simp only [Gh.tr];rw [if_pos (by simpa using h)];simp
 have glb0:∀ b o fl s z,G.lb b o = some (fl,s,z) → ¬ (s = r ∧ p <:+ z ∧ (fl = true ∨ z ≠ p)) → G'.lb b o = some (fl,s,z):=fun b o fl s z h1 h2 => by
  rw [← hG'];simp only [Gh.tr,h1];rw [if_neg h2]
 have glb:∀ b o fl z,G.lb b o = some (fl,r,z ++ p) → (fl = true ∨ z ≠ []) → G'.lb b o = some (fl,d,z ++ g):=fun b o fl z h1 h2 => by
  rw [← hG'];simp only [Gh.tr,h1];rw [if_pos (by simpa using h2)];simp
 have gow0:∀ b s z,G.ow b = some (s,z) → ¬ (s = r ∧ p <:+ z) → G'.ow b = some (s,z):=fun b s z h1 h2 => by
  rw [← hG'];simp only [Gh.tr,h1];rw [if_neg h2]
 have gow:∀ b z,G.ow b = some (r,z ++ p) → G'.ow b = some (d,z ++ g):=fun b z h1 => by
  rw [← hG'];simp only [Gh.tr,h1];rw [if_pos (by simp)];simp
 have hoff:∀ s z,Off [(d,g.length + 1),(r,p.length + 1)] s z → ¬ (s = d ∧ g <:+ z ∧ z ≠ g):=by
  rintro s z h ⟨rfl,⟨y,rfl⟩,h3⟩
  have:=h (g.length + 1) (by simp)
  have:y = []:=List.eq_nil_of_length_eq_zero (by simp at this;omega)
  exact h3 (by simp [this])
 have hkeep:Keep [(d,g.length + 1),(r,p.length + 1)] G w G' w:=by
  refine ⟨fun s z h => ghd0 s z (hoff s z h),fun s z h => gad0 s z (hoff s z h),fun b o fl s z _ h1 h2 => ⟨glb0 b o fl s z h1 ?_,rfl⟩,fun b s z h1 h2 => gow0 b s z h1 ?_,hblk,by intros;assumption⟩
  ·rintro ⟨rfl,_⟩;exact h2 (p.length + 1) (by simp)
  ·rintro ⟨rfl,_⟩;exact h2 (p.length + 1) (by simp)
 have hmem:Mem Γ G' w:=by
  refine ⟨fun s z => ?_,fun b o l hl => ?_,fun b l hl => ?_,hm.st,hm.fr,hm.sz,hm.bk,hm.gl⟩
  ·rw [← hG']
   simp only [Gh.tr]
   split
   ·exact hm.one _ _
   ·exact hm.one _ _
  ·have:∃ l',G.lb b o = some l':=by
    rw [← hG'] at hl
    simp only [Gh.tr] at hl
    split at hl
    ·exact ⟨_,by assumption⟩
    ·cases hl
   obtain ⟨l',hl'⟩:=this
   exact hm.lb b o l' hl'
  ·have:∃ l',G.ow b = some l':=by
    rw [← hG'] at hl
    simp only [Gh.tr] at hl
    split at hl
    ·exact ⟨_,by assumption⟩
    ·cases hl
   obtain ⟨l',hl'⟩:=this
   exact hm.ow b l' hl'
 have hrp:∀ q:List Nat,rp q.reverse [] = q:=fun q => by simp [rp]
 have hud:R Γ.St G' w d u g:=by
  refine R_move0 (G:=G) (w:=w) (s:=r) (p:=p) ⟨⟨ghd,gad,fun b o f z hz _ hl => ⟨glb b o f z hl (.inr hz),rfl⟩,fun b z _ hl => gow b z hl,hblk,by intros;assumption⟩,fun b o _ hl => ⟨by simpa using glb b o true [] (by simpa using hl) (.inl rfl),rfl⟩,fun b hl => by simpa using gow b [] (by simpa using hl)⟩ u
   (AllR.mono (fun _ _ => False.elim) u huc) hru
 have hupdd:Upd G w G' w d g:=⟨fun z h => ghd0 d z (fun h2 => h h2.2.1),fun z h => gad0 d z (fun h2 => h h2.2.1),fun b o f z h1 _ => ⟨glb0 b o f d z h1 (fun h2 => hdr h2.1),rfl⟩,fun b z h1 _ => gow0 b d z h1 (fun h2 => hdr h2.1),hblk,by intros;assumption⟩
 have hlocd:∀ b o,Loc G w d v0 g b o → Loc G' w d u g b o:=by
  intro b o h1
  obtain ⟨h2,h3,h4⟩:=Loc_single hv0 h1
  have h5:G'.ad d g = ⟨b,o,none⟩ ∧ G'.lb b o = some (false,d,g) ∧ cellAt w b o = some (G'.hd d g):=⟨(gad0 d g (fun h => h.2.2 rfl)).trans h2,glb0 b o false d g h3 (fun h => hdr h.1),by rw [h4,ghd0 d g (fun h => h.2.2 rfl)]⟩
  cases u <;> simp [T.single] at hu <;> simpa only [Loc] using h5
 have hRd:R Γ.St G' w d (td.set g.reverse u) [] :=
  R_set g.reverse td u v0 [] (by rw [hrp];exact hupdd) d2 hg (by rw [size_single hv0,size_single hu]) (hkeep.keepR (okB_all td d3 hok1)) (by rw [hrp];exact hlocd) (by rw [hrp];exact hud)
 have hVd:mkV G' d (td.set g.reverse u) [] = mkV G d td [] :=
  mkV_set g.reverse td u v0 [] hg hv0 hu (fun z hz => ghd0 d z (fun h2 => h2.2.2 (by rw [hrp] at hz;exact hz h2.2.1))) hc1
 have hRr:p ≠ [] → R Γ.St G' w r (tr.set p.reverse .any) []:=by
  intro hp0
  refine R_set p.reverse tr .any u [] (by rw [hrp];exact ⟨fun z _ => ghd0 r z (fun h2 => hdr h2.1.symm),fun z _ => gad0 r z (fun h2 => hdr h2.1.symm),fun b o f z h1 h => ⟨glb0 b o f r z h1 (fun h2 => h h2.2.1),rfl⟩,fun b z h1 h => gow0 b r z h1 (fun h2 => h h2.2),hblk,by intros;assumption⟩) r2 hp (by cases u <;> simp [T.single] at hu <;> simp [T.size]) (hkeep.keepR (okB_all tr r3 hok2)) ?_ (by simp only [R])
  rw [hrp]
  intro b o h1
  obtain ⟨h2,h3,h4⟩:=Loc_single hu h1
  simp only [Loc]
  exact ⟨(gad0 r p (fun h => hdr h.1.symm)).trans h2,glb0 b o false r p h3 (by simp),by rw [h4,ghd0 r p (fun h => hdr h.1.symm)]⟩
 have hVr:p ≠ [] → mkV G' r (tr.set p.reverse .any) [] = mkV G r tr []:=fun _ =>
  mkV_set p.reverse tr .any u [] hp hu rfl (fun z _ => ghd0 r z (fun h2 => hdr h2.1.symm)) hc2
 refine ⟨rep_step hrep rfl hkeep hmem ?_ ?_,ghd0⟩
 ·intro s hs
  simp only [Wr.find] at hs
  split at hs
  ·cases hs
  ·rename_i h1
   split at hs
   ·cases hs
   ·rename_i h2
    refine ⟨fun n hn => ?_,rfl⟩
    simp only [List.mem_cons,Prod.mk.injEq,List.not_mem_nil,or_false] at hn
    rcases hn with ⟨e,_⟩ | ⟨e,_⟩
    ·exact h1 e.symm
    ·exact h2 e.symm
 ·intro s t hs
  simp only [Wr.find] at hs
  split at hs
  ·rename_i he
   subst he
   simp at hs
   subst hs
   exact ⟨by rw [d1,hVd],hRd,top_set _ _ _ d3 huc⟩
  ·split at hs
   ·rename_i he
    subst he
    simp at hs
    by_cases hp0:p = []
    ·rw [if_pos hp0] at hs
     subst hs
     subst hp0
     simp [T.get] at hp
     subst hp
     refine ⟨?_,?_,by simp [Top]⟩
     ·rw [r1,mkV_single hu,mkV_single rfl,ghd0 r [] (fun h => hdr h.1.symm)]
     ·simp only [R]
      rw [ghd0 r [] (fun h => hdr h.1.symm)]
      have:=ghd []
      simpa using this.symm
    ·rw [if_neg hp0] at hs
     subst hs
     exact ⟨by rw [r1,hVr hp0],hRr hp0,top_set _ _ _ r3 (by simp [Clean,AllR])⟩
   ·cases hs
theorem sim_tr {Γ:Ctx} {E:Env} {a:Act} {w:World} (h:Sim Γ E a w) (d:Nat) (g:List Nat) (r:Nat) (p:List Nat) (td tr u:T) (hd:E d = some td) (hg:td.get g.reverse = some (.same r p)) (hr:E r = some tr)
  (hp:tr.get p.reverse = some u) (hu:u.single = true) (huc:Clean u) (hdr:d ≠ r) (hok1:td.okB [(d,g.length + 1),(r,p.length + 1)] = true) (hok2:tr.okB [(d,g.length + 1),(r,p.length + 1)] = true) (hc1:okTups1 td = true) (hc2:okTups1 tr = true) :
  Sim Γ (E.app [(d,some (td.set g.reverse u)),(r,some (if p = [] then .same d g else tr.set p.reverse .any))] [(d,g.length + 1),(r,p.length + 1)]) a w:=by
 obtain ⟨hdf,G,hrep⟩:=h
 have hsame:=(R_get g.reverse td _ [] (hrep.ent d td hd).2.1 hg).1
 simp only [rp,List.reverse_reverse,List.append_nil,R] at hsame
 exact ⟨hdf,_,(rep_tr hrep d g r p td tr u _ hd hg rfl hsame hr hp hu huc hdr hok1 hok2 hc1 hc2).1⟩
end Go.Ab

namespace Go.Ab
open Go
theorem RL_of2 {St:Stb} {G:Gh} {w:World} {s:Nat} {k:Nat}:(xs:List T) → ∀ (p:List Nat) (j b o:Nat),(∀ i x,xs[i]? = some x → Loc G w s x ((j + i) :: p) b (o + i * k) ∧ x.size = k ∧ R St G w s x ((j + i) :: p)) → RL St G w s xs p j b o k
 | [],_,_,_,_,_ => by simp only [RL]
 | x :: xs,p,j,b,o,h => by
  obtain ⟨h1,h2,h3⟩:=h 0 x (by simp)
  simp only [RL]
  refine ⟨⟨by simpa using h1,h2⟩,by simpa using h3,RL_of2 xs p (j + 1) b (o + k) (fun i y hy => ?_)⟩
  have:=h (i + 1) y (by simpa using hy)
  rwa [show j + (i + 1) = j + 1 + i from by omega,show o + (i + 1) * k = o + k + i * k from by rw [Nat.succ_mul];omega] at this
theorem LocF_of_RL {St:Stb} {G:Gh} {w:World} {s:Nat} {k:Nat}:(xs:List T) → ∀ (p:List Nat) (j b o:Nat),RL St G w s xs p j b o k → LocF G w s xs p j b o
 | [],_,_,_,_,_ => by simp only [LocF]
 | x :: xs,p,j,b,o,h => by
  simp only [RL] at h
  simp only [LocF]
  exact ⟨h.1.1,LocF_of_RL xs p (j + 1) b (o + x.size) (by rw [h.1.2];exact h.2.2)⟩
theorem RF_of_RL {St:Stb} {G:Gh} {w:World} {s:Nat} {k:Nat}:(xs:List T) → ∀ (p:List Nat) (j b o:Nat),RL St G w s xs p j b o k → RF St G w s xs p j ∧ ∀ x ∈ xs,x.size = k
 | [],_,_,_,_,_ => by simp [RF]
 | x :: xs,p,j,b,o,h => by
  simp only [RL] at h
  obtain ⟨h1,h2⟩:=RF_of_RL xs p (j + 1) b (o + k) h.2.2
  exact ⟨by simp only [RF];exact ⟨h.2.1,h1⟩,fun y hy => by rcases List.mem_cons.1 hy with rfl | hy;exact h.1.2;exact h2 y hy⟩
section
variable {G:Gh} {w:World} {G':Gh} {w':World} {s s':Nat}
mutual
theorem Loc_full:(t:T) → ∀ (p p':List Nat) (b o:Nat),(∀ z,G'.hd s' (z ++ p') = G.hd s (z ++ p)) → (∀ z,G'.ad s' (z ++ p') = G.ad s (z ++ p)) →
  (∀ b o z,G.lb b o = some (false,s,z ++ p) → G'.lb b o = some (false,s',z ++ p') ∧ cellAt w' b o = cellAt w b o) → Loc G w s t p b o → Loc G' w' s' t p' b o
 | .agg xs,p,p',b,o,hh,ha,hl,h => by
  simp only [Loc] at h ⊢
  exact ⟨by have:=ha [];simp at this;rw [this];exact h.1,LocF_full xs p p' 0 b o hh ha hl h.2⟩
 | .any,p,p',b,o,hh,ha,hl,h | .lit _,p,p',b,o,hh,ha,hl,h | .ro _,p,p',b,o,hh,ha,hl,h | .same _ _,p,p',b,o,hh,ha,hl,h | .addr _ _,p,p',b,o,hh,ha,hl,h | .sub _ _ _ _ _,p,p',b,o,hh,ha,hl,h | .sl _ _,p,p',b,o,hh,ha,hl,h | .ptr _,p,p',b,o,hh,ha,hl,h | .mp _ _,p,p',b,o,hh,ha,hl,h => by
  simp only [Loc] at h ⊢
  have h1:=hl b o [] (by simpa using h.2.1)
  have h2:=ha []
  have h3:=hh []
  simp only [List.nil_append] at h1 h2 h3
  exact ⟨h2.trans h.1,h1.1,by rw [h1.2,h.2.2,h3]⟩
 | .tup _,_,_,_,_,_,_,_,h => by simp only [Loc] at h
theorem LocF_full:(xs:List T) → ∀ (p p':List Nat) (j b o:Nat),(∀ z,G'.hd s' (z ++ p') = G.hd s (z ++ p)) → (∀ z,G'.ad s' (z ++ p') = G.ad s (z ++ p)) →
  (∀ b o z,G.lb b o = some (false,s,z ++ p) → G'.lb b o = some (false,s',z ++ p') ∧ cellAt w' b o = cellAt w b o) → LocF G w s xs p j b o → LocF G' w' s' xs p' j b o
 | [],_,_,_,_,_,_,_,_,_ => by simp only [LocF]
 | x :: xs,p,p',j,b,o,hh,ha,hl,h => by
  simp only [LocF] at h ⊢
  exact ⟨Loc_full x (j :: p) (j :: p') b o (fun z => by have:=hh (z ++ [j]);simpa using this) (fun z => by have:=ha (z ++ [j]);simpa using this) (fun b o z hz => by have:=hl b o (z ++ [j]) (by simpa using hz);simpa using this) h.1,
   LocF_full xs p p' (j + 1) b _ hh ha hl h.2⟩
end
end
theorem valsF_append (G:Gh) (s:Nat):∀ (xs us:List T) (p:List Nat) (j:Nat),valsF G s (xs ++ us) p j = valsF G s xs p j ++ valsF G s us p (j + xs.length)
 | [],us,p,j => by simp [valsF]
 | x :: xs,us,p,j => by simp [valsF,valsF_append G s xs us p (j + 1),Nat.add_assoc,Nat.add_comm 1]
theorem sizes_append:∀ (xs us:List T),T.sizes (xs ++ us) = T.sizes xs + T.sizes us
 | [],us => by simp [T.sizes]
 | x :: xs,us => by simp [T.sizes,sizes_append xs us,Nat.add_assoc]
theorem okTups_append:∀ (xs us:List T),okTups xs = true → okTups us = true → okTups (xs ++ us) = true
 | [],us,_,h => h
 | x :: xs,us,h,h' => by
  simp only [okTups,Bool.and_eq_true,List.cons_append] at h ⊢
  exact ⟨h.1,okTups_append xs us h.2 h'⟩
theorem Cleans_append:∀ (xs us:List T),Cleans xs → Cleans us → Cleans (xs ++ us)
 | [],us,_,h => h
 | x :: xs,us,h,h' => by
  simp only [Cleans,AllRs,List.cons_append] at h ⊢
  exact ⟨h.1,Cleans_append xs us h.2 h'⟩
theorem okTups_of_loc {St:Stb} {G:Gh} {w:World} {s:Nat} {k:Nat}:(xs:List T) → ∀ (p:List Nat) (j b o:Nat),LocF G w s xs p j b o → okTups xs = true
 | [],_,_,_,_,_ => rfl
 | x :: xs,p,j,b,o,h => by
  simp only [LocF] at h
  simp only [okTups,Bool.and_eq_true]
  exact ⟨one x (j :: p) b o h.1,okTups_of_loc (St:=St) (k:=k) xs p (j + 1) b _ h.2⟩
where
 one:(t:T) → ∀ (p:List Nat) (b o:Nat),Loc G w s t p b o → t.okTup = true
  | .agg xs,p,b,o,h => by simp only [Loc] at h;simp only [T.okTup];exact okTups_of_loc (St:=St) (k:=k) xs p 0 b o h.2
  | .tup _,_,_,_,h => by simp only [Loc] at h
  | .any,_,_,_,_ | .lit _,_,_,_,_ | .ro _,_,_,_,_ | .same _ _,_,_,_,_ | .addr _ _,_,_,_,_ | .sub _ _ _ _ _,_,_,_,_ | .sl _ _,_,_,_,_ | .ptr _,_,_,_,_ | .mp _ _,_,_,_,_ => rfl
section
variable {P:Program}
structure AppArg (P:Program) (t2:TypeId) (e:TypeId) (ti:TypeInfo) (xv:Value) (m:Nat) (nv:List Value) (w:World):Prop where
 arg:(∃ e2 xa c,P.underlying t2 = some (.slice e2) ∧ xv = .slice xa m c ∧ ∀ w2:World,w2.heap = w.heap → (Builtin.firstCells ti.size m (.slice xa m c)).run P w2 = .ok nv.toArray w2) ∨
  ∃ k2 k3 z,P.underlying t2 = some (.int k2) ∧ xv = .int k3 (m:Int) ∧ ti.zero = some z ∧ nv.toArray = Builtin.zeroCells z.cells m ∧ m * ti.bytes ≤ 2 ^ 47 ∧ z.cells.size = ti.size
theorem run_app_room {t t2 ty e:TypeId} {ti:TypeInfo} {xv:Value} {m:Nat} {nv:List Value} {w w':World} (ht:P.underlying t = some (.slice e)) (hi:P.info? e = some ti)
  (hx:AppArg P t2 e ti xv m nv w) (hm:m ≤ 68719476736) {base:Option Addr} {n cap:Nat} (hroom:n + m ≤ cap)
  (hst:(if let some a:=base then storeCells (a.add (n * ti.size)) nv else pure ():Sem Unit).run P w = .ok () w') :
  (Builtin.append_ #[t,t2] ty #[.slice base n cap,xv]).run P w = .ok (.slice base (n + m) cap) w':=by
 rcases hx.arg with ⟨e2,xa,c,h1,rfl,h2⟩ | ⟨k2,k3,z,h1,rfl,h2,h3,h4,h5⟩
 ·have h2:=h2 w rfl
  cases base with
  | none =>
   simp at hst
   subst hst
   simp [Builtin.append_,run_underlying ht,run_underlying h1,sizeOf,typeInfo,hi,Builtin.lenOf,hroom,h2]
  | some a =>
   simp only at hst
   simp [Builtin.append_,run_underlying ht,run_underlying h1,sizeOf,typeInfo,hi,Builtin.lenOf,hroom,h2,hst]
 ·have hwr:IntKind.i64.wrap (m:Int) = m:=by rw [IntKind.wrap_i64];omega
  have h48:¬ (281474976710656 < (m:Int) * (ti.bytes:Int)):=by
   have:((m * ti.bytes:Nat):Int) ≤ 2 ^ 47:=by exact_mod_cast h4
   rw [Int.natCast_mul] at this
   omega
  have hneg:¬ ((m:Int) < 0):=by omega
  have hnv:nv = (Builtin.zeroCells z.cells m).toList:=by rw [← h3]
  by_cases hz:m * ti.size = 0
  ·have hnv0:nv = []:=by
    apply List.eq_nil_of_length_eq_zero
    rw [hnv];simp [Builtin.zeroCells,h5,hz]
   subst hnv0
   cases base with
   | none =>
    simp at hst
    subst hst
    simp [Builtin.append_,run_underlying ht,run_underlying h1,sizeOf,typeInfo,hi,asInt,asIntOf,hwr,h48,hneg,hroom,hz]
   | some a =>
    simp only [storeCells,Sem.run_pure] at hst
    cases hst
    simp [Builtin.append_,run_underlying ht,run_underlying h1,sizeOf,typeInfo,hi,asInt,asIntOf,hwr,h48,hneg,hroom,hz,storeCells]
  ·cases base with
   | none =>
    simp at hst
    subst hst
    simp [Builtin.append_,run_underlying ht,run_underlying h1,sizeOf,typeInfo,zeroValue,hi,h2,asInt,asIntOf,hwr,h48,hneg,hroom]
   | some a =>
    simp only [hnv] at hst
    simp [Builtin.append_,run_underlying ht,run_underlying h1,sizeOf,typeInfo,zeroValue,hi,h2,asInt,asIntOf,hwr,h48,hneg,hroom,hz,hst]
theorem run_app_grow {t t2 ty e:TypeId} {ti:TypeInfo} {z xv:Value} {m:Nat} {nv olds:List Value} {w:World} (ht:P.underlying t = some (.slice e)) (hi:P.info? e = some ti) (hz:ti.zero = some z)
  (hx:AppArg P t2 e ti xv m nv w) {base:Option Addr} {n cap:Nat} (hgrow:cap < n + m) (hnm:n + m ≤ 68719476736) (hb:ti.bytes ≤ 2048)
  (hold:∀ w2:World,w2.heap = w.heap → (Builtin.firstCells ti.size n (.slice base n cap)).run P w2 = .ok olds.toArray w2) :
  (Builtin.append_ #[t,t2] ty #[.slice base n cap,xv]).run P w = .ok (.slice (some ⟨w.heap.size,0,none⟩) (n + m) (grownCap w (n + m) cap e))
    (w.drew.alloc (.cells ((olds ++ nv).toArray ++ Builtin.zeroCells z.cells (grownCap w (n + m) cap e - (n + m))) e)):=by
 have hn:¬ (n + m ≤ cap):=by omega
 have h63':¬ (9223372036854775807 < ((n:Int) + (m:Int))):=by omega
 have hfit:=growslice_fits (need:=n + m) (old:=cap) (bytes:=ti.bytes) hgrow (Nat.le_trans (Nat.mul_le_mul hnm hb) (by decide))
 have h48':¬ (281474976710656 < Builtin.nextslicecap (n + m) cap * ti.bytes):=by omega
 have ho:=hold w.drew rfl
 rcases hx.arg with ⟨e2,xa,c,h1,rfl,h2⟩ | ⟨k2,k3,z',h1,rfl,h2,h3,h4,h5⟩
 ·have h2:=h2 w.drew rfl
  simp [Builtin.append_,run_underlying ht,run_underlying h1,sizeOf,typeInfo,zeroValue,hi,hz,Builtin.lenOf,hn,h63',h48',Question.forced,h2,ho,newRow,grownCap]
  congr 2
  apply Array.ext'
  simp
 ·have hwr:IntKind.i64.wrap (m:Int) = m:=by rw [IntKind.wrap_i64];omega
  have h48:¬ (281474976710656 < (m:Int) * (ti.bytes:Int)):=by
   have:((m * ti.bytes:Nat):Int) ≤ 2 ^ 47:=by exact_mod_cast h4
   rw [Int.natCast_mul] at this
   omega
  have hneg:¬ ((m:Int) < 0):=by omega
  have hnv:nv = (Builtin.zeroCells z'.cells m).toList:=by rw [← h3]
  rw [hz] at h2
  simp at h2
  subst h2
  by_cases hz0:m * ti.size = 0
  ·have hnv0:nv = []:=by
    apply List.eq_nil_of_length_eq_zero
    rw [hnv];simp [Builtin.zeroCells,h5,hz0]
   subst hnv0
   simp [Builtin.append_,run_underlying ht,run_underlying h1,sizeOf,typeInfo,zeroValue,hi,hz,asInt,asIntOf,hwr,h48,hneg,hn,h63',h48',Question.forced,hz0,ho,newRow,grownCap]
  ·simp [Builtin.append_,run_underlying ht,run_underlying h1,sizeOf,typeInfo,zeroValue,hi,hz,asInt,asIntOf,hwr,h48,hneg,hn,h63',h48',Question.forced,hz0,ho,newRow,grownCap,← h3]
   congr 2
   apply Array.ext'
   simp
end
def aPhi (s0:Nat) (y:Option Nat) (n:Nat) (s:Nat) (z:List Nat):Option (List Nat) :=
 if s = s0 then some z else if y = some s then (match z.getLast? with
  | some j => some (z.dropLast ++ [n + j])
  | none => none) else none
def Gh.ip (G:Gh) (d s0:Nat) (y:Option Nat) (b n k oa:Nat) (us:List T) (f2:Nat → List Nat → Value) (hdr:Value):Gh where
 hd s z:=if s = d then (match z.getLast? with
  | some i => if i < n then G.hd s0 z else f2 (i - n) z.dropLast
  | none => hdr) else G.hd s z
 ad s z:=if s = d then (match z.getLast? with
  | some i => if i < n then G.ad s0 z else if (T.agg us).inT ((i - n) :: z.dropLast.reverse) then ⟨b,oa + (T.agg us).offT ((i - n) :: z.dropLast.reverse),none⟩ else (match y with
   | some y => G.ad y (z.dropLast ++ [i - n])
   | none => default)
  | none => default) else G.ad s z
 lb b' o:=if b' = b ∧ oa ≤ o ∧ o < oa + us.length * k then (match leafF us [] n (o - oa) with
  | some p => some (false,d,p)
  | none => none) else match G.lb b' o with
  | some (fl,s,z) => (match aPhi s0 y n s z with
   | some z' => some (fl,d,z')
   | none => some (fl,s,z))
  | none => none
 ow b':=match G.ow b' with
  | some (s,z) => (match aPhi s0 y n s z with
   | some z' => some (d,z')
   | none => some (s,z))
  | none => none
def aWr (d s0:Nat) (y:Option Nat) (k:Nat) (ts:List T):Wr:=(d,some (.sl k ts)) :: (s0,some .any) :: (match y with
 | some y => [(y,some .any)]
 | none => [])
def aChg (d s0:Nat) (y:Option Nat):Chg:=(d,0) :: (s0,1) :: (match y with
 | some y => [(y,1)]
 | none => [])
structure NewEls (Γ:Ctx) (E:Env) (G:Gh) (d s0:Nat) (y:Option Nat) (k n:Nat) (us:List T) (f2:Nat → List Nat → Value) (nv:List Value):Prop where
 size:∀ u ∈ us,u.size = k
 tup:okTups us = true
 clean:Cleans us
 one:∀ j z,(f2 j z).oneCell' = true
 len:nv.length = us.length * k
 slot:∀ y',y = some y' → y' ≠ d ∧ y' ≠ s0 ∧ E y' = some (.sl k us) ∧ ∀ j z,f2 j z = G.hd y' (z ++ [j])
 none:y = none → ∀ (j:Nat) u,us[j]? = some u → ∀ (G2:Gh) (w2:World),(∀ z,G2.hd d (z ++ [n + j]) = f2 j z) → R Γ.St G2 w2 d u [n + j]
 vals:∀ (G2:Gh),(∀ j z,G2.hd d (z ++ [n + j]) = f2 j z) → ∀ (o:Nat) (v:Value),(valsF G2 d us [] n)[o]? = some v → nv[o]? = some v
theorem valsF_eq {G G2:Gh} {s d:Nat}:(xs:List T) → ∀ (p:List Nat) (j:Nat),(∀ i,i < xs.length → ∀ z,G2.hd d (z ++ ((j + i) :: p)) = G.hd s (z ++ ((j + i) :: p))) → valsF G2 d xs p j = valsF G s xs p j
 | [],_,_,_ => by simp only [valsF]
 | x :: xs,p,j,h => by
  simp only [valsF]
  have ih:valsF G2 d xs p (j + 1) = valsF G s xs p (j + 1):=valsF_eq xs p (j + 1) (fun i hi z => by
   rw [show j + 1 + i = j + (i + 1) from by omega]
   exact h (i + 1) (by simpa using hi) z)
  rw [vals_hd x (j :: p) (j :: p) (by simpa using h 0 (by simp)),ih]
theorem getLast_cases (z:List Nat):z = [] ∨ ∃ y i,z = y ++ [i]:=by
 rcases List.eq_nil_or_concat z with h | ⟨y,i,h⟩
 ·exact .inl h
 ·exact .inr ⟨y,i,by simpa using h⟩
section
variable {P:Program} {Γ:Ctx} {E:Env} {d:Nat}
theorem rep_append {G:Gh} {a:Act} {w:World} (hrep:Rep Γ E G a.tmps w) (hd:d < Γ.N) {t t2 ty e:TypeId} {ti:TypeInfo} {z:Value} {k:Nat} (ht:P.underlying t = some (.slice e)) (hi:P.info? e = some ti) (hz:ti.zero = some z)
  (hk:ti.size = k) (_hk0:0 < k) (hzk:z.cells.size = k) (hb:ti.bytes ≤ 2048) {s0:Nat} {y:Option Nat} {xs us:List T} {f2:Nat → List Nat → Value} {nv:List Value} (hs0:E s0 = some (.sl k xs)) (hs0d:s0 ≠ d)
  (hn:NewEls Γ E G d s0 y k xs.length us f2 nv) {xv:Value} (hx:AppArg P t2 e ti xv us.length nv w) (hone:∀ v ∈ nv,v.oneCell' = true) (hnm:xs.length + us.length ≤ 68719476736) :
  ∃ v w',(Builtin.append_ #[t,t2] ty #[G.hd s0 [],xv]).run P w = .ok v w' ∧ ∃ G',Rep Γ (E.app (aWr d s0 y k (xs ++ us)) (aChg d s0 y)) G' (a.tmps.setIfInBounds d v) w':=by
 have hm:=hrep.mem
 obtain ⟨e1,e2,e3⟩:=hrep.ent s0 _ hs0
 simp only [Top] at e3
 simp only [R] at e2
 have hsz_us:T.sizes us = us.length * k:=sizes_uniform us hn.size
 have fin:∀ (G':Gh) (w':World) (v:Value),Keep (aChg d s0 y) G w G' w' → Mem Γ G' w' → G'.hd d [] = v → R Γ.St G' w' d (.sl k (xs ++ us)) [] → (∀ s p,s ≠ d → G'.hd s p = G.hd s p) →
   Rep Γ (E.app (aWr d s0 y k (xs ++ us)) (aChg d s0 y)) G' (a.tmps.setIfInBounds d v) w':=by
  intro G' w' v hkeep hmem hdv hRd hother
  refine rep_step hrep (by simp) hkeep hmem ?_ ?_
  ·intro s hs
   have hne:s ≠ d:=by rintro rfl;simp [aWr,Wr.find] at hs
   have hne0:s ≠ s0:=by rintro rfl;simp [aWr,Wr.find,hne.symm] at hs
   have hney:∀ y',y = some y' → s ≠ y':=by
    rintro y' rfl rfl
    simp [aWr,Wr.find,hne.symm,hne0.symm] at hs
   refine ⟨fun n' hn' => ?_,by rw [Array.getElem?_setIfInBounds];simp [hne.symm]⟩
   simp only [aChg,List.mem_cons,Prod.mk.injEq] at hn'
   rcases hn' with ⟨h1,_⟩ | ⟨h1,_⟩ | hn'
   ·exact hne h1
   ·exact hne0 h1
   ·cases y with
    | none => simp at hn'
    | some y' => simp at hn';exact hney y' rfl hn'.1
  ·intro s t' hs
   by_cases h1:s = d
   ·subst h1
    simp [aWr,Wr.find] at hs
    subst hs
    refine ⟨?_,hRd,by simp only [Top];exact Cleans_append xs us e3 hn.clean⟩
    rw [Array.getElem?_setIfInBounds]
    simp [hrep.size,hd,mkV,hdv]
   ·have h3:t' = .any ∧ (s = s0 ∨ y = some s):=by
     simp only [aWr,Wr.find] at hs
     rw [if_neg (fun h => h1 h.symm)] at hs
     split at hs
     ·rename_i h2;simp at hs;exact ⟨hs.symm,.inl h2.symm⟩
     ·cases y with
      | none => simp [Wr.find] at hs
      | some y' =>
       simp only [Wr.find] at hs
       split at hs
       ·rename_i h2;simp at hs;exact ⟨hs.symm,.inr (by rw [h2])⟩
       ·cases hs
    obtain ⟨rfl,h3⟩:=h3
    refine ⟨?_,by simp only [R],by simp [Top]⟩
    rw [Array.getElem?_setIfInBounds]
    simp only [Ne.symm h1,if_false,mkV]
    rw [hother s [] h1]
    rcases h3 with rfl | h3
    ·exact e1
    ·obtain ⟨_,_,h4,_⟩:=hn.slot s h3
     exact (hrep.ent s _ h4).1
 have hphi0:∀ s p,(∀ n',(s,n') ∉ aChg d s0 y) → aPhi s0 y xs.length s p = none:=by
  intro s p h
  have h1:s ≠ s0:=fun e => h 1 (by simp [aChg,e])
  have h2:y ≠ some s:=fun e => h 1 (by simp [aChg,e])
  simp [aPhi,h1,h2]
 by_cases hroom:∃ a' c,G.hd s0 [] = .slice a' xs.length c ∧ xs.length + us.length ≤ c
 ·
  obtain ⟨a',c,hh,hroom⟩:=hroom
  rcases e2 with ⟨rfl,a1,h1⟩ | ⟨b,o0,cap,cs,et,h1,h2,h3,h4,h5,h6,h7,h8⟩
  ·rw [h1] at hh
   simp at hh
   obtain ⟨rfl,rfl⟩:=hh
   have hus:us = []:=List.eq_nil_of_length_eq_zero (by simp only [List.length_nil] at hroom;omega)
   subst hus
   have hnv:nv = []:=List.eq_nil_of_length_eq_zero (by have:=hn.len;simp at this;simp [this])
   subst hnv
   have hrun:=run_app_room (P:=P) (t:=t) (ty:=ty) (w':=w) ht hi hx (by simp) (base:=a1) (n:=0) (cap:=0) (by simp) (by cases a1 <;> rfl)
   refine ⟨.slice a1 0 0,w,by rw [h1];exact hrun,G.put d (fun _ => .slice a1 0 0),fin _ w _ ?_ (hm.put rfl d _ (fun _ => rfl)) (by rw [Gh.put_self]) (by simp [R,Gh.put]) (fun s p h => G.put_other _ p h)⟩
   have:=G.put_keep (w:=w) (w':=w) rfl d (fun _ => .slice a1 0 0)
   exact ⟨fun s p h => this.hd s p (fun n hn => h n (by simp at hn;simp [aChg,hn])),fun s p h => this.ad s p (fun n hn => h n (by simp at hn;simp [aChg,hn])),fun b o f s p h0 h1 h2 => this.lb b o f s p h0 h1 (fun n hn => h2 n (by simp at hn;simp [aChg,hn])),fun b s p h1 h2 => this.ow b s p h1 (fun n hn => h2 n (by simp at hn;simp [aChg,hn])),this.blk,by intros;assumption⟩
  ·rw [h1] at hh
   simp at hh
   obtain ⟨rfl,rfl⟩:=hh
   have hmk0:us.length * k + xs.length * k ≤ cap * k:=by rw [← Nat.add_mul];exact Nat.mul_le_mul_right _ (by omega)
   have hoa2:∀ o,o0 + (xs.length * k + us.length * k) ≤ o → o0 + xs.length * k ≤ o:=fun o h => by omega
   generalize hoa:o0 + xs.length * k = oa at h7 hoa2
   have hmk':oa + us.length * k ≤ o0 + cap * k:=by omega
   have hmk:us.length * k + oa ≤ cs.size:=by omega
   generalize hw':w.setRow b (cs.toList.take (oa) ++ nv ++ cs.toList.drop (oa + nv.length)).toArray = w'
   have hnew:w'.heap[b]? = some (.cells (cs.toList.take (oa) ++ nv ++ cs.toList.drop (oa + nv.length)).toArray et (0,0)):=by rw [← hw'];exact setRow_heap w b cs _ et _ h2
   have hold:∀ b',b' ≠ b → w'.heap[b']? = w.heap[b']?:=fun b' h => by rw [← hw'];exact setRow_other w b b' _ h
   have hsize:w'.heap.size = w.heap.size:=by rw [← hw'];exact size_setRow w b _
   have hcsl:cs.toList.length = cs.size:=Array.length_toList ..
   have hnl:=hn.len
   have hcellb:∀ i,cellAt w' b i = if oa ≤ i ∧ i < oa + us.length * k then nv[i - oa]? else cellAt w b i:=by
    intro i
    simp only [cellAt,World.cell?,hnew,h2,Option.isSome_none,Bool.false_eq_true,if_false]
    rw [← Array.getElem?_toList,← Array.getElem?_toList (xs:=cs)]
    simp only []
    by_cases g1:i < oa
    ·rw [if_neg (by omega),List.append_assoc,List.getElem?_append_left (by simp;omega),List.getElem?_take_of_lt g1]
    ·by_cases g2:i < oa + us.length * k
     ·rw [if_pos ⟨by omega,g2⟩,List.append_assoc,List.getElem?_append_right (by simp;omega),List.getElem?_append_left (by simp;omega)]
      congr 1;simp;omega
     ·rw [if_neg (by omega),List.append_assoc,List.getElem?_append_right (by simp;omega),List.getElem?_append_right (by simp;omega),List.getElem?_drop]
      congr 1;simp;omega
   have hin:∀ b' o fl s p,G.lb b' o = some (fl,s,p) → (fl,s,p) ≠ (true,s0,[]) → ¬ (b' = b ∧ oa ≤ o ∧ o < oa + us.length * k):=by
    rintro b' o fl s p g1 g2 ⟨rfl,g3,g4⟩
    rw [h7 o g3 (by omega)] at g1
    simp at g1
    exact g2 (by simp [← g1.1,← g1.2.1,← g1.2.2])
   have hcell:∀ b' o,¬ (b' = b ∧ oa ≤ o ∧ o < oa + us.length * k) → cellAt w' b' o = cellAt w b' o:=by
    intro b' o g
    by_cases hb':b' = b
    ·subst hb'
     rw [hcellb,if_neg (fun g2 => g ⟨rfl,g2⟩)]
    ·simp [cellAt,World.cell?,hold b' hb']
   have hnewsz:((cs.toList.take (oa) ++ nv ++ cs.toList.drop (oa + nv.length)).toArray).size = cs.size:=by simp;omega
   have hmp:∀ (b':Nat) (ms:Obj) (_:ms.nocell = true),w.heap[b']? = some ms → w'.heap[b']? = some ms:=fun b' ms c g => by
    by_cases e:b' = b
    ·subst e
     rw [h2] at g
     cases g;cases c
    ·rw [hold b' e];exact g
   have hblk':Blk w w':=by
    intro b' cs' e' g1
    by_cases hb':b' = b
    ·subst hb'
     rw [h2] at g1
     simp at g1
     obtain ⟨rfl,rfl⟩:=g1
     exact ⟨_,hnew,hnewsz⟩
    ·exact ⟨cs',by rw [hold b' hb'];exact g1,rfl⟩
   generalize hG':G.ip d s0 y b xs.length k oa us f2 (.slice (some ⟨b,o0,none⟩) (xs.length + us.length) cap) = G'
   have ghdr:G'.hd d [] = .slice (some ⟨b,o0,none⟩) (xs.length + us.length) cap:=by rw [← hG'];simp [Gh.ip]
   have ghd1:∀ i z,i < xs.length → G'.hd d (z ++ [i]) = G.hd s0 (z ++ [i]):=fun i z g => by rw [← hG'];simp [Gh.ip,g]
   have ghd2:∀ j z,G'.hd d (z ++ [xs.length + j]) = f2 j z:=fun j z => by rw [← hG'];simp [Gh.ip,show ¬ xs.length + j < xs.length from by omega]
   have ghd0:∀ s z,s ≠ d → G'.hd s z = G.hd s z:=fun s z g => by rw [← hG'];simp [Gh.ip,g]
   have gad0:∀ s z,s ≠ d → G'.ad s z = G.ad s z:=fun s z g => by rw [← hG'];simp [Gh.ip,g]
   have gad1:∀ i z,i < xs.length → G'.ad d (z ++ [i]) = G.ad s0 (z ++ [i]):=fun i z g => by rw [← hG'];simp [Gh.ip,g]
   have gad2:∀ j f,(T.agg us).inT (j :: f) = true → G'.ad d (f.reverse ++ [xs.length + j]) = ⟨b,oa + (T.agg us).offT (j :: f),none⟩:=fun j f g => by rw [← hG'];simp [Gh.ip,g,show ¬ xs.length + j < xs.length from by omega]
   have gad3:∀ y' j z,y = some y' → (T.agg us).inT (j :: z.reverse) = false → G'.ad d (z ++ [xs.length + j]) = G.ad y' (z ++ [j]):=fun y' j z g1 g2 => by rw [← hG'];simp [Gh.ip,g1,g2,show ¬ xs.length + j < xs.length from by omega]
   have glb2:∀ i p,i < us.length * k → leafF us [] xs.length i = some p → G'.lb b (oa + i) = some (false,d,p):=fun i p g1 g2 => by
    rw [← hG'];simp only [Gh.ip];rw [if_pos (by simp;omega),show oa + i - oa = i from by omega,g2]
   have glb0:∀ b' o fl s p,G.lb b' o = some (fl,s,p) → ¬ (b' = b ∧ oa ≤ o ∧ o < oa + us.length * k) → aPhi s0 y xs.length s p = none → G'.lb b' o = some (fl,s,p):=fun b' o fl s p g1 g2 g3 => by
    rw [← hG'];simp only [Gh.ip];rw [if_neg g2,g1];simp [g3]
   have glb1:∀ b' o fl s p p',G.lb b' o = some (fl,s,p) → ¬ (b' = b ∧ oa ≤ o ∧ o < oa + us.length * k) → aPhi s0 y xs.length s p = some p' → G'.lb b' o = some (fl,d,p'):=fun b' o fl s p p' g1 g2 g3 => by
    rw [← hG'];simp only [Gh.ip];rw [if_neg g2,g1];simp [g3]
   have gow0:∀ b' s p,G.ow b' = some (s,p) → aPhi s0 y xs.length s p = none → G'.ow b' = some (s,p):=fun b' s p g1 g2 => by rw [← hG'];simp [Gh.ip,g1,g2]
   have gow1:∀ b' s p p',G.ow b' = some (s,p) → aPhi s0 y xs.length s p = some p' → G'.ow b' = some (d,p'):=fun b' s p p' g1 g2 => by rw [← hG'];simp [Gh.ip,g1,g2]
   have hphis:∀ p,aPhi s0 y xs.length s0 p = some p:=fun p => by simp [aPhi]
   have hphiy:∀ y' z j,y = some y' → y' ≠ s0 → aPhi s0 y xs.length y' (z ++ [j]) = some (z ++ [xs.length + j]):=fun y' z j g1 g2 => by simp [aPhi,g1,g2]
   have hne:∀ s p,Off (aChg d s0 y) s p → s ≠ d:=fun s p h e => absurd (h 0 (by simp [aChg,e])) (by simp)
   have hkeep:Keep (aChg d s0 y) G w G' w':=by
    refine ⟨fun s p h => ghd0 s p (hne s p h),fun s p h => gad0 s p (hne s p h),fun b' o fl s p _ g1 g2 => ?_,fun b' s p g1 g2 => gow0 b' s p g1 (hphi0 s p g2),hblk',fun b' _ _ ms c _ _ g => hmp b' ms c g⟩
    have hs:s ≠ s0:=fun e => g2 1 (by simp [aChg,e])
    have g3:=hin b' o fl s p g1 (by simp [hs])
    exact ⟨glb0 b' o fl s p g1 g3 (hphi0 s p g2),hcell b' o g3⟩
   have hBb:=hm.ow b _ h6
   have hmem:Mem Γ G' w':=by
    refine ⟨fun s z => ?_,fun b' o' l hl => ?_,fun b' l hl => ?_,fun b' x' hx' => ?_,fun b' g1 g2 => ?_,by rw [hsize];exact hm.sz,hm.bk.trans hblk' (by rw [← hw'];rfl) (by rw [← hw'];rfl),hm.gl⟩
    ·by_cases g:s = d
     ·subst g
      rcases getLast_cases z with rfl | ⟨z',i,rfl⟩
      ·rw [ghdr];rfl
      ·by_cases g1:i < xs.length
       ·rw [ghd1 i z' g1];exact hm.one _ _
       ·have:=ghd2 (i - xs.length) z'
        rw [show xs.length + (i - xs.length) = i from by omega] at this
        rw [this];exact hn.one _ _
     ·rw [ghd0 s z g];exact hm.one _ _
    ·have:BlkOk Γ w b':=by
      rw [← hG'] at hl
      simp only [Gh.ip] at hl
      split at hl
      ·rename_i g;rw [g.1];exact hBb
      ·split at hl
       ·rename_i g;exact hm.lb _ _ _ g
       ·cases hl
     exact ⟨by rw [hsize];exact this.1,this.2⟩
    ·have:BlkOk Γ w b':=by
      rw [← hG'] at hl
      simp only [Gh.ip] at hl
      split at hl
      ·rename_i g;exact hm.ow _ _ g
      ·cases hl
     exact ⟨by rw [hsize];exact this.1,this.2⟩
    ·have hb':b' ≠ b:=by rintro rfl;rw [hBb.2.2] at hx';cases hx'
     rw [hold b' hb'];exact hm.st b' x' hx'
    ·have hb':b' ≠ b:=by
      rintro rfl
      rcases hBb.2.1 with g3 | g3
      ·omega
      ·exact g2 g3
     rw [hold b' hb'];exact hm.fr b' g1 g2
   have hlocus:LocF G' w' d us [] xs.length b (oa):=by
    refine LocF_mk us [] xs.length b (oa) hn.tup (fun i x hx' f hf => ?_) (fun i p' g1 g2 => glb2 i p' (by omega) g2) (fun i v hv => ?_)
    ·have:=gad2 i f (by simp only [T.inT,hx'];exact hf)
     simpa [T.offT,hx'] using this
    ·have g1:=hn.vals G' ghd2 i v hv
     have g2:=(List.getElem?_eq_some_iff.1 g1).1
     rw [hcellb,if_pos ⟨by omega,by omega⟩,show oa + i - oa = i from by omega]
     exact g1
   have hRd:R Γ.St G' w' d (.sl k (xs ++ us)) []:=by
    simp only [R]
    rw [ghdr]
    refine .inr ⟨b,o0,cap,_,et,by simp,hnew,by simp;omega,h4,by rw [hnewsz];exact h5,gow1 b s0 [] [] h6 (hphis []),?_,RL_of2 _ _ _ _ _ (fun i x hx' => ?_)⟩
    ·intro o g1 g2
     rw [List.length_append,Nat.add_mul] at g1
     exact glb1 b o true s0 [] [] (h7 o (by omega) g2) (by omega) (hphis [])
    ·rw [List.getElem?_append] at hx'
     simp only [Nat.zero_add]
     split at hx'
     ·rename_i hlt
      obtain ⟨g1,g2,g3⟩:=RL_get xs [] 0 b o0 k i x h8 hx'
      simp only [Nat.zero_add] at g1 g3
      have hl1:∀ b' o fl z,G.lb b' o = some (fl,s0,z ++ [i]) → G'.lb b' o = some (fl,d,z ++ [i]) ∧ cellAt w' b' o = cellAt w b' o:=fun b' o fl z g => by
       have g4:=hin b' o fl s0 _ g (by simp)
       exact ⟨glb1 b' o fl s0 _ _ g g4 (hphis _),hcell b' o g4⟩
      refine ⟨Loc_full x [i] [i] b _ (fun z => ghd1 i z hlt) (fun z => gad1 i z hlt) (fun b' o z g => hl1 b' o false z g) g1,g2,?_⟩
      refine R_move0 (G:=G) (w:=w) (s:=s0) (p:=[i]) ⟨⟨fun z => ghd1 i z hlt,fun z _ => gad1 i z hlt,fun b' o f z _ _ g => hl1 b' o f z g,fun b' z _ g => gow1 b' s0 _ _ g (hphis _),hblk',fun b' _ ms c _ g => hmp b' ms c g⟩,fun b' o _ g => ?_,fun b' g => gow1 b' s0 _ _ g (hphis _)⟩ x (AllR.mono (fun _ _ => False.elim) x (AllRs_get xs e3 i x hx')) g3
      have:=hl1 b' o true [] (by simpa using g)
      simpa using this
     ·rename_i hge
      obtain ⟨j,rfl⟩:∃ j,i = xs.length + j:=⟨i - xs.length,by omega⟩
      rw [show xs.length + j - xs.length = j from by omega] at hx'
      have g1:=LocF_off us [] xs.length b (oa) j x hlocus hx'
      rw [show T.sizes (us.take j) = j * k from by
       rw [sizes_uniform _ (fun u hu => hn.size u (List.mem_of_mem_take hu)),List.length_take,Nat.min_eq_left (by have:=(List.getElem?_eq_some_iff.1 hx').1;omega)],show oa + j * k = o0 + (xs.length + j) * k from by rw [Nat.add_mul];omega] at g1
      refine ⟨g1,hn.size x (List.mem_of_getElem? hx'),?_⟩
      cases hy:y with
      | none => exact hn.none hy j x hx' G' w' (fun z => ghd2 j z)
      | some y' =>
       obtain ⟨y1,y2,y3,y4⟩:=hn.slot y' hy
       obtain ⟨_,y5,_⟩:=hrep.ent y' _ y3
       simp only [R] at y5
       rcases y5 with ⟨rfl,_⟩ | ⟨b2,o2,cap2,cs2,et2,_,_,_,_,_,_,_,y6⟩
       ·simp at hx'
       ·obtain ⟨_,_,y7⟩:=RL_get us [] 0 b2 o2 k j x y6 hx'
        simp only [Nat.zero_add] at y7
        refine R_mvc x [j] [xs.length + j] (new_block.okTups_get us hn.tup j x hx') ⟨fun z => by rw [ghd2,y4],fun z g => gad3 y' j z hy (by simp only [T.inT,hx'];exact g),fun b' o fl z _ g => ?_,fun b' z g => gow1 b' y' _ _ g (hphiy y' z j hy y2),hblk',fun b' _ ms c _ g => hmp b' ms c g⟩ (AllR.mono (fun _ _ => False.elim) x (AllRs_get us hn.clean j x hx')) y7
        have g4:=hin b' o fl y' _ g (by simp [y2])
        exact ⟨glb1 b' o fl y' _ _ g g4 (hphiy y' z j hy y2),hcell b' o g4⟩
   have hst:=run_storeCells_at P b (oa) et nv 0 cs w h2 (by omega) hone
   simp only [Nat.add_zero] at hst
   rw [hw'] at hst
   have hrun:=run_app_room (P:=P) (t:=t) (ty:=ty) (w':=w') ht hi hx (by omega) (base:=some ⟨b,o0,none⟩) hroom (by simp only [hk,add_off,hoa];exact hst)
   refine ⟨_,w',by rw [h1];exact hrun,G',fin G' w' _ hkeep hmem ghdr hRd ghd0⟩
 ·
  have hbase:∃ a' c,G.hd s0 [] = .slice a' xs.length c ∧ ∀ w2:World,w2.heap = w.heap → (Builtin.firstCells ti.size xs.length (.slice a' xs.length c)).run P w2 = .ok (valsF G s0 xs [] 0).toArray w2:=by
   rcases e2 with ⟨rfl,a1,h1⟩ | ⟨b,o0,cap,cs,et,h1,h2,h3,h4,h5,h6,h7,h8⟩
   ·exact ⟨a1,0,h1,fun w2 _ => by cases a1 <;> simp [Builtin.firstCells,loadCells,loadCellsFrom,valsF]⟩
   ·refine ⟨_,_,h1,fun w2 hw2 => ?_⟩
    have hl:=LocF_of_RL xs [] 0 b o0 h8
    refine run_firstCells_some (P:=P) w2 ti.size xs.length ⟨b,o0,none⟩ _ _ _ ?_ (fun j v hv => ?_)
    ·rw [valsF_length,hk]
     exact sizes_uniform xs (RF_of_RL xs [] 0 b o0 h8).2
    ·have:=LocF_vals xs [] 0 b o0 hl j v hv
     rw [add_off]
     simp only [cellAt] at this
     simpa [World.cell?,hw2] using this
  obtain ⟨a',c,hh,hold⟩:=hbase
  have hxs:okTups xs = true ∧ (∀ x ∈ xs,x.size = k) ∧ ∀ i x,xs[i]? = some x → R Γ.St G w s0 x [i]:=by
   rcases e2 with ⟨rfl,a1,h1⟩ | ⟨b,o0,cap,cs,et,h1,h2,h3,h4,h5,h6,h7,h8⟩
   ·simp [okTups]
   ·refine ⟨okTups_of_loc (St:=Γ.St) (k:=k) xs [] 0 b o0 (LocF_of_RL xs [] 0 b o0 h8),(RF_of_RL xs [] 0 b o0 h8).2,fun i x hx' => ?_⟩
    have:=(RL_get xs [] 0 b o0 k i x h8 hx').2.2
    simpa using this
  have hgrow:c < xs.length + us.length:=by
   rcases Nat.lt_or_ge c (xs.length + us.length) with g | g
   ·exact g
   ·exact absurd ⟨a',c,hh,g⟩ hroom
  have hrun:=run_app_grow (P:=P) (t:=t) (ty:=ty) ht hi hz hx hgrow hnm hb hold
  have hge:=grownCap_ge w (xs.length + us.length) c e
  have hcm:=grownCap_le_maxLen w (xs.length + us.length) c e (by simp only [maxLen];omega)
  generalize grownCap w (xs.length + us.length) c e = cap' at hrun hge hcm
  generalize hw':w.drew.alloc (.cells ((valsF G s0 xs [] 0 ++ nv).toArray ++ Builtin.zeroCells z.cells (cap' - (xs.length + us.length))) e) = w' at hrun
  have hwh:w'.heap = w.heap.push (.cells ((valsF G s0 xs [] 0 ++ nv).toArray ++ Builtin.zeroCells z.cells (cap' - (xs.length + us.length))) e):=by rw [← hw'];rfl
  have hszxs:T.sizes xs = xs.length * k:=sizes_uniform xs hxs.2.1
  obtain ⟨g1,g2,g3,g4,g5⟩:=new_block hm hwh d (xs ++ us) (fun i => if i < xs.length then some (s0,[i]) else y.map fun y' => (y',[i - xs.length])) (aPhi s0 y xs.length) (fun i z => if i < xs.length then G.hd s0 (z ++ [i]) else f2 (i - xs.length) z) (.slice (some ⟨w.heap.size,0,none⟩) (xs.length + us.length) cap') ((aChg d s0 y).tail)
   (okTups_append xs us hxs.1 hn.tup) (fun i z => by split;exact hm.one _ _;exact hn.one _ _) rfl
   (fun i u x q z' hu hs => by
    split at hs
    ·simp at hs;obtain ⟨rfl,rfl⟩:=hs;simp [aPhi]
    ·rename_i hge'
     cases y with
     | none => simp at hs
     | some y' =>
      simp at hs;obtain ⟨rfl,rfl⟩:=hs
      have:=(hn.slot y' rfl).2.1
      simp [aPhi,this,show xs.length + (i - xs.length) = i from by omega])
   (fun i u x q hu hs => by
    rw [List.getElem?_append] at hu
    split at hs
    ·rename_i hlt
     rw [if_pos hlt] at hu
     simp at hs;obtain ⟨rfl,rfl⟩:=hs
     exact ⟨fun z' => by simp [hlt],hxs.2.2 i u hu,AllRs_get xs e3 i u hu,hs0d⟩
    ·rename_i hge'
     rw [if_neg hge'] at hu
     cases hy:y with
     | none => rw [hy] at hs;simp at hs
     | some y' =>
      rw [hy] at hs
      simp at hs;obtain ⟨rfl,rfl⟩:=hs
      obtain ⟨y1,y2,y3,y4⟩:=hn.slot y' hy
      obtain ⟨_,y5,_⟩:=hrep.ent y' _ y3
      simp only [R] at y5
      refine ⟨fun z' => by simp [hge',y4],?_,AllRs_get us hn.clean _ u hu,y1⟩
      rcases y5 with ⟨rfl,_⟩ | ⟨b2,o2,cap2,cs2,et2,_,_,_,_,_,_,_,y6⟩
      ·simp at hu
      ·have:=(RL_get us [] 0 b2 o2 k _ u y6 hu).2.2
       simpa using this)
   (fun i u hu hs G2 w2 hG2 => by
    rw [List.getElem?_append] at hu
    split at hs
    ·cases hs
    ·rename_i hge'
     rw [if_neg hge'] at hu
     cases hy:y with
     | some y' => rw [hy] at hs;simp at hs
     | none =>
      have:=hn.none hy (i - xs.length) u hu G2 w2 (fun z' => by rw [show xs.length + (i - xs.length) = i from by omega,hG2,if_neg hge'])
      rwa [show xs.length + (i - xs.length) = i from by omega] at this)
   (fun G2 hG2 o v hv => by
    rw [valsF_append,Nat.zero_add] at hv
    have h1:valsF G2 d xs [] 0 = valsF G s0 xs [] 0:=valsF_eq xs [] 0 (fun i hi' z' => by rw [Nat.zero_add,hG2,if_pos hi'])
    rw [h1] at hv
    have hl1:(valsF G s0 xs [] 0).length = xs.length * k:=by rw [valsF_length,hszxs]
    have hl2:(valsF G2 d us [] xs.length).length = us.length * k:=by rw [valsF_length,hsz_us]
    have ho:o < xs.length * k + us.length * k:=by
     have:=(List.getElem?_eq_some_iff.1 hv).1
     rw [List.length_append] at this;omega
    have hnl:=hn.len
    rw [Array.getElem?_append_left (by simp;omega),List.getElem?_toArray]
    rw [List.getElem?_append] at hv ⊢
    split at hv
    ·rename_i hlt;rw [if_pos hlt];exact hv
    ·rename_i hge';rw [if_neg hge']
     exact hn.vals G2 (fun j z' => by rw [hG2,if_neg (by omega),show xs.length + j - xs.length = j from by omega]) _ v hv)
   (fun s p h => hphi0 s p (by simpa [aChg] using h)) (ho:=by rw [← hw'];rfl) (hq:=by rw [← hw'];rfl)
  refine ⟨_,w',by rw [hh];exact hrun,_,fin _ w' _ (by simpa [aChg] using g1) g2 (by simp [Gh.nb]) ?_ (fun s p h => by simp [Gh.nb,h])⟩
  simp only [R]
  refine .inr ⟨w.heap.size,0,cap',_,e,by simp [Gh.nb],g5,by simpa using hge,hcm,?_,by simp [Gh.nb],?_,RL_of _ _ _ _ _ (fun x hx' => ?_) g3 g4⟩
  ·have hl1:(valsF G s0 xs [] 0).length = xs.length * k:=by rw [valsF_length,hszxs]
   have hnl:=hn.len
   simp only [Array.size_append,List.size_toArray,List.length_append,size_zeroCells,hzk,hl1,hnl,← Nat.add_mul]
   rw [Nat.zero_add];exact Nat.mul_le_mul_right _ (by omega)
  ·intro o ho _
   rw [List.length_append,Nat.add_mul] at ho
   simp [Gh.nb,leafF_none (xs ++ us) [] 0 o (by rw [sizes_append];omega)]
  ·rcases List.mem_append.1 hx' with h | h
   ·exact hxs.2.1 x h
   ·exact hn.size x h
end
end Go.Ab

namespace Go.Ab
open Go
mutual
def T.flat:T → Bool
 | .lit _ | .ro _ => true
 | .agg xs => flats xs
 | .any | .same _ _ | .addr _ _ | .sub _ _ _ _ _ | .sl _ _ | .ptr _ | .mp _ _ | .tup _ => false
def flats:List T → Bool
 | [] => true
 | x :: xs => x.flat && flats xs
end
section
variable {St:Stb} {G G2:Gh} {w w2:World} {s d:Nat}
mutual
theorem R_flat:(t:T) → ∀ (p p':List Nat),t.flat = true → (∀ z,G2.hd d (z ++ p') = G.hd s (z ++ p)) → R St G w s t p → R St G2 w2 d t p'
 | .lit _,p,p',_,h,hr => by
  have:=h [];simp only [List.nil_append] at this
  simp only [R] at hr ⊢;rw [this];exact hr
 | .ro _,p,p',_,h,hr => by
  have:=h [];simp only [List.nil_append] at this
  simp only [R] at hr ⊢;rw [this];exact hr
 | .agg xs,p,p',hf,h,hr => by simp only [R,T.flat] at hr hf ⊢;exact RF_flat xs p p' 0 hf h hr
 | .any,_,_,hf,_,_ | .same _ _,_,_,hf,_,_ | .addr _ _,_,_,hf,_,_ | .sub _ _ _ _ _,_,_,hf,_,_ | .sl _ _,_,_,hf,_,_ | .ptr _,_,_,hf,_,_ | .mp _ _,_,_,hf,_,_ | .tup _,_,_,hf,_,_ => by simp [T.flat] at hf
theorem RF_flat:(xs:List T) → ∀ (p p':List Nat) (j:Nat),flats xs = true → (∀ z,G2.hd d (z ++ p') = G.hd s (z ++ p)) → RF St G w s xs p j → RF St G2 w2 d xs p' j
 | [],_,_,_,_,_,_ => by simp only [RF]
 | x :: xs,p,p',j,hf,h,hr => by
  simp only [RF,flats,Bool.and_eq_true] at hr hf ⊢
  exact ⟨R_flat x (j :: p) (j :: p') hf.1 (fun z => by have:=h (z ++ [j]);simpa using this) hr.1,RF_flat xs p p' (j + 1) hf.2 h hr.2⟩
end
end
mutual
theorem flat_clean:(t:T) → t.flat = true → Clean t ∧ t.okTup = true
 | .lit _,_ | .ro _,_ => by simp [Clean,AllR,T.okTup]
 | .agg xs,h => by simp only [T.flat] at h;simpa only [Clean,AllR,T.okTup] using flats_clean xs h
 | .any,h | .same _ _,h | .addr _ _,h | .sub _ _ _ _ _,h | .sl _ _,h | .ptr _,h | .mp _ _,h | .tup _,h => by simp [T.flat] at h
theorem flats_clean:(xs:List T) → flats xs = true → Cleans xs ∧ okTups xs = true
 | [],_ => by simp [Cleans,AllRs,okTups]
 | x :: xs,h => by
  simp only [flats,Bool.and_eq_true] at h
  simp only [Cleans,AllRs,okTups,Bool.and_eq_true]
  exact ⟨⟨(flat_clean x h.1).1,(flats_clean xs h.2).1⟩,(flat_clean x h.1).2,(flats_clean xs h.2).2⟩
end
theorem flats_get:(xs:List T) → flats xs = true → ∀ (i:Nat) (x:T),xs[i]? = some x → x.flat = true
 | [],_,_,_,h => by simp at h
 | y :: ys,hk,i,x,h => by
  simp only [flats,Bool.and_eq_true] at hk
  cases i with
  | zero => simp at h;subst h;exact hk.1
  | succ i => exact flats_get ys hk.2 i x (by simpa using h)
mutual
def RoOk:T → Bool
 | .lit _ => true
 | .sl _ xs => RoOks xs
 | .agg xs => RoOks xs
 | .ptr t => RoOk t
 | .any | .ro _ | .same _ _ | .addr _ _ | .sub _ _ _ _ _ | .tup _ | .mp _ _ => false
def RoOks:List T → Bool
 | [] => true
 | x :: xs => RoOk x && RoOks xs
end
theorem RoOk_tup:(ys:List T) → RoOks ys = true → ∀ u ∈ ys,∀ xs,u ≠ .tup xs
 | [],_,_,h,_ => by simp at h
 | y :: ys,hr,u,h,xs => by
  simp only [RoOks,Bool.and_eq_true] at hr
  rcases List.mem_cons.1 h with rfl | h
  ·rintro rfl;simp [RoOk] at hr
  ·exact RoOk_tup ys hr.2 u h xs
theorem roTs_length:(ys:List T) → (roT.roTs ys).length = ys.length
 | [] => rfl
 | y :: ys => by simp [roT.roTs,roTs_length ys]
theorem roTs_sizes {k:Nat}:(ys:List T) → (∀ u ∈ ys,u.size = k) → (∀ u ∈ ys,∀ xs,u ≠ .tup xs) → ∀ u ∈ roT.roTs ys,u.size = k
 | [],_,_,u,h => by simp [roT.roTs] at h
 | y :: ys,h1,h2,u,h => by
  simp only [roT.roTs,List.mem_cons] at h
  rcases h with rfl | h
  ·rw [size_roT y (h2 y (by simp))];exact h1 y (by simp)
  ·exact roTs_sizes ys (fun v hv => h1 v (by simp [hv])) (fun v hv => h2 v (by simp [hv])) u h
theorem roTs_get:(ys:List T) → ∀ (j:Nat) (u:T),(roT.roTs ys)[j]? = some u → ∃ u0,ys[j]? = some u0 ∧ u = roT u0
 | [],_,_,h => by simp [roT.roTs] at h
 | y :: ys,j,u,h => by
  cases j with
  | zero => simp [roT.roTs] at h;exact ⟨y,by simp,h.symm⟩
  | succ j =>
   obtain ⟨u0,h1,h2⟩:=roTs_get ys j u (by simpa [roT.roTs] using h)
   exact ⟨u0,by simpa using h1,h2⟩
theorem ro_vals {St:Stb} {G2:Gh} {d:Nat}:(ys:List T) → ∀ (cs':Array Value) (o' k n:Nat),RoL St ys cs' o' k → (∀ u ∈ ys,u.size = k) → (∀ j u,ys[j]? = some u → ∀ z',G2.hd d (z' ++ [n + j]) = oneV (roHd u cs' (o' + j * k) z'.reverse)) →
  ∀ (i:Nat) (v:Value),(valsF G2 d (roT.roTs ys) [] n)[i]? = some v → cs'[o' + i]? = some v
 | [],_,_,_,_,_,_,_,i,v,hv => by simp [roT.roTs,valsF] at hv
 | y :: ys,cs',o',k,n,h,hs,hd,i,v,hv => by
  simp only [RoL] at h
  simp only [roT.roTs,valsF] at hv
  have hnt:∀ xs,y ≠ .tup xs:=by rintro xs rfl;simp only [RoC] at h;exact h.1
  have hnt':∀ xs,roT y ≠ .tup xs:=fun xs e => by cases y <;> simp [roT] at e
  have hl:(vals G2 d (roT y) [n]).length = k:=by rw [vals_length _ _ hnt',size_roT y hnt,hs y (by simp)]
  rw [List.getElem?_append] at hv
  split at hv
  ·exact vals_roT y cs' o' [n] (fun z' => by simpa using hd 0 y (by simp) z') h.1 i v hv
  ·have:=ro_vals ys cs' (o' + k) k (n + 1) h.2 (fun u hu => hs u (by simp [hu])) (fun j u hu z' => by
    have:=hd (j + 1) u (by simpa using hu) z'
    rwa [show n + (j + 1) = n + 1 + j from by omega,show o' + (j + 1) * k = o' + k + j * k from by rw [Nat.succ_mul];omega] at this) _ v hv
   rwa [hl,show o' + k + (i - k) = o' + i from by omega] at this
mutual
theorem vals_one' {G:Gh} (hg:∀ s z,(G.hd s z).oneCell' = true) {s:Nat}:(t:T) → ∀ (p:List Nat) (v:Value),v ∈ vals G s t p → v.oneCell' = true
 | .agg xs,p,v,h => by simp only [vals] at h;exact valsF_one' hg xs p 0 v h
 | .any,p,v,h | .lit _,p,v,h | .ro _,p,v,h | .same _ _,p,v,h | .addr _ _,p,v,h | .sub _ _ _ _ _,p,v,h | .sl _ _,p,v,h | .ptr _,p,v,h | .mp _ _,p,v,h | .tup _,p,v,h => by
  simp only [vals,List.mem_singleton] at h;rw [h];exact hg s p
theorem valsF_one' {G:Gh} (hg:∀ s z,(G.hd s z).oneCell' = true) {s:Nat}:(xs:List T) → ∀ (p:List Nat) (j:Nat) (v:Value),v ∈ valsF G s xs p j → v.oneCell' = true
 | [],_,_,_,h => by simp [valsF] at h
 | x :: xs,p,j,v,h => by
  simp only [valsF,List.mem_append] at h
  rcases h with h | h
  ·exact vals_one' hg x _ v h
  ·exact valsF_one' hg xs p _ v h
end
theorem valsF_shift {G G2:Gh} {s d:Nat}:(us:List T) → ∀ (n j:Nat),(∀ i z,G2.hd d (z ++ [n + i]) = G.hd s (z ++ [j + i])) → valsF G2 d us [] n = valsF G s us [] j
 | [],_,_,_ => by simp only [valsF]
 | x :: xs,n,j,h => by
  have ih:valsF G2 d xs [] (n + 1) = valsF G s xs [] (j + 1):=valsF_shift xs (n + 1) (j + 1) (fun i z => by
   rw [show n + 1 + i = n + (i + 1) from by omega,show j + 1 + i = j + (i + 1) from by omega];exact h (i + 1) z)
  simp only [valsF]
  rw [ih,vals_hd x [j] [n] (by simpa using h 0)]
theorem valsF_shift2 {G G2:Gh} {s d:Nat}:(us:List T) → ∀ (n j:Nat) (q:List Nat),(∀ i z,G2.hd d (z ++ [n + i]) = G.hd s (z ++ ((j + i) :: q))) → valsF G2 d us [] n = valsF G s us q j
 | [],_,_,_,_ => by simp only [valsF]
 | x :: xs,n,j,q,h => by
  have ih:valsF G2 d xs [] (n + 1) = valsF G s xs q (j + 1):=valsF_shift2 xs (n + 1) (j + 1) q (fun i z => by
   rw [show n + 1 + i = n + (i + 1) from by omega,show j + 1 + i = j + (i + 1) from by omega];exact h (i + 1) z)
  simp only [valsF]
  rw [ih,vals_hd x (j :: q) [n] (by simpa using h 0)]
section
variable {P:Program} {Γ:Ctx} {E:Env} {o:Oper} {d:Nat}
theorem load_sl {St:Stb} {G:Gh} {w:World} {r:Nat} {q:List Nat} {k:Nat} {us:List T} (h:R St G w r (.sl k us) q) {size:Nat} (hk:size = k) :
  ∃ xa c,G.hd r q = .slice xa us.length c ∧ ∀ w2:World,w2.heap = w.heap → (Builtin.firstCells size us.length (.slice xa us.length c)).run P w2 = .ok (valsF G r us q 0).toArray w2:=by
 simp only [R] at h
 rcases h with ⟨rfl,a1,h1⟩ | ⟨b,o0,cap,cs,et,h1,h2,h3,h4,h5,h6,h7,h8⟩
 ·exact ⟨a1,0,h1,fun w2 _ => by cases a1 <;> simp [Builtin.firstCells,loadCells,loadCellsFrom,valsF]⟩
 ·refine ⟨_,_,h1,fun w2 hw2 => ?_⟩
  have hl:=LocF_of_RL us q 0 b o0 h8
  refine run_firstCells_some (P:=P) w2 size us.length ⟨b,o0,none⟩ _ _ _ ?_ (fun j v hv => ?_)
  ·rw [valsF_length,hk]
   exact sizes_uniform us (RF_of_RL us q 0 b o0 h8).2
  ·have:=LocF_vals us q 0 b o0 hl j v hv
   rw [add_off]
   simp only [cellAt] at this
   simpa [World.cell?,hw2] using this
theorem eval_root {G:Gh} {a:Act} {w:World} (hrep:Rep Γ E G a.tmps w) {s:Nat} {t:T} (h:E s = some t) (ht:t.single = true):a.eval (.tmp s) = G.hd s []:=by
 rw [eval_tmp (hrep.ent s t h).1,mkV_single ht]
theorem ok_append_mv (t e:TypeId) (ti:TypeInfo) (z:Value) (k s0 y:Nat) (xs us:List T) (ho:o.op = .call { callee:=.builtin .append,args:=#[.tmp s0,.tmp y],argTypes:=#[t,t] }) (hdst:o.dst = some d) (hd:d < Γ.N)
  (ht:P.underlying t = some (.slice e)) (hi:P.info? e = some ti) (hz:ti.zero = some z) (hk:ti.size = k) (hk0:0 < k) (hzk:z.cells.size = k) (hb:ti.bytes ≤ 2048)
  (hs0:E s0 = some (.sl k xs)) (hy:E y = some (.sl k us)) (hs0d:s0 ≠ d) (hyd:y ≠ d) (hys:y ≠ s0) (hnm:xs.length + us.length ≤ 68719476736) :
  OpOk P Γ o E (E.app (aWr d s0 (some y) k (xs ++ us)) (aChg d s0 (some y))):=by
 refine OpOk.value hdst fun a w G hrep => ?_
 obtain ⟨_,y2,y3⟩:=hrep.ent y _ hy
 simp only [Top] at y3
 obtain ⟨xa,c,h1,h2⟩:=load_sl (P:=P) y2 hk
 have hus:okTups us = true ∧ ∀ u ∈ us,u.size = k:=by
  simp only [R] at y2
  rcases y2 with ⟨rfl,_⟩ | ⟨b,o0,cap,cs,et,_,_,_,_,_,_,_,h8⟩
  ·simp [okTups]
  ·exact ⟨okTups_of_loc (St:=Γ.St) (k:=k) us [] 0 b o0 (LocF_of_RL us [] 0 b o0 h8),(RF_of_RL us [] 0 b o0 h8).2⟩
 have hn:NewEls Γ E G d s0 (some y) k xs.length us (fun j z' => G.hd y (z' ++ [j])) (valsF G y us [] 0) :=
  ⟨hus.2,hus.1,y3,fun j z' => hrep.mem.one _ _,by rw [valsF_length];exact sizes_uniform us hus.2,fun y' hy' => by simp at hy';subst hy';exact ⟨hyd,hys,hy,fun _ _ => rfl⟩,fun h => by simp at h,
   fun G2 hG2 o v hv => by rw [← valsF_shift us xs.length 0 (fun i z' => by rw [hG2,Nat.zero_add])];exact hv⟩
 obtain ⟨v,w',hrun,G',hG'⟩:=rep_append (P:=P) (ty:=o.type) hrep hd ht hi hz hk hk0 hzk hb hs0 hs0d hn (xv:=a.eval (.tmp y)) ⟨.inl ⟨e,xa,c,ht,by rw [eval_root hrep hy rfl,h1],h2⟩⟩ (fun v hv => valsF_one hrep.mem us [] 0 v hv) hnm
 refine ⟨v,w',?_,G',hG'⟩
 rw [← eval_root hrep hs0 rfl] at hrun
 simp [execOp,ho,resolve,invoke,builtin,hrun]
theorem ok_append_cp (t e:TypeId) (ti:TypeInfo) (z:Value) (k s0:Nat) (y:Operand) (r:Nat) (q:List Nat) (xs us:List T) (ho:o.op = .call { callee:=.builtin .append,args:=#[.tmp s0,y],argTypes:=#[t,t] }) (hdst:o.dst = some d) (hd:d < Γ.N)
  (ht:P.underlying t = some (.slice e)) (hi:P.info? e = some ti) (hz:ti.zero = some z) (hk:ti.size = k) (hk0:0 < k) (hzk:z.cells.size = k) (hb:ti.bytes ≤ 2048)
  (hs0:E s0 = some (.sl k xs)) (hy:locT E y = some (r,q,.sl k us)) (hf:flats us = true) (hs0d:s0 ≠ d) (hnm:xs.length + us.length ≤ 68719476736) :
  OpOk P Γ o E (E.app (aWr d s0 none k (xs ++ us)) (aChg d s0 none)):=by
 refine OpOk.value hdst fun a w G hrep => ?_
 obtain ⟨y2,y1⟩:=loc_ok hrep hy rfl
 obtain ⟨xa,c,h1,h2⟩:=load_sl (P:=P) y2 hk
 have hus:(∀ u ∈ us,u.size = k) ∧ ∀ j u,us[j]? = some u → R Γ.St G w r u (j :: q):=by
  simp only [R] at y2
  rcases y2 with ⟨rfl,_⟩ | ⟨b,o0,cap,cs,et,_,_,_,_,_,_,_,h8⟩
  ·simp
  ·refine ⟨(RF_of_RL us q 0 b o0 h8).2,fun j u hu => ?_⟩
   have:=(RL_get us q 0 b o0 k j u h8 hu).2.2
   simpa using this
 have hcl:=flats_clean us hf
 have hn:NewEls Γ E G d s0 none k xs.length us (fun j z' => G.hd r (z' ++ (j :: q))) (valsF G r us q 0) :=
  ⟨hus.1,hcl.2,hcl.1,fun j z' => hrep.mem.one _ _,by rw [valsF_length];exact sizes_uniform us hus.1,fun y' hy' => by simp at hy',
   fun _ j u hu G2 w2 hG2 => R_flat u (j :: q) [xs.length + j] (flats_get us hf j u hu) (fun z' => hG2 z') (hus.2 j u hu),
   fun G2 hG2 o v hv => by rw [← valsF_shift2 us xs.length 0 q (fun i z' => by rw [hG2,Nat.zero_add])];exact hv⟩
 obtain ⟨v,w',hrun,G',hG'⟩:=rep_append (P:=P) (ty:=o.type) hrep hd ht hi hz hk hk0 hzk hb hs0 hs0d hn (xv:=a.eval y) ⟨.inl ⟨e,xa,c,ht,by rw [y1,h1],h2⟩⟩ (fun v hv => valsF_one hrep.mem us q 0 v hv) hnm
 refine ⟨v,w',?_,G',hG'⟩
 rw [← eval_root hrep hs0 rfl] at hrun
 simp [execOp,ho,resolve,invoke,builtin,hrun]
mutual
theorem roT_flat:(u:T) → RoOk u = true → (roT u).flat = true
 | .agg xs,h => by simp only [RoOk] at h;simp only [roT,T.flat];exact roTs_flat xs h
 | .lit _,_ | .sl _ _,_ | .ptr _,_ | .mp _ _,_ => by simp [roT,T.flat]
 | .any,h | .ro _,h | .same _ _,h | .addr _ _,h | .sub _ _ _ _ _,h | .tup _,h => by simp [RoOk] at h
theorem roTs_flat:(xs:List T) → RoOks xs = true → flats (roT.roTs xs) = true
 | [],_ => by simp [roT.roTs,flats]
 | x :: xs,h => by
  simp only [RoOks,Bool.and_eq_true] at h
  simp only [roT.roTs,flats,Bool.and_eq_true]
  exact ⟨roT_flat x h.1,roTs_flat xs h.2⟩
end
theorem ok_append_ro (t e:TypeId) (ti:TypeInfo) (z:Value) (k s0:Nat) (y:Operand) (r:Nat) (q:List Nat) (xs ys:List T) (ho:o.op = .call { callee:=.builtin .append,args:=#[.tmp s0,y],argTypes:=#[t,t] }) (hdst:o.dst = some d) (hd:d < Γ.N)
  (ht:P.underlying t = some (.slice e)) (hi:P.info? e = some ti) (hz:ti.zero = some z) (hk:ti.size = k) (hk0:0 < k) (hzk:z.cells.size = k) (hb:ti.bytes ≤ 2048)
  (hs0:E s0 = some (.sl k xs)) (hy:locT E y = some (r,q,.ro (.sl k ys))) (hro:RoOks ys = true) (hys:∀ u ∈ ys,u.size = k) (hs0d:s0 ≠ d) (hnm:xs.length + ys.length ≤ 68719476736) :
  OpOk P Γ o E (E.app (aWr d s0 none k (xs ++ roT.roTs ys)) (aChg d s0 none)):=by
 refine OpOk.value hdst fun a w G hrep => ?_
 obtain ⟨y2,y1⟩:=loc_ok hrep hy rfl
 obtain ⟨xa,c,h1,h2,h3,h4⟩:=R_ro_sl y2
 have hf:=roTs_flat ys hro
 have hcl:=flats_clean _ hf
 have hlen:(roT.roTs ys).length = ys.length:=roTs_length ys
 have hsz:∀ u ∈ roT.roTs ys,u.size = k:=roTs_sizes ys hys (fun u hu => RoOk_tup ys hro u hu)
 obtain ⟨cs',o',h5,h6⟩:∃ (cs':Array Value) (o':Nat),RoL Γ.St ys cs' o' k ∧ (ys ≠ [] → ∃ b et fr,xa = some ⟨b,o',none⟩ ∧ Γ.St b = some (.cells cs' et fr)):=by
  by_cases hne:ys = []
  ·subst hne;exact ⟨#[],0,by simp [RoL],fun h => absurd rfl h⟩
  ·obtain ⟨b,o',cs',et,fr,h5,h6,h7⟩:=h4 hne
   exact ⟨cs',o',h7,fun _ => ⟨b,et,fr,h5,h6⟩⟩
 let f2:Nat → List Nat → Value:=fun j z' => match ys[j]? with
  | some u => oneV (roHd u cs' (o' + j * k) z'.reverse)
  | none => .bool false
 have hf2:∀ j u,ys[j]? = some u → ∀ z',f2 j z' = oneV (roHd u cs' (o' + j * k) z'.reverse):=fun j u hu z' => by simp [f2,hu]
 let G0:Gh:={ G with hd:=fun s z' => if s = d then (match z'.getLast? with
  | some j => f2 j z'.dropLast
  | none => .bool false) else G.hd s z' }
 have hG0:∀ j z',G0.hd d (z' ++ [j]) = f2 j z':=fun j z' => by simp [G0]
 have hvals:∀ (G2:Gh) (n:Nat),(∀ j z',G2.hd d (z' ++ [n + j]) = f2 j z') → ∀ (i:Nat) (v:Value),(valsF G2 d (roT.roTs ys) [] n)[i]? = some v → cs'[o' + i]? = some v:=by
  intro G2 n hG2 i v hv
  exact ro_vals ys cs' o' k n h5 hys (fun j u hu z' => by rw [hG2,hf2 j u hu]) i v hv
 have hload:∀ w2:World,w2.heap = w.heap → (Builtin.firstCells ti.size ys.length (.slice xa ys.length c)).run P w2 = .ok (valsF G0 d (roT.roTs ys) [] 0).toArray w2:=by
  intro w2 hw2
  by_cases hne:ys = []
  ·subst hne
   cases xa <;> simp [Builtin.firstCells,loadCells,loadCellsFrom,roT.roTs,valsF]
  ·obtain ⟨b,et,fr,rfl,h7⟩:=h6 hne
   refine run_firstCells_some (P:=P) w2 ti.size ys.length ⟨b,o',none⟩ _ _ _ ?_ (fun j v hv => ?_)
   ·rw [valsF_length,hk,sizes_uniform _ hsz,hlen]
   ·have:=hvals G0 0 (fun j z' => by rw [Nat.zero_add];exact hG0 j z') j v hv
    rw [add_off]
    have h8:=hrep.mem.st b _ h7
    simp [World.cell?,hw2,h8,this]
 have hone2:∀ j z',(f2 j z').oneCell' = true:=fun j z' => by
  dsimp only [f2]
  split
  ·exact oneV_one _
  ·rfl
 have hn:NewEls Γ E G d s0 none k xs.length (roT.roTs ys) f2 (valsF G0 d (roT.roTs ys) [] 0):=by
  refine ⟨hsz,hcl.2,hcl.1,hone2,by rw [valsF_length];exact sizes_uniform _ hsz,fun y' hy' => by simp at hy',fun _ j u hu G2 w2 hG2 => ?_,fun G2 hG2 i v hv => ?_⟩
  ·obtain ⟨u0,hu0,rfl⟩:=roTs_get ys j u hu
   exact R_roT u0 cs' (o' + j * k) [xs.length + j] (fun z' => by rw [hG2 z',hf2 j u0 hu0]) (RoL_get ys cs' o' k j u0 h5 hu0)
  ·rw [← valsF_shift (roT.roTs ys) xs.length 0 (fun i z' => by rw [hG2,Nat.zero_add];exact (hG0 i z').symm)]
   exact hv
 have hones:∀ v ∈ valsF G0 d (roT.roTs ys) [] 0,v.oneCell' = true:=by
  intro v hv
  refine valsF_one' (fun s z' => ?_) _ [] 0 v hv
  simp only [G0]
  split
  ·split
   ·exact hone2 _ _
   ·rfl
  ·exact hrep.mem.one _ _
 have happ:AppArg P t e ti (a.eval y) (roT.roTs ys).length (valsF G0 d (roT.roTs ys) [] 0) w:=⟨.inl ⟨e,xa,c,ht,by rw [y1,h1,hlen],by rw [hlen];exact hload⟩⟩
 obtain ⟨v,w',hrun,G',hG'⟩:=rep_append (P:=P) (ty:=o.type) hrep hd ht hi hz hk hk0 hzk hb hs0 hs0d hn happ hones (by rw [hlen];exact hnm)
 refine ⟨v,w',?_,G',hG'⟩
 rw [← eval_root hrep hs0 rfl] at hrun
 simp [execOp,ho,resolve,invoke,builtin,hrun]
end
end Go.Ab

namespace Go.Ab
open Go
theorem zvalsF_flat:(us:List T) → zvalsF us = us.flatMap zvals
 | [] => rfl
 | u :: us => by simp [zvalsF,zvalsF_flat us]
theorem zOks_replicate (u:T) (h:u.zOk = true):∀ m,zOks (List.replicate m u) = true
 | 0 => rfl
 | m + 1 => by simp [List.replicate_succ,zOks,h,zOks_replicate u h m]
section
variable {P:Program} {Γ:Ctx} {E:Env} {o:Oper} {d:Nat}
theorem ok_append_zero (t t2 e:TypeId) (k2:IntKind) (ti:TypeInfo) (z:Value) (u:T) (k s0:Nat) (y:Operand) (kd:IntKind) (m:Nat) (xs:List T) (ho:o.op = .call { callee:=.builtin .append,args:=#[.tmp s0,y],argTypes:=#[t,t2] }) (hdst:o.dst = some d) (hd:d < Γ.N)
  (ht:P.underlying t = some (.slice e)) (ht2:P.underlying t2 = some (.int k2)) (hi:P.info? e = some ti) (hz:ti.zero = some z) (hk:ti.size = k) (hk0:0 < k) (hb:ti.bytes ≤ 2048) (hu:u.zOk = true) (hv:zvals u = z.cells.toList) (hus:u.size = k)
  (hs0:E s0 = some (.sl k xs)) (hy:opT E y = some (.lit (.int kd m))) (hs0d:s0 ≠ d) (hnm:xs.length + m ≤ 68719476736) :
  OpOk P Γ o E (E.app (aWr d s0 none k (xs ++ List.replicate m u)) (aChg d s0 none)):=by
 refine OpOk.value hdst fun a w G hrep => ?_
 have hzk:z.cells.size = k:=by grind[zvals_length]
 have hzo:=zOks_replicate u hu m
 have hcl:=zOks_clean _ hzo
 let f2:Nat → List Nat → Value:=fun _ z' => oneV (zhd u z'.reverse)
 have hnvl:((Builtin.zeroCells z.cells m).toList).length = m * k:=by grind[Builtin.zeroCells]
 have hn:NewEls Γ E G d s0 none k xs.length (List.replicate m u) f2 (Builtin.zeroCells z.cells m).toList:=by
  refine ⟨by grind,hcl.2,hcl.1,fun _ _ => oneV_one _,by grind,by simp,fun _ j x hx G2 w2 hG2 => ?_,fun G2 hG2 i v hv' => ?_⟩
  ·grind[R_zero]
  ·have h1:valsF G2 d (List.replicate m u) [] xs.length = zvalsF (List.replicate m u):=by grind[valsF_zero]
   rw [h1,zvalsF_flat] at hv'
   obtain ⟨h2,h3⟩:=rep_get zvals u k (by grind) hk0 m i v hv'
   grind[Builtin.zeroCells]
 have hone:∀ v ∈ (Builtin.zeroCells z.cells m).toList,v.oneCell' = true:=by
  intro v hv'
  simp only [Builtin.zeroCells,Array.toList_map,Array.toList_range,List.mem_map,List.mem_range] at hv'
  obtain ⟨i,hi',rfl⟩:=hv'
  grind[Nat.mod_lt,zvals_one]
 have happ:AppArg P t2 e ti (a.eval y) (List.replicate m u).length (Builtin.zeroCells z.cells m).toList w:=by
  refine ⟨.inr ⟨k2,kd,z,ht2,?_,hz,by simp,?_,by omega⟩⟩
  ·rw [(opd_lit hrep hy).1];simp
  ·simp only [List.length_replicate]
   exact Nat.le_trans (Nat.mul_le_mul (show m ≤ 68719476736 by omega) hb) (by decide)
 obtain ⟨v,w',hrun,G',hG'⟩:=rep_append (P:=P) (ty:=o.type) hrep hd ht hi hz hk hk0 hzk hb hs0 hs0d hn happ hone (by grind)
 refine ⟨v,w',?_,G',hG'⟩
 rw [← eval_root hrep hs0 rfl] at hrun
 simp [execOp,ho,resolve,invoke,builtin,hrun]
end
end Go.Ab

namespace Go.Ab
open Go
def retV (G:Gh) (nd:List (Nat × List Nat × T)):Value :=
 match nd with
 | [x] => mkV1 G x.1 x.2.2 x.2.1
 | nd => .tuple (nd.map fun x => mkV1 G x.1 x.2.2 x.2.1).toArray
def FnC (P:Program) (f:FuncId) (us:List T) (res:List T) (rws:List (Nat × T)):Prop :=
 ∀ (St:Stb) (W:Nat → Prop) (w:World) (G:Gh) (vs:Array Value),vs.size = us.length →
  (∀ (i:Nat) u,us[i]? = some u → vs[i]? = some (mkV G i u []) ∧ R St G w i u []) → Mem ⟨St,W,w,0⟩ G w →
  Calls P f vs w fun e w' => ∃ (S':Stb) (G':Gh) (nd:List (Nat × List Nat × T)),Grow St S' W w.heap.size ∧ e = .returned (retV G' nd) ∧ Mem ⟨S',W,w,0⟩ G' w' ∧ nd.map (·.2.2) = res ∧
   (∀ x ∈ nd,R S' G' w' x.1 x.2.2 x.2.1 ∧ us.length ≤ x.1) ∧ (nd.map (·.1)).Nodup ∧
   ∀ i u',(i,u') ∈ rws → R S' G' w' i u' [] ∧ ∃ u,us[i]? = some u ∧ mkV G' i u' [] = mkV G i u []
mutual
def roFree:T → Bool
 | .ro _ | .mp _ _ => false
 | .sl _ xs | .agg xs | .tup xs => roFrees xs
 | .ptr t => roFree t
 | .any | .lit _ | .same _ _ | .addr _ _ | .sub _ _ _ _ _ => true
def roFrees:List T → Bool
 | [] => true
 | x :: xs => roFree x && roFrees xs
end
section
variable {St St':Stb} {G:Gh} {w:World} {s:Nat}
mutual
theorem R_St:(t:T) → ∀ (p:List Nat),roFree t = true → R St G w s t p → R St' G w s t p
 | .ro _,_,h,_ | .mp _ _,_,h,_ => by simp [roFree] at h
 | .sl k xs,p,h,hr => by
  simp only [roFree,R] at h hr ⊢
  rcases hr with hr | ⟨b,o0,cap,cs,e,h1,h2,h3,h4,h5,h6,h7,h8⟩
  ·exact .inl hr
  ·exact .inr ⟨b,o0,cap,cs,e,h1,h2,h3,h4,h5,h6,h7,RL_St xs p 0 b o0 k h h8⟩
 | .agg xs,p,h,hr | .tup xs,p,h,hr => by simp only [roFree,R] at h hr ⊢;exact RF_St xs p 0 h hr
 | .ptr t,p,h,hr => by
  simp only [roFree,R] at h hr ⊢
  obtain ⟨b,cs,e,h1,h2,h3,h6,h4,h5⟩:=hr
  exact ⟨b,cs,e,h1,h2,h3,h6,h4,R_St t _ h h5⟩
 | .any,_,_,hr | .lit _,_,_,hr | .same _ _,_,_,hr | .addr _ _,_,_,hr | .sub _ _ _ _ _,_,_,hr => by first | (simp only [R];done) | simpa only [R] using hr
theorem RL_St:(xs:List T) → ∀ (p:List Nat) (i b o k:Nat),roFrees xs = true → RL St G w s xs p i b o k → RL St' G w s xs p i b o k
 | [],_,_,_,_,_,_,_ => by simp only [RL]
 | x :: xs,p,i,b,o,k,h,hr => by
  simp only [roFrees,Bool.and_eq_true,RL] at h hr ⊢
  exact ⟨hr.1,R_St x _ h.1 hr.2.1,RL_St xs p (i + 1) b _ k h.2 hr.2.2⟩
theorem RF_St:(xs:List T) → ∀ (p:List Nat) (i:Nat),roFrees xs = true → RF St G w s xs p i → RF St' G w s xs p i
 | [],_,_,_,_ => by simp only [RF]
 | x :: xs,p,i,h,hr => by
  simp only [roFrees,Bool.and_eq_true,RF] at h hr ⊢
  exact ⟨R_St x _ h.1 hr.1,RF_St xs p (i + 1) h.2 hr.2⟩
end
end
section
variable {St St':Stb} (h:∀ b x,St b = some x → St' b = some x)
 include h
mutual
theorem RoC_mono:(t:T) → ∀ (cs:Array Value) (o:Nat),RoC St t cs o → RoC St' t cs o
 | .sl k xs,cs,o,hr => by
  simp only [RoC] at hr ⊢
  obtain ⟨a,c,h1,h2,h3,h4⟩:=hr
  refine ⟨a,c,h1,h2,h3,fun hne => ?_⟩
  obtain ⟨b,o',cs',e,fr,h5,h6,h7⟩:=h4 hne
  exact ⟨b,o',cs',e,fr,h5,h b _ h6,RoL_mono xs cs' o' k h7⟩
 | .agg xs,cs,o,hr => by simp only [RoC] at hr ⊢;exact RoF_mono xs cs o hr
 | .ptr t,cs,o,hr => by
  simp only [RoC] at hr ⊢
  obtain ⟨b,o',cs',e,fr,h5,h6,h7⟩:=hr
  exact ⟨b,o',cs',e,fr,h5,h b _ h6,RoC_mono t cs' o' h7⟩
 | .ro u,cs,o,hr => by
  simp only [RoC] at hr ⊢
  obtain ⟨f,vs,h1,h2,h3⟩:=hr
  exact ⟨f,vs,h1,h2,RoC_mono u _ _ h3⟩
 | .mp ks xs,cs,o,hr => by
  simp only [RoC] at hr ⊢
  rcases hr with hr | ⟨b,ms,c,es,h1,h2,h3,h4,h5⟩
  ·exact .inl hr
  ·exact .inr ⟨b,ms,c,es,h1,h b _ h2,h3,h4,RoM_mono xs ks es h5⟩
 | .any,_,_,hr | .lit _,_,_,hr | .same _ _,_,_,hr | .addr _ _,_,_,hr | .sub _ _ _ _ _,_,_,hr | .tup _,_,_,hr => by first | (simp only [RoC] at hr;done) | simpa only [RoC] using hr
theorem RoL_mono:(xs:List T) → ∀ (cs:Array Value) (o k:Nat),RoL St xs cs o k → RoL St' xs cs o k
 | [],_,_,_,_ => by have _:=h;simp only [RoL]
 | x :: xs,cs,o,k,hr => by simp only [RoL] at hr ⊢;exact ⟨RoC_mono x cs o hr.1,RoL_mono xs cs _ k hr.2⟩
theorem RoF_mono:(xs:List T) → ∀ (cs:Array Value) (o:Nat),RoF St xs cs o → RoF St' xs cs o
 | [],_,_,_ => by have _:=h;simp only [RoF]
 | x :: xs,cs,o,hr => by simp only [RoF] at hr ⊢;exact ⟨RoC_mono x cs o hr.1,RoF_mono xs cs _ hr.2⟩
theorem RoM_mono:(xs:List T) → ∀ (ks:List Value) (es:List MapEntry),RoM St ks xs es → RoM St' ks xs es
 | [],_,_,hr => by have _:=h;simp only [RoM] at hr ⊢;exact hr
 | x :: xs,ks,es,hr => by
  simp only [RoM] at hr ⊢
  obtain ⟨k,ks',e,es',h1,h2,h3,h4,h5⟩:=hr
  exact ⟨k,ks',e,es',h1,h2,h3,RoC_mono x _ _ h4,RoM_mono xs ks' es' h5⟩
end
theorem MpOk_mono {ks:List Value} {xs:List T} {x:Obj} (hr:MpOk St ks xs x):MpOk St' ks xs x:=by
 unfold MpOk at hr ⊢
 split
 ·simp only at hr
  obtain ⟨h1,es,h2,h3⟩:=hr
  exact ⟨h1,es,h2,RoM_mono h xs ks es h3⟩
 ·simp only at hr
  obtain ⟨ms,c,hc,ks',xs',h1,h2,h3,h4,h5,h6,cur,es,h7,h8⟩:=hr
  exact ⟨ms,c,hc,ks',xs',h1,h2,h _ _ h3,h4,h5,h6,cur,es,RoM_mono h xs' ks' _ h7,h8⟩
 ·simp at hr
end
section
variable {St St':Stb} {G:Gh} {w:World} {s:Nat} (h:∀ b x,St b = some x → St' b = some x)
 include h
mutual
theorem R_mono:(t:T) → ∀ (p:List Nat),R St G w s t p → R St' G w s t p
 | .ro t,_,hr => by simp only [R] at hr ⊢;exact RoC_mono h t _ _ hr
 | .sl k xs,p,hr => by
  simp only [R] at hr ⊢
  rcases hr with hr | ⟨b,o0,cap,cs,e,h1,h2,h3,h4,h5,h6,h7,h8⟩
  ·exact .inl hr
  ·exact .inr ⟨b,o0,cap,cs,e,h1,h2,h3,h4,h5,h6,h7,RL_mono xs p 0 b o0 k h8⟩
 | .agg xs,p,hr | .tup xs,p,hr => by simp only [R] at hr ⊢;exact RF_mono xs p 0 hr
 | .ptr t,p,hr => by
  simp only [R] at hr ⊢
  obtain ⟨b,cs,e,h1,h2,h3,h6,h4,h5⟩:=hr
  exact ⟨b,cs,e,h1,h2,h3,h6,h4,R_mono t _ h5⟩
 | .mp ks xs,_,hr => by
  simp only [R] at hr ⊢
  obtain ⟨b,ms,c,h1,h2,h3,h4⟩:=hr
  exact ⟨b,ms,c,h1,h2,h3,MpOk_mono h h4⟩
 | .any,_,hr | .lit _,_,hr | .same _ _,_,hr | .addr _ _,_,hr | .sub _ _ _ _ _,_,hr => by first | (simp only [R];done) | simpa only [R] using hr
theorem RL_mono:(xs:List T) → ∀ (p:List Nat) (i b o k:Nat),RL St G w s xs p i b o k → RL St' G w s xs p i b o k
 | [],_,_,_,_,_,_ => by have _:=h;simp only [RL]
 | x :: xs,p,i,b,o,k,hr => by simp only [RL] at hr ⊢;exact ⟨hr.1,R_mono x _ hr.2.1,RL_mono xs p (i + 1) b _ k hr.2.2⟩
theorem RF_mono:(xs:List T) → ∀ (p:List Nat) (i:Nat),RF St G w s xs p i → RF St' G w s xs p i
 | [],_,_,_ => by have _:=h;simp only [RF]
 | x :: xs,p,i,hr => by simp only [RF] at hr ⊢;exact ⟨R_mono x _ hr.1,RF_mono xs p (i + 1) hr.2⟩
end
end
mutual
def strip:T → T
 | .lit v => .lit v
 | .ro u => if u.single then u else .any
 | .sl k xs => .sl k (strips xs)
 | .agg xs => .agg (strips xs)
 | .ptr t => .ptr (strip t)
 | .mp ks xs => .mp ks xs
 | .any | .same _ _ | .addr _ _ | .sub _ _ _ _ _ | .tup _ => .any
def strips:List T → List T
 | [] => []
 | x :: xs => strip x :: strips xs
end
theorem strips_length:(xs:List T) → (strips xs).length = xs.length
 | [] => rfl
 | x :: xs => by simp [strips,strips_length xs]
mutual
theorem strip_size:(t:T) → (strip t).size = t.size
 | .agg xs => by simp only [strip,T.size];exact strips_size xs
 | .ro u => by
  simp only [strip]
  split
  ·rename_i h;cases u <;> simp [T.single] at h <;> simp [T.size]
  ·simp [T.size]
 | .lit _ | .sl _ _ | .ptr _ | .mp _ _ | .any | .same _ _ | .addr _ _ | .sub _ _ _ _ _ | .tup _ => by simp [strip,T.size]
theorem strips_size:(xs:List T) → T.sizes (strips xs) = T.sizes xs
 | [] => rfl
 | x :: xs => by simp only [strips,T.sizes,strip_size x,strips_size xs]
end
theorem RoC_of_cell {St:Stb} {u:T} (hu:u.single = true) {v:Value} {cs:Array Value} {o:Nat} (h:RoC St u #[v] 0) (hc:cs[o]? = some v):RoC St u cs o:=by
 by_cases hm:∃ ks xs,u = .mp ks xs
 ·obtain ⟨ks,xs,rfl⟩:=hm
  simp only [RoC] at h ⊢
  rcases h with ⟨v',h1,h2⟩ | ⟨b,ms,c,es,h1,h2⟩
  ·exact .inl ⟨v,hc,by simp at h1;rw [h1];exact h2⟩
  ·exact .inr ⟨b,ms,c,es,by simp at h1;rw [hc,h1],h2⟩
 cases u <;> simp [T.single] at hu <;> simp only [RoC] at h ⊢ <;> simp at h <;> first
  | exact ⟨v,hc,h⟩
  | (obtain ⟨rfl,h2⟩:=h;exact ⟨hc,h2⟩)
  | (obtain ⟨f,vs,rfl,h2⟩:=h;exact ⟨f,vs,hc,h2⟩)
  | (obtain ⟨a,c,rfl,h2⟩:=h;exact ⟨a,c,hc,by simpa using h2⟩)
  | exact absurd ⟨_,_,rfl⟩ hm
  | (obtain ⟨b,o',rfl,h2⟩:=h;obtain ⟨cs',⟨e,f1,f2,h3⟩,h4⟩:=h2;exact ⟨b,o',cs',e,(f1,f2),hc,h3,h4⟩)
section
variable {St Sc:Stb} {G:Gh} {w:World} {s:Nat} (hone:∀ s p,(G.hd s p).oneCell' = true) (hSt:∀ b x,St b = some x → Sc b = some x) (hSc:∀ b,(∃ y,G.ow b = some (s,y)) → Sc b = w.heap[b]?)
 include hone hSt hSc
mutual
theorem frz:(t:T) → ∀ (p:List Nat) (b o:Nat) (cs:Array Value) (e:TypeId) (fr:Nat × Nat),w.heap[b]? = some (.cells cs e fr) → Loc G w s t p b o → R St G w s t p → RoC Sc (strip t) cs o
 | .agg xs,p,b,o,cs,e,fr,hb,hl,hr => by simp only [Loc,R,strip,RoC] at hl hr ⊢;exact frzF xs p 0 b o cs e fr hb hl.2 hr
 | .tup _,_,_,_,_,_,_,_,hl,_ => by have _:=hSc;simp only [Loc] at hl
 | .any,p,b,o,cs,e,fr,hb,hl,hr | .same _ _,p,b,o,cs,e,fr,hb,hl,hr | .addr _ _,p,b,o,cs,e,fr,hb,hl,hr | .sub _ _ _ _ _,p,b,o,cs,e,fr,hb,hl,hr => by
  have h1:=(Loc_single rfl hl).2.2
  simp only [cellAt,World.cell?,hb] at h1
  simp only [strip,RoC]
  exact ⟨_,by simpa using h1,hone s p⟩
 | .lit v,p,b,o,cs,e,fr,hb,hl,hr => by
  have h1:=(Loc_single rfl hl).2.2
  simp only [cellAt,World.cell?,hb] at h1
  simp only [strip,RoC,R] at hr ⊢
  exact ⟨by rw [← hr];simpa using h1,by rw [← hr];exact hone s p⟩
 | .ro u,p,b,o,cs,e,fr,hb,hl,hr => by
  have h1:=(Loc_single rfl hl).2.2
  simp only [cellAt,World.cell?,hb] at h1
  simp only [strip,R] at hr ⊢
  split
  ·rename_i hu
   exact RoC_of_cell hu (RoC_mono hSt u _ _ hr) (by simpa using h1)
  ·simp only [RoC];exact ⟨_,by simpa using h1,hone s p⟩
 | .sl k xs,p,b,o,cs,e,fr,hb,hl,hr => by
  have h1:=(Loc_single rfl hl).2.2
  simp only [cellAt,World.cell?,hb] at h1
  exact RoC_of_cell rfl (frz1 (.sl k xs) p rfl hr) (by simpa using h1)
 | .ptr t,p,b,o,cs,e,fr,hb,hl,hr => by
  have h1:=(Loc_single rfl hl).2.2
  simp only [cellAt,World.cell?,hb] at h1
  exact RoC_of_cell rfl (frz1 (.ptr t) p rfl hr) (by simpa using h1)
 | .mp ks xs,p,b,o,cs,e,fr,hb,hl,hr => by
  have h1:=(Loc_single rfl hl).2.2
  simp only [cellAt,World.cell?,hb] at h1
  exact RoC_of_cell rfl (frz1 (.mp ks xs) p rfl hr) (by simpa using h1)
theorem frzF:(xs:List T) → ∀ (p:List Nat) (j b o:Nat) (cs:Array Value) (e:TypeId) (fr:Nat × Nat),w.heap[b]? = some (.cells cs e fr) → LocF G w s xs p j b o → RF St G w s xs p j → RoF Sc (strips xs) cs o
 | [],_,_,_,_,_,_,_,_,_,_ => by have _:=hone;have _:=hSt;have _:=hSc;simp only [strips,RoF]
 | x :: xs,p,j,b,o,cs,e,fr,hb,hl,hr => by
  simp only [LocF,RF,strips,RoF] at hl hr ⊢
  exact ⟨frz x _ b o cs e fr hb hl.1 hr.1,by rw [strip_size];exact frzF xs p (j + 1) b _ cs e fr hb hl.2 hr.2⟩
theorem frzL:(xs:List T) → ∀ (p:List Nat) (i b o k:Nat) (cs:Array Value) (e:TypeId) (fr:Nat × Nat),w.heap[b]? = some (.cells cs e fr) → RL St G w s xs p i b o k → RoL Sc (strips xs) cs o k
 | [],_,_,_,_,_,_,_,_,_,_ => by have _:=hone;have _:=hSt;have _:=hSc;simp only [strips,RoL]
 | x :: xs,p,i,b,o,k,cs,e,fr,hb,hr => by
  simp only [RL,strips,RoL] at hr ⊢
  exact ⟨frz x _ b o cs e fr hb hr.1.1 hr.2.1,frzL xs p (i + 1) b _ k cs e fr hb hr.2.2⟩
theorem frz1:(t:T) → ∀ (p:List Nat),t.single = true → R St G w s t p → RoC Sc (strip t) #[G.hd s p] 0
 | .agg _,_,h,_ | .tup _,_,h,_ => by simp [T.single] at h
 | .any,p,_,_ | .same _ _,p,_,_ | .addr _ _,p,_,_ | .sub _ _ _ _ _,p,_,_ => by simp only [strip,RoC];exact ⟨_,by simp,hone s p⟩
 | .mp ks xs,p,_,hr => by
  simp only [strip,R,RoC] at hr ⊢
  obtain ⟨b,x,_,h1,h2,h3,h4⟩:=hr
  unfold MpOk at h4
  split at h4
  ·exact .inr ⟨b,_,_,h4.2.choose,by simp [h1,mpHd],by rw [hSc b ⟨_,h3⟩];exact h2,h4.1.2,h4.2.choose_spec.1,RoM_mono hSt _ _ _ h4.2.choose_spec.2⟩
  ·obtain ⟨_,_,hc,ks',xs',rfl,_⟩:=h4
   exact .inl ⟨_,by simp,hone s p,rfl⟩
  ·exact h4.elim
 | .lit v,p,_,hr => by simp only [strip,RoC,R] at hr ⊢;exact ⟨by simp [hr],by rw [← hr];exact hone s p⟩
 | .ro u,p,_,hr => by
  simp only [strip,R] at hr ⊢
  split
  ·exact RoC_mono hSt u _ _ hr
  ·simp only [RoC];exact ⟨_,by simp,hone s p⟩
 | .sl k xs,p,_,hr => by
  simp only [strip,R,RoC] at hr ⊢
  rw [strips_length]
  rcases hr with ⟨rfl,a,h1⟩ | ⟨b,o0,cap,cs,e,h1,h2,h3,h4,h5,h6,h7,h8⟩
  ·exact ⟨a,0,by simp [h1],by simp,by simp [maxLen],fun h => by simp [strips] at h⟩
  ·exact ⟨some ⟨b,o0,none⟩,cap,by simp [h1],h3,h4,fun _ => ⟨b,o0,cs,e,(0,0),rfl,by rw [hSc b ⟨_,h6⟩];exact h2,frzL xs p 0 b o0 k cs e (0,0) h2 h8⟩⟩
 | .ptr t,p,_,hr => by
  simp only [strip,R,RoC] at hr ⊢
  obtain ⟨b,cs,e,h1,h2,h3,h6,h4,h5⟩:=hr
  exact ⟨b,0,cs,e,(0,0),by simp [h1],by rw [hSc b ⟨_,h6⟩];exact h2,frz t _ b 0 cs e (0,0) h2 h4 h5⟩
end
end
end Go.Ab
