/- The program and the reference return the same spaces of moved vectors, for all arguments (FnExactMovedVectors). This file is a part of the proof. -/
import Derived.Test.YtjbinegfmombcaaGreatAbB
import Derived.ProofKit
namespace Go.Ab
open Go
abbrev vI (n : Int) : Value := .int .i64 n
section
variable {Γ : Ctx} {E : Env}
theorem rep_inplace {G : Gh} {tmps : Array Value} {w w' : World} (hrep : Rep Γ E G tmps w) {s0 : Nat} {xs us : List Int} (hs0 : E s0 = some (L 1 I xs)) (hlen : us.length = xs.length)
  {b cap : Nat} {cs cs' : Array Value} {e : TypeId} (h1 : G.hd s0 [] = .slice (some ⟨b,0,none⟩) xs.length cap) (h2 : w.heap[b]? = some (.cells cs e (0,0))) (h3 : xs.length ≤ cap) (h4 : cap ≤ maxLen) (h5 : cap * 1 ≤ cs.size) (h6 : G.ow b = some (s0,[]))
  (h7 : ∀ o,xs.length * 1 ≤ o → o < cap * 1 → G.lb b o = some (true,s0,[])) (h8 : RL Γ.St G w s0 (xs.map I) [] 0 b 0 1)
  (k1 : w'.heap[b]? = some (.cells cs' e (0,0))) (k2 : cs'.size = cs.size) (k3 : ∀ b',b' ≠ b → w'.heap[b']? = w.heap[b']?) (k4 : w'.heap.size = w.heap.size) (ko : w'.os = w.os) (kq : w'.output = w.output) (k5 : ∀ (i : Nat) u,us[i]? = some u → cs'[i]? = some (vI u)) :
  ∃ G',Rep Γ (E.app [(s0,some (L 1 I us))] [(s0,1)]) G' tmps w' := by
 have hm := hrep.mem
 obtain ⟨e1,_,_⟩ := hrep.ent s0 _ hs0
 have hblk := hm.ow b _ h6
 let G' : Gh := { G with hd := fun s z => if s = s0 then (match z with
  | [i] => (match us[i]? with
   | some u => vI u
   | none => G.hd s0 z)
  | _ => G.hd s0 z) else G.hd s z }
 have hB : Blk w w' := by
  intro b' cs2 e2 hb
  by_cases hbb : b' = b
  ·subst hbb
   rw [h2] at hb;simp at hb
   obtain ⟨rfl,rfl⟩ := hb
   exact ⟨cs',k1,k2⟩
  ·exact ⟨cs2,by rw [k3 b' hbb];exact hb,rfl⟩
 have hkeep : Keep [(s0,1)] G w G' w' := by
  refine ⟨fun s p ho => ?_,fun _ _ _ => rfl,fun b' o f s p hob hl hs => ⟨hl,?_⟩,fun _ _ _ hl _ => hl,hB⟩
  ·by_cases h : s = s0
   ·subst h
    have : p = [] := List.eq_nil_of_length_eq_zero (by have := ho 1 (by simp);omega)
    subst this;simp [G']
   ·simp [G',h]
  ·have hsd : s ≠ s0 := fun e => hs 1 (by simp [e])
   obtain ⟨y,hy⟩ := hob
   have hbb : b' ≠ b := by
    rintro rfl
    rw [h6] at hy
    simp at hy
    exact hsd hy.1.symm
   simp [cellAt,World.cell?,k3 b' hbb]
 have hmem : Mem Γ G' w' := by
  refine ⟨fun s z => ?_,fun b' o l hl => ?_,fun b' l hl => ?_,fun b' x hx => ?_,fun b' h h' => ?_,by rw [k4];exact hm.sz,hm.bk.trans hB ko kq⟩
  ·show (if _ then _ else _ : Value).oneCell' = true
   split
   ·split
    ·split
     ·rfl
     ·exact hm.one _ _
    ·exact hm.one _ _
   ·exact hm.one _ _
  ·have := hm.lb b' o l hl;exact ⟨by rw [k4];exact this.1,this.2⟩
  ·have := hm.ow b' l hl;exact ⟨by rw [k4];exact this.1,this.2⟩
  ·have : b' ≠ b := by rintro rfl;rw [hblk.2.2] at hx;cases hx
   rw [k3 b' this];exact hm.st b' x hx
  ·have : b' ≠ b := by
    rintro rfl
    rcases hblk.2.1 with h0 | h0
    ·omega
    ·exact h' h0
   rw [k3 b' this];exact hm.fr b' h h'
 refine ⟨G',rep_step hrep rfl hkeep hmem ?_ ?_⟩
 ·intro s hs
  rw [find_one] at hs
  split at hs
  ·cases hs
  ·rename_i hne
   exact ⟨fun n hn => hne (by simp at hn;exact hn.1.symm),rfl⟩
 ·intro s t' hs
  rw [find_one] at hs
  split at hs
  ·rename_i he;subst he
   simp at hs;subst hs
   refine ⟨by rw [e1];simp [mkV,G'],?_,by simp only [Top];exact cleans_map clean_I us⟩
   simp only [R]
   refine .inr ⟨b,cap,cs',e,by simp [G',h1,hlen],k1,by simp [hlen];exact h3,h4,by omega,h6,fun o ho1 ho2 => h7 o (by simpa [hlen] using ho1) ho2,?_⟩
   refine RL_of2 _ [] 0 b 0 fun i x hx => ?_
   rw [List.getElem?_map,Option.map_eq_some_iff] at hx
   obtain ⟨u,hu,rfl⟩ := hx
   have hi := (List.getElem?_eq_some_iff.1 hu).1
   obtain ⟨g1,g2,_⟩ := RL_get _ [] 0 b 0 1 i (I xs[i]) h8 (by simp [show i < xs.length by omega])
   simp only [Nat.zero_add,Nat.mul_one,Loc] at g1 ⊢
   refine ⟨⟨g1.1,g1.2.1,?_⟩,rfl,by simp [R,G',hu]⟩
   have := k5 i u hu
   simp [cellAt,World.cell?,k1,this,G',hu]
  ·cases hs
def SrcOf (P : Program) (Γ : Ctx) (E : Env) (y : Operand) (ys : List Int) : Prop := ∀ (a : Act) (w : World) (G : Gh),Rep Γ E G a.tmps w → ∃ xa c,a.eval y = .slice xa ys.length c ∧
 ∀ (n : Nat),n ≤ ys.length → (Builtin.firstCells 1 n (.slice xa ys.length c)).run P w = .ok ((ys.take n).map vI).toArray w
theorem firstCells_ints {P : Program} {w : World} {b o : Nat} {cs : Array Value} {e : TypeId} {fr : Nat × Nat} (hb : w.heap[b]? = some (.cells cs e fr)) (ys : List Int) (hv : ∀ (i : Nat) u,ys[i]? = some u → cs[o + i]? = some (vI u)) (n : Nat) (hn : n ≤ ys.length) (len cap : Nat) :
  (Builtin.firstCells 1 n (.slice (some ⟨b,o,none⟩) len cap)).run P w = .ok ((ys.take n).map vI).toArray w := by
 refine run_firstCells_some (P := P) w 1 n ⟨b,o,none⟩ len cap _ (by simp;omega) fun j v hj => ?_
 rw [List.getElem?_map,Option.map_eq_some_iff] at hj
 obtain ⟨u,hu,rfl⟩ := hj
 rw [List.getElem?_take] at hu
 split at hu
 ·rw [add_off]
  have := hv j u hu
  simp [World.cell?,hb,this]
 ·cases hu
theorem firstCells_nil {P : Program} {w : World} {a : Option Addr} {c : Nat} : (Builtin.firstCells 1 0 (.slice a 0 c)).run P w = .ok #[] w := by
 cases a <;> simp [Builtin.firstCells,loadCells,loadCellsFrom]
theorem SrcOf.ro {P : Program} {y : Operand} {ys : List Int} {r : Nat} {q : List Nat} (h : locT E y = some (r,q,.ro (L 1 I ys))) : SrcOf P Γ E y ys := fun a w G hrep => by
 obtain ⟨h1,h2⟩ := loc_ok hrep h rfl
 obtain ⟨xa,c,g1,_,_,g2⟩ := R_ro_sl h1
 rw [List.length_map] at g1
 refine ⟨xa,c,by rw [h2,g1],fun n hn => ?_⟩
 by_cases hy : ys = []
 ·subst hy
  simp at hn;subst hn
  simpa using firstCells_nil
 ·obtain ⟨b,o,cs,e,fr,rfl,g3,g4⟩ := g2 (by simpa using hy)
  refine firstCells_ints (hrep.mem.st b _ g3) ys (fun i u hu => ?_) n hn _ _
  have := RoL_get _ cs o 1 i (I u) g4 (by simp [hu])
  simp only [RoC,Nat.mul_one] at this
  exact this.1
theorem ints_at {G : Gh} {w : World} {s b : Nat} {q : List Nat} {cs : Array Value} {e : TypeId} {xs : List Int} {St : Stb} (h2 : w.heap[b]? = some (.cells cs e (0,0))) (h8 : RL St G w s (xs.map I) q 0 b 0 1) (i : Nat) (u : Int) (hu : xs[i]? = some u) : cs[i]? = some (vI u) := by
 obtain ⟨g1,_,g3⟩ := RL_get _ q 0 b 0 1 i (I u) h8 (by simp [hu])
 simp only [Loc,R,Nat.zero_add,Nat.mul_one] at g1 g3
 have := g1.2.2
 simp only [cellAt,World.cell?,h2] at this
 simpa [g3] using this
theorem SrcOf.own {P : Program} {y : Operand} {ys : List Int} {r : Nat} {q : List Nat} (h : locT E y = some (r,q,L 1 I ys)) : SrcOf P Γ E y ys := fun a w G hrep => by
 obtain ⟨h1,h2⟩ := loc_ok hrep h rfl
 simp only [R] at h1
 rcases h1 with ⟨g1,ad,g2⟩ | ⟨b,cap,cs,e,g1,g2,_,_,_,_,_,g8⟩
 ·have hy : ys = [] := by simpa using g1
  subst hy
  refine ⟨ad,0,by rw [h2,g2];rfl,fun n hn => ?_⟩
  simp at hn;subst hn
  simpa using firstCells_nil
 ·rw [List.length_map] at g1
  refine ⟨_,cap,by rw [h2,g1],fun n hn => firstCells_ints g2 ys (fun i u hu => ?_) n hn _ _⟩
  rw [Nat.zero_add];exact ints_at g2 g8 i u hu
theorem SrcOf.sub {P : Program} {s r : Nat} {q : List Nat} {tr : T} {xs ys : List Int} {l h : Int} (hs : E s = some (.sub r q 1 l.toNat h.toNat)) (hr : E r = some tr) (hg : tr.get q.reverse = some (L 1 I xs)) (hv : sliceO xs l h = some ys) : SrcOf P Γ E (.tmp s) ys := fun a w G hrep => by
 obtain ⟨k1,k2,k3,rfl⟩ := sliceO_some hv
 obtain ⟨e1,e2,_⟩ := hrep.ent s _ hs
 obtain ⟨_,e4,_⟩ := hrep.ent r _ hr
 simp only [R] at e2
 have h5 := (R_get q.reverse tr _ [] e4 hg).1
 simp only [rp,List.reverse_reverse,List.append_nil,R] at h5
 have hlen : ((xs.drop l.toNat).take (h.toNat - l.toNat)).length = h.toNat - l.toNat := by simp;omega
 rw [hlen]
 have hev : a.eval (.tmp s) = G.hd s [] := by rw [eval_tmp e1,mkV_single rfl]
 rcases h5 with ⟨g1,ad,g2⟩ | ⟨b,cap,cs,e,g1,g2,g3,_,_,_,_,g8⟩
 ·have hy : xs = [] := by simpa using g1
  subst hy
  have hl0 : l.toNat = 0 := by simp at k3;omega
  have hh0 : h.toNat = 0 := by simp at k3;omega
  refine ⟨ad,0,by rw [hev,e2,g2,hl0,hh0];simp [subOf],fun n hn => ?_⟩
  simp [hh0] at hn;subst hn
  rw [hl0,hh0];simpa using firstCells_nil
 ·rw [List.length_map] at g1 g3
  refine ⟨if cap = l.toNat then some ⟨b,0,none⟩ else some ⟨b,l.toNat,none⟩,cap - l.toNat,by rw [hev,e2,g1];simp only [subOf,Option.map_some,add_off,Nat.zero_add,Nat.mul_one],fun n hn => ?_⟩
  split
  ·have : n = 0 := by omega
   subst this
   simp [Builtin.firstCells,loadCells,loadCellsFrom]
  ·refine firstCells_ints g2 _ (fun i u hu => ?_) n (by rw [hlen];exact hn) _ _
   rw [List.getElem?_take] at hu
   split at hu
   ·rw [List.getElem?_drop] at hu
    exact ints_at g2 g8 _ u hu
   ·cases hu
def DstOf (Γ : Ctx) (E : Env) (x : Operand) (s0 lo hi : Nat) : Prop := ∀ (a : Act) (w : World) (G : Gh),Rep Γ E G a.tmps w → a.eval x = subOf (G.hd s0 []) 1 lo hi
theorem DstOf.slot {s0 : Nat} {xs : List Int} (h : E s0 = some (L 1 I xs)) : DstOf Γ E (.tmp s0) s0 0 xs.length := fun a w G hrep => by
 obtain ⟨e1,e2,_⟩ := hrep.ent s0 _ h
 obtain ⟨ad,c,g⟩ := R_sl_hd e2
 rw [List.length_map] at g
 rw [eval_tmp e1,mkV_single rfl,g]
 simp [subOf]
 intro;cases ad <;> simp [Addr.add]
theorem DstOf.same {s s0 : Nat} {xs : List Int} (hs : E s = some (.same s0 [])) (h : E s0 = some (L 1 I xs)) : DstOf Γ E (.tmp s) s0 0 xs.length := fun a w G hrep => by
 obtain ⟨e1,e2,_⟩ := hrep.ent s _ hs
 have := DstOf.slot h a w G hrep
 obtain ⟨e3,_,_⟩ := hrep.ent s0 _ h
 simp only [R] at e2
 rw [eval_tmp e3,mkV_single rfl] at this
 rw [eval_tmp e1,mkV_single rfl,e2];exact this
theorem DstOf.sub {s s0 lo hi : Nat} (hs : E s = some (.sub s0 [] 1 lo hi)) : DstOf Γ E (.tmp s) s0 lo hi := fun a w G hrep => by
 obtain ⟨e1,e2,_⟩ := hrep.ent s _ hs
 simp only [R] at e2
 rw [eval_tmp e1,mkV_single rfl,e2]
end
theorem sliceO_le {α : Type} {xs ys : List α} {l h : Int} (hv : sliceO xs l h = some ys) : l.toNat ≤ h.toNat := by have := sliceO_some hv;omega
theorem sliceO_ub {α : Type} {xs ys : List α} {l h : Int} (hv : sliceO xs l h = some ys) : h.toNat ≤ xs.length := by have := sliceO_some hv;omega
theorem spl_get {α : Type} (l z : List α) (lo i : Nat) (hlo : lo + z.length ≤ l.length) : (l.take lo ++ z ++ l.drop (lo + z.length))[i]? = if i < lo then l[i]? else if i < lo + z.length then z[i - lo]? else l[i]? := by
 have hm : min lo l.length = lo := by omega
 by_cases c1 : i < lo
 ·rw [if_pos c1,List.append_assoc,List.getElem?_append_left (by simp;omega),List.getElem?_take,if_pos c1]
 ·rw [if_neg c1]
  by_cases c2 : i < lo + z.length
  ·rw [if_pos c2,List.append_assoc,List.getElem?_append_right (by simp;omega),List.length_take,hm,List.getElem?_append_left (by omega)]
  ·rw [if_neg c2,List.append_assoc,List.getElem?_append_right (by simp;omega),List.length_take,hm,List.getElem?_append_right (by omega),List.getElem?_drop]
   congr 1;omega
def splice (xs : List Int) (lo : Nat) (zs : List Int) : List Int := xs.take lo ++ zs ++ xs.drop (lo + zs.length)
theorem x_copyI {P : Program} {Γ : Ctx} {E : Env} {d s0 lo hi : Nat} {x y : Operand} {ty : TypeId} {ps : String} {af : Array Edge} {gd : Option (Nat × Bool)} {t t2 e : TypeId} {ti : TypeInfo} {u : T} {xs ys : List Int} (ht : ElT P t e ti 1 u) (h0 : E s0 = some (L 1 I xs)) (hx : ∀ S,DstOf (Γ.at S) E x s0 lo hi) (hy : ∀ S,SrcOf P (Γ.at S) E y ys) (h1 : lo ≤ hi) (h2 : hi ≤ xs.length) (sd : (Nat.blt d Γ.N && (s0 != d)) = true) :
  Ok P Γ ⟨some d,.call { callee := .builtin .copy,args := #[x,y],argTypes := #[t,t2] },ty,ps,af,gd⟩ E ((E.app [(s0,some (L 1 I (splice xs lo (ys.take (hi - lo)))))] [(s0,1)]).app [(d,some (I ((min ys.length (hi - lo) : Nat) : Int)))] [(d,0)]) := by
 simp only [Bool.and_eq_true] at sd
 have hne : s0 ≠ d := by simpa using sd.2
 intro S
 refine OpOk.value rfl fun a w G hrep => ?_
 obtain ⟨e1,e2,_⟩ := hrep.ent s0 _ h0
 obtain ⟨xa,c,g1,g2⟩ := hy S a w G hrep
 have g3 := hx S a w G hrep
 have hmin : min ys.length (hi - lo) ≤ ys.length := by omega
 have g4 := g2 _ hmin
 have htk : ys.take (hi - lo) = ys.take (min ys.length (hi - lo)) := by rw [List.take_eq_take_iff];omega
 rw [htk]
 generalize hn : min ys.length (hi - lo) = n at *
 have hzl : (ys.take n).length = n := by simp;omega
 have hlen : (splice xs lo (ys.take n)).length = xs.length := by simp [splice,hzl];omega
 have key : ∃ w',(Builtin.copy_ #[t,t2] ty #[a.eval x,a.eval y]).run P w = .ok (goInt n) w' ∧ ∃ G',Rep (Γ.at S) (E.app [(s0,some (L 1 I (splice xs lo (ys.take n))))] [(s0,1)]) G' a.tmps w' := by
  have e2' := e2
  simp only [R] at e2
  rcases e2 with ⟨k1,ad,k2⟩ | ⟨b,cap,cs,e',k1,k2,k3,k4,k5,k6,k7,k8⟩
  ·have hxs : xs = [] := by simpa using k1
   subst hxs
   simp at h2;subst h2
   have hn0 : n = 0 := by omega
   subst hn0
   have hlo : lo = 0 := by omega
   subst hlo
   refine ⟨w,?_,G,?_⟩
   ·rw [g3,k2,g1]
    cases ad <;> cases xa <;> simp [subOf,Builtin.copy_,run_underlying ht.un,Builtin.lenOf,sizeOf,typeInfo,ht.info,Builtin.firstCells,loadCells,loadCellsFrom,storeCells]
   ·refine rep_step hrep rfl ⟨fun _ _ _ => rfl,fun _ _ _ => rfl,fun _ _ _ _ _ _ h _ => ⟨h,rfl⟩,fun _ _ _ h _ => h,fun b cs e h => ⟨cs,h,rfl⟩⟩ hrep.mem (fun s hs => ⟨fun n hn => by simp at hn;simp [Wr.find,hn.1] at hs,rfl⟩) fun s t' hs => ?_
    rw [find_one] at hs
    split at hs
    ·rename_i he;subst he
     simp at hs;subst hs
     simpa [splice] using hrep.ent s0 _ h0
    ·cases hs
  ·rw [List.length_map] at k1 k3 k7
   have hsz : cap ≤ cs.size := by omega
   have hst := run_storeCells_at P b lo e' ((ys.take n).map vI) 0 cs w k2 (by simp;omega) (by intro v hv;obtain ⟨u,_,rfl⟩ := List.mem_map.1 hv;rfl)
   simp only [Nat.add_zero,List.length_map] at hst
   generalize hw' : w.setRow b (cs.toList.take lo ++ (ys.take n).map vI ++ cs.toList.drop (lo + (ys.take n).length)).toArray = w' at hst
   have hcl : cs.toList.length = cs.size := Array.length_toList ..
   by_cases hcap : cap = lo
   ·have hn0 : n = 0 := by omega
    subst hn0
    refine ⟨w,?_,G,?_⟩
    ·rw [g3,k1,g1]
     have g5 : (Builtin.firstCells 1 0 (.slice xa ys.length c)).run P w = .ok #[] w := by simpa using g4
     simp [subOf,Builtin.copy_,run_underlying ht.un,Builtin.lenOf,sizeOf,typeInfo,ht.info,ht.size,show hi - lo = 0 by omega,g5,storeCells,hcap]
    ·refine rep_step hrep rfl ⟨fun _ _ _ => rfl,fun _ _ _ => rfl,fun _ _ _ _ _ _ h _ => ⟨h,rfl⟩,fun _ _ _ h _ => h,fun b cs e h => ⟨cs,h,rfl⟩⟩ hrep.mem (fun s hs => ⟨fun n hn => by simp at hn;simp [Wr.find,hn.1] at hs,rfl⟩) fun s t' hs => ?_
     rw [find_one] at hs
     split at hs
     ·rename_i he;subst he
      simp at hs;subst hs
      simpa [splice] using hrep.ent s0 _ h0
     ·cases hs
   ·refine ⟨w',?_,rep_inplace hrep h0 hlen k1 k2 k3 k4 k5 k6 k7 k8 (by rw [← hw'];exact setRow_heap w b cs _ e' _ k2) ?_ (fun b' h => by rw [← hw'];exact setRow_other w b b' _ h) (by rw [← hw'];exact size_setRow w b _) (by rw [← hw'];rfl) (by rw [← hw'];rfl) fun i v hv => ?_⟩
    ·rw [g3,k1,g1]
     have h9 : Nat.min ys.length (hi - lo) = n := hn
     simp only [subOf,hcap,if_false,Option.map_some,add_off,Nat.zero_add,Nat.mul_one]
     simp only [Builtin.copy_]
     rw [List.map_take] at hst
     simp [run_underlying ht.un,Builtin.lenOf,sizeOf,typeInfo,ht.info,ht.size,h9,g4,hst]
    ·simp [hzl];omega
    ·rw [splice,spl_get _ _ _ _ (by rw [hzl];omega)] at hv
     have h11 : lo + ((ys.take n).map vI).length ≤ cs.toList.length := by simp;omega
     have h10 := spl_get cs.toList ((ys.take n).map vI) lo i h11
     rw [List.length_map] at h10
     rw [List.getElem?_toArray,h10]
     have hor := fun i u hu => ints_at k2 k8 i u hu
     by_cases c1 : i < lo
     ·rw [if_pos c1] at hv ⊢
      simpa using hor i v hv
     ·rw [if_neg c1] at hv ⊢
      by_cases c2 : i < lo + (ys.take n).length
      ·rw [if_pos c2] at hv ⊢
       rw [List.getElem?_map,hv];rfl
      ·rw [if_neg c2] at hv ⊢
       simpa using hor i v hv
 obtain ⟨w',hrun,G',hG'⟩ := key
 refine ⟨_,w',?_,_,rep_put hG' rfl (blt_lt sd.1) (fun _ => vI n) (fun _ => rfl) (I n) (vI n) (by simp [mkV,Gh.put]) (by simp [R,Gh.put]) (by simp [Top])⟩
 simp [execOp,resolve,invoke,builtin,hrun,goInt]
end Go.Ab

namespace Go.Ab
open Go
theorem tupF_copy {G G' : Gh} {s d : Nat} (hd : ∀ z,G'.hd d z = G.hd s z) : (xs : List T) → okTups xs = true → ∀ (j : Nat),tupF G' d (cpF s xs [] j) [] j = tupF G s xs [] j
 | [],_,_ => by simp only [cpF,tupF]
 | x :: xs,h,j => by
  simp only [okTups,Bool.and_eq_true] at h
  simp only [cpF,tupF]
  have hnt : ∀ ys,x ≠ .tup ys := by rintro ys rfl;simp [T.okTup] at h
  have h1 := mkV_copy (G := G) (G' := G') (s := s) (d := d) x [j] [j] hnt (fun z => hd _)
  have h2 : ∀ ys,cpT s x [j] ≠ .tup ys := by
   intro ys
   cases x <;> simp [cpT]
  rw [mkV_mkV1 _ _ _ _ h2] at h1
  rw [h1,tupF_copy hd xs h.2 (j + 1)]
section
variable {P : Program} {Γ : Ctx} {E E' : Env} {d : Nat} {x y : Operand} {ty : TypeId} {ps : String} {af : Array Edge} {gd : Option (Nat × Bool)}
theorem x_mvT {s : Nat} {ts : List T} (hx : E s = some (.tup ts)) (sd : (Nat.blt d Γ.N && okTups ts && (s != d) && okBs [(d,0)] (cpF s ts [] 0)) = true) : Ok P Γ ⟨some d,.move (.tmp s),ty,ps,af,gd⟩ E (E.app [(d,some (.tup (cpF s ts [] 0)))] [(d,0)]) := by
 simp only [Bool.and_eq_true] at sd
 obtain ⟨⟨⟨s1,s2⟩,s3⟩,s4⟩ := sd
 have hne : s ≠ d := by simpa using s3
 intro S
 refine OpOk.value rfl fun a w G hrep => ?_
 obtain ⟨h1,h2,_⟩ := hrep.ent s _ hx
 simp only [R] at h2
 have hk := G.put_keep (w := w) (w' := w) rfl d (fun z => G.hd s z)
 have hz : ∀ z,(G.put d (fun z => G.hd s z)).hd d z = G.hd s z := fun z => by rw [Gh.put_self]
 have htop : ∀ (xs : List T) (j : Nat),Tops (cpF s xs [] j) := by
  intro xs
  induction xs with
  | nil => intro j;simp only [cpF,Tops]
  | cons x xs ih => intro j;simp only [cpF,Tops];exact ⟨cpT_top s x _,ih _⟩
 refine ⟨mkV G s (.tup ts) [],w,?_,_,rep_put hrep rfl (blt_lt s1) (fun z => G.hd s z) (fun z => hrep.mem.one _ _) _ _ (by simp only [mkV];rw [tupF_copy hz ts s2 0])
  (by simp only [R];exact RF_copy (fun p => G.put_other _ p hne) ts [] [] 0 (fun z => hz _) (AllRs.mono (fun r p hr => ⟨hk.hd r p hr,hk.ad r p hr⟩) _ (okBs_all _ (htop ts 0) s4)) h2) (by simp only [Top];exact htop ts 0)⟩
 simp [execOp,eval_tmp h1]
end
end Go.Ab

namespace Go.Ab
open Go
section
variable (ds r : Nat)
inductive MvIn : Env → List (Nat × List Nat) → Env → Prop where
 | nil (E : Env) : MvIn E [] E
 | cons {E E' : Env} {l : List (Nat × List Nat)} (j : Nat) (q : List Nat) (td td' tr tr' u : T) (hd : E ds = some td) (hg : td.get [j] = some (.same r q)) (hr : E r = some tr) (hp : tr.get q.reverse = some u) (huc : Clean u)
   (hs1 : td.set [j] u = td') (hs2 : tr.set q.reverse .any = tr') (sd : (u.single && td.okB [(ds,2),(r,q.length + 1)] && tr.okB [(ds,2),(r,q.length + 1)] && okTups1 td && okTups1 tr && (ds != r) && !q.isEmpty) = true)
   (h : MvIn (E.app [(ds,some td'),(r,some tr')] [(ds,2),(r,q.length + 1)]) l E') : MvIn E ((j,q) :: l) E'
inductive MvOut : Env → List (Nat × List Nat) → Env → Prop where
 | nil (E : Env) : MvOut E [] E
 | cons {E E' : Env} {l : List (Nat × List Nat)} (j : Nat) (q : List Nat) (td td' tr tr' u v0 : T) (hd : E ds = some td) (hg : td.get [j] = some u) (hr : E r = some tr) (hp : tr.get q.reverse = some v0) (huc : Clean u)
   (hs1 : td.set [j] .any = td') (hs2 : tr.set q.reverse u = tr') (sd : (u.single && v0.single && td.okB [(r,q.length + 1),(ds,2)] && tr.okB [(r,q.length + 1),(ds,2)] && okTups1 td && okTups1 tr && (ds != r) && !q.isEmpty) = true)
   (h : MvOut (E.app [(r,some tr'),(ds,some td')] [(r,q.length + 1),(ds,2)]) l E') : MvOut E ((j,q) :: l) E'
end
theorem suf_len {g z : List Nat} (h : g <:+ z) (hn : z ≠ g) : g.length < z.length := by
 have h1 := h.length_le
 rcases Nat.lt_or_ge g.length z.length with h2 | h2
 ·exact h2
 ·exact absurd (h.eq_of_length (by omega)).symm hn
theorem MvIn.rep {Γ : Ctx} {tmps : Array Value} {w : World} {ds r : Nat} {E E' : Env} {l : List (Nat × List Nat)} (h : MvIn ds r E l E') : ∀ {G : Gh},Rep Γ E G tmps w →
  ∃ G',Rep Γ E' G' tmps w ∧ (∀ z,G'.hd r z = G.hd r z) ∧ (∀ j,G'.hd ds [j] = G.hd ds [j]) ∧ ∀ x ∈ l,G.hd ds [x.1] = G.hd r x.2 := by
 induction h with
 | nil E => intro G hr;exact ⟨G,hr,fun _ => rfl,fun _ => rfl,fun x hx => by simp at hx⟩
 | cons j q td td' tr tr' u hd hg hr hp huc hs1 hs2 sd _ ih =>
  intro G hrep
  simp only [Bool.and_eq_true] at sd
  obtain ⟨⟨⟨⟨⟨⟨s1,s2⟩,s3⟩,s4⟩,s5⟩,s6⟩,s7⟩ := sd
  have hne : ds ≠ r := by simpa using s6
  have hq : q ≠ [] := by rintro rfl;simp at s7
  have hsame : G.hd ds [j] = G.hd r q := by
   have := (R_get [j] td _ [] (hrep.ent ds td hd).2.1 hg).1
   simpa [rp,R] using this
  obtain ⟨h1,h2⟩ := rep_tr hrep ds [j] r q td tr u (.same r q) hd (by simpa using hg) rfl hsame hr hp s1 huc hne (by simpa using s2) (by simpa using s3) s4 s5
  rw [if_neg hq,show ([j] : List Nat).reverse = [j] from rfl,hs1,hs2] at h1
  obtain ⟨G',g1,g2,g3,g4⟩ := ih (by simpa using h1)
  have e1 : ∀ z,(G.tr ds [j] r q).hd r z = G.hd r z := fun z => h2 r z (fun h => hne h.1.symm)
  have e2 : ∀ i,(G.tr ds [j] r q).hd ds [i] = G.hd ds [i] := fun i => h2 ds [i] (fun h => by have := suf_len h.2.1 h.2.2;simp at this)
  refine ⟨G',g1,fun z => by rw [g2,e1],fun i => by rw [g3,e2],fun x hx => ?_⟩
  rcases List.mem_cons.1 hx with rfl | hx
  ·exact hsame
  ·have := g4 x hx
   rw [e1,e2] at this;exact this
theorem MvOut.rep {Γ : Ctx} {tmps : Array Value} {w : World} {ds r : Nat} {E E' : Env} {l : List (Nat × List Nat)} (m : Nat) (h : MvOut ds r E l E') : (∀ x ∈ l,x.2.length = m) → ∀ {G : Gh},Rep Γ E G tmps w → (∀ x ∈ l,G.hd ds [x.1] = G.hd r x.2) → ∃ G',Rep Γ E' G' tmps w := by
 induction h with
 | nil E => intro _ G hr _;exact ⟨G,hr⟩
 | @cons E E' l j q td td' tr tr' u v0 hd hg hr hp huc hs1 hs2 sd _ ih =>
  intro hm G hrep hsm
  simp only [Bool.and_eq_true] at sd
  obtain ⟨⟨⟨⟨⟨⟨⟨s1,s1'⟩,s2⟩,s3⟩,s4⟩,s5⟩,s6⟩,s7⟩ := sd
  have hne : ds ≠ r := by simpa using s6
  have hq : q ≠ [] := by rintro rfl;simp at s7
  obtain ⟨h1,h2⟩ := rep_tr hrep r q ds [j] tr td u v0 hr hp s1' (hsm (j,q) (by simp)).symm hd (by simpa using hg) s1 huc (Ne.symm hne) (by simpa using s3) (by simpa using s2) s5 s4
  rw [if_neg (by simp),show ([j] : List Nat).reverse = [j] from rfl,hs1,hs2] at h1
  refine ih (fun x hx => hm x (by simp [hx])) (by simpa using h1) fun x hx => ?_
  have e1 : ∀ z,(G.tr r q ds [j]).hd ds z = G.hd ds z := fun z => h2 ds z (fun h => hne h.1)
  by_cases hz : q <:+ x.2 ∧ x.2 ≠ q
  ·have h3 := suf_len hz.1 hz.2
   rw [hm x (by simp [hx]),hm (j,q) (by simp)] at h3
   omega
  ·have e2 : (G.tr r q ds [j]).hd r x.2 = G.hd r x.2 := h2 r x.2 (fun h => hz h.2)
   rw [e1,e2];exact hsm x (by simp [hx])
theorem valsF_heads {G G' : Gh} {s : Nat} : (xs ys : List T) → (∀ x ∈ xs,x.single = true) → (∀ x ∈ ys,x.single = true) → xs.length = ys.length → ∀ (j : Nat),valsF G s xs [] j = valsF G' s ys [] j → ∀ i,i < xs.length → G.hd s [j + i] = G'.hd s [j + i]
 | [],_,_,_,_,_,_,i,hi => by simp at hi
 | x :: xs,[],_,_,hl,_,_,_,_ => by simp at hl
 | x :: xs,y :: ys,h1,h2,hl,j,h,i,hi => by
  have v1 : ∀ (G : Gh) (t : T) (p : List Nat),t.single = true → vals G s t p = [G.hd s p] := fun G t p ht => by cases t <;> simp [T.single] at ht <;> simp [vals]
  simp only [valsF,v1 G x _ (h1 x (by simp)),v1 G' y _ (h2 y (by simp)),List.singleton_append,List.cons.injEq] at h
  cases i with
  | zero => exact h.1
  | succ i =>
   have := valsF_heads xs ys (fun z hz => h1 z (by simp [hz])) (fun z hz => h2 z (by simp [hz])) (by simpa using hl) (j + 1) h.2 i (by simpa using hi)
   rw [show j + (i + 1) = j + 1 + i by omega];exact this
def singles : List T → Bool
 | [] => true
 | x :: xs => x.single && singles xs
theorem singles_ok : {xs : List T} → singles xs = true → ∀ x ∈ xs,x.single = true
 | [],_,_,h => by simp at h
 | x :: xs,h,y,hy => by
  simp only [singles,Bool.and_eq_true] at h
  rcases List.mem_cons.1 hy with rfl | hy
  ·exact h.1
  ·exact singles_ok h.2 y hy
theorem x_callA {P : Program} {Γ : Ctx} {E E1 E3 : Env} {d : Nat} {ty : TypeId} {ps : String} {af : Array Edge} {gd : Option (Nat × Bool)} {f : FuncId} {xs : List Operand} {ats : Array TypeId} {us res : List T} {ts ts' : List T} (i ds r : Nat) (l : List (Nat × List Nat)) (m : Nat) (hcall : CallsF P f) (hc : FnC P f us res [(i,.agg ts')])
  (hin : MvIn ds r E l E1) (hs : E1 ds = some (.agg ts)) (huc' : Clean (.agg ts')) (hrf' : roFree (.agg ts') = true) (hargs : ArgsOk E1 [(i,ds,.agg ts')] 0 xs us) (hres : ResOk res)
  (hout : MvOut ds r (E1.app (cWr d res [(i,ds,.agg ts')]) (cChg d [(i,ds,.agg ts')])) l E3)
  (sd : (Nat.blt d Γ.N && (d != ds) && (d != r) && (ds != r) && singles ts && singles ts' && (ts.length == ts'.length) && (l.all fun x => x.2.length == m && Nat.blt x.1 ts.length)) = true) (hx : xs[i]? = some (.tmp ds)) (hu : us[i]? = some (.agg ts)) :
  Ok P Γ ⟨some d,.call { callee := .value (.func f),args := xs.toArray,argTypes := ats },ty,ps,af,gd⟩ E E3 := by
 simp only [Bool.and_eq_true] at sd
 obtain ⟨⟨⟨⟨⟨⟨⟨s1,s2⟩,s3⟩,s4⟩,s5⟩,s6⟩,s7⟩,s8⟩ := sd
 have d1 : d ≠ ds := by simpa using s2
 have d2 : d ≠ r := by simpa using s3
 have d3 : ds ≠ r := by simpa using s4
 have hlen : ts.length = ts'.length := by simpa using s7
 have hl : ∀ x ∈ l,x.2.length = m ∧ x.1 < ts.length := fun x hx => by
  have := List.all_eq_true.1 s8 x hx
  simp only [Bool.and_eq_true,beq_iff_eq] at this
  exact ⟨this.1,blt_lt this.2⟩
 intro S a w K Q ⟨hdf,G,hrep⟩ hK
 refine wp_enter (xf := .func f) rfl rfl hcall rfl ?_
 obtain ⟨G1,g1,g2,g3,g4⟩ := hin.rep hrep
 refine (call_own g1 (blt_lt s1) f xs us res [(i,ds,.agg ts')] hc hargs (RwOk.one' (u := .agg ts) d1 hx huc' rfl hrf' hs hu) hres).mono ?_
 rintro e w' ⟨v,rfl,S',G',hS,hk,hG'⟩
 have hE2 : (E1.app (cWr d res [(i,ds,.agg ts')]) (cChg d [(i,ds,.agg ts')])) ds = some (.agg ts') := by simp [Env.app,Wr.find,cWr,d1]
 have hv : mkV G' ds (.agg ts') [] = mkV G1 ds (.agg ts) [] := by
  have a1 := (hG'.ent ds _ hE2).1
  have a2 := (g1.ent ds _ hs).1
  rw [Array.getElem?_setIfInBounds] at a1
  simp only [d1,if_false] at a1
  rw [a2] at a1
  exact (Option.some.inj a1).symm
 simp only [mkV,Value.agg.injEq] at hv
 have hv2 : valsF G' ds ts' [] 0 = valsF G1 ds ts [] 0 := by simpa using congrArg Array.toList hv
 have hheads := valsF_heads ts' ts (singles_ok s6) (singles_ok s5) hlen.symm 0 hv2
 obtain ⟨G3,hG3⟩ := hout.rep m (fun x hx => (hl x hx).1) hG' fun x hx => by
  have h1 := hheads x.1 (by have := (hl x hx).2;omega)
  rw [Nat.zero_add] at h1
  have h2 : G'.hd r x.2 = G1.hd r x.2 := hk.hd r x.2 (fun n hn => by simp [cChg] at hn;rcases hn with ⟨e,_⟩ | ⟨e,_⟩;exact absurd e.symm d2;exact absurd e.symm d3)
  rw [h1,h2,g2,g3];exact g4 x hx
 exact ⟨v,rfl,hK _ _ ⟨S',hS,hdf,G3,hG3⟩⟩
end Go.Ab

namespace Go.Ab
open Go
section
variable {P : Program} {Γ : Ctx} {E : Env} {d : Nat} {x : Operand} {ty : TypeId} {ps : String} {af : Array Edge} {gd : Option (Nat × Bool)}
class ArrT (P : Program) (t : TypeId) (e : outParam TypeId) (ti : outParam TypeInfo) (n : outParam Nat) (k : outParam Nat) : Prop where
 un : P.underlying t = some (.array n e)
 info : P.info? e = some ti
 size : ti.size = k
theorem x_ixA {t e : TypeId} {ti : TypeInfo} {n k r : Nat} {q : List Nat} {xs : List T} {u : T} (i : Nat) (ht : ArrT P t e ti n k) (hx : locT E x = some (r,q,.ptr (.agg xs))) (hu : xs[i]? = some u) (hoff : T.sizes (xs.take i) = i * k) (sd : (Nat.blt d Γ.N && Nat.blt i n) = true) :
  Ok P Γ ⟨some d,.indexAddr t x (.const (.int .i64 i)),ty,ps,af,gd⟩ E (E.app [(d,some (.addr r (i :: 0 :: q)))] [(d,0)]) := by
 simp only [Bool.and_eq_true] at sd
 have hin := blt_lt sd.2
 intro S
 refine OpOk.value rfl fun a w G hrep => ?_
 obtain ⟨g1,g2⟩ := loc_ok hrep hx rfl
 simp only [R] at g1
 obtain ⟨b,cs,e',g4,_,_,_,g5,_⟩ := g1
 simp only [Loc] at g5
 have g6 := LocF_off xs (0 :: q) 0 b 0 i u g5.2 hu
 simp only [Nat.zero_add] at g6
 have g3 : a.eval (.const (.int .i64 i)) = .int .i64 i := rfl
 refine ⟨.pointer (some (G.ad r (i :: 0 :: q))),w,?_,_,rep_put hrep rfl (blt_lt sd.1) (fun _ => .pointer (some (G.ad r (i :: 0 :: q)))) (fun _ => rfl) _ _ (by simp [mkV,Gh.put]) (by simp [R,Gh.put]) (by simp [Top])⟩
 have hlt : (i : Int) < (n : Int) := by omega
 have h0 : (0 : Int) ≤ i := by omega
 have g7 := Loc_ad g6
 have hin2 : i < n := hin
 simp [execOp,Instr.indexAt,g3,g2,g4,asIntOf,run_underlying ht.un,h0,hin2,sizeOf,typeInfo,ht.info,ht.size,add_off,sureAddr_some,g7,hoff]
end
end Go.Ab
namespace Go.Ab
open Go
theorem keepL {E : Env} {ds r s : Nat} {q : List Nat} {tr u t : T} (h : E s = some t) (hne : (Nat.beq ds s || Nat.beq r s) = false := by rfl) (hb : t.okB [(ds,1),(r,q.length + 1)] = true := by rfl) : opT (lendE E ds r q tr u) (.tmp s) = some t := by
 have h1 : ds ≠ s := by rintro rfl;simp at hne
 have h2 : r ≠ s := by rintro rfl;simp at hne
 simp [opT,lendE,Env.app,Wr.find,h1,h2,h,hb]
end Go.Ab
namespace Go.Ab
open Go
section
variable {P : Program} {Γ : Ctx} {pn : Pins} {E E' : Env} {Q Q1 : Exit → Env → Prop} {c c1 c2 : Code} {ops : Array Oper} {o : Oper} {os : List Oper} {id : Nat}
theorem sR (h : RW P Γ pn ops ops.toList E (Andthen P Γ pn c Q)) : CW P Γ pn (.seq (.region id ops false) c) E Q := CW.seq (CW.region h)
theorem rN (h : CW P Γ pn c E Q) : RW P Γ pn ops [] E (Andthen P Γ pn c Q) := RW.nil h
theorem oP (h : Ok P Γ o E E') (k : RW P Γ pn ops os E' Q) (hg : o.guard = none := by rfl) (hp : pn.ok o.dst = true := by rfl) : RW P Γ pn ops (o :: os) E Q := RW.op h k hg hp
def ancs (ops : List Oper) : List (List Nat) := (ops.foldl (fun (acc : Array (List Nat)) o => acc.push ((preds o).foldl (fun l m => m :: (acc.getD m []) ++ l) [])) #[]).toList
theorem CW.drawnA (Xs : List Stp) (hm : P.follows .mixedOrders = true) (hst : StepsOk P Γ ops ops.toList Xs) (hh : HasFrom E Xs) (hQ : Q .normal (runD E (Xs.map fun y => (true,y)))) (hf : fwdFrom 0 ops.toList = true := by rfl)
  (ha : ancFrom (ancs ops.toList) (ancs ops.toList) ops.toList = true := by rfl) (hp : pairsFrom Xs 0 (ancs ops.toList) Xs = true := by rfl) (hpn : ops.toList.all (fun o => pn.ok o.dst) = true := by rfl) : CW P Γ pn (.region id ops true) E Q :=
 CW.drawn Xs _ hm hst hh hQ hf ha hp hpn
theorem CW.lp {σ ρ : Type} (body : σ → Option (σ ⊕ ρ)) (en : σ → Env) (Q1 : ρ → Exit → Env → Prop) {s : σ} {r : ρ} (hg : Ghost Γ E (en s)) (h : ∀ s x,body s = some x → CW P Γ pn c (en s) (Round Γ en Q1 x)) (hr : loopO body s = some r) (hq : ∀ e E',Q1 r e E' → Q e E') : CW P Γ pn (.loop c) E Q :=
 (CW.mono (CW.loop body en Q1 h hr) hq).ghost hg
end
end Go.Ab

namespace Go.Ab
open Go Go.ChangeShapes
abbrev stOf (w : World) : Stb := fun b => w.heap[b]?
theorem cells_get {w : World} {a : Addr} {n : Nat} {cs : List Value} (h : w.cells? 0 a n = some cs) : cs.length = n ∧ ∀ (i : Nat) v,cs[i]? = some v → w.cell? (a.add i) = some v := by
 unfold World.cells? at h
 rw [if_pos (Nat.zero_le _)] at h
 refine ⟨by simpa using mapM_some_length h,fun i v hv => ?_⟩
 have hi : i < n := by
  have := (List.getElem?_eq_some_iff.1 hv).1
  have h2 := mapM_some_length h
  rw [List.length_range] at h2;omega
 rw [← hv]
 exact mapM_some_get h i i (by simp [hi])
theorem cell_at {w : World} {a : Addr} {v : Value} (h : w.cell? a = some v) : a.spot = none ∧ ∃ c e fr,w.heap[a.block]? = some (.cells c e fr) ∧ c[a.off]? = some v := by
 simp only [World.cell?] at h
 split at h
 ·rename_i c e fr hb
  split at h
  ·cases h
  ·rename_i hs
   exact ⟨by cases hq : a.spot with | none => rfl | some _ => rw [hq] at hs;simp at hs,c,e,fr,hb,h⟩
 ·cases h
theorem addr_add {b o m : Nat} : (Addr.mk b o none).add m = ⟨b,o + m,none⟩ := by
 unfold Addr.add;split
 ·rename_i h;subst h;rfl
 ·rfl
theorem choose_list {α : Type} {Q : Nat → α → Prop} : ∀ (n : Nat),(∀ i,i < n → ∃ x,Q i x) → ∃ xs : List α,xs.length = n ∧ ∀ i x,xs[i]? = some x → Q i x
 | 0,_ => ⟨[],rfl,fun i x h => by simp at h⟩
 | n + 1,h => by
  obtain ⟨xs,h1,h2⟩ := choose_list n fun i hi => h i (by omega)
  obtain ⟨y,hy⟩ := h n (by omega)
  refine ⟨xs ++ [y],by simp [h1],fun i x hx => ?_⟩
  rw [List.getElem?_append] at hx
  split at hx
  ·exact h2 i x hx
  ·rename_i hge
   have : i - xs.length = 0 := by
    have := (List.getElem?_eq_some_iff.1 hx).1
    simpa using this
   rw [this] at hx
   simp at hx
   subst hx
   rwa [show i = n from by omega]
theorem RoL_of' {St : Stb} : (xs : List T) → ∀ (cs : Array Value) (o k : Nat),(∀ i x,xs[i]? = some x → RoC St x cs (o + i * k)) → RoL St xs cs o k
 | [],_,_,_,_ => by simp only [RoL]
 | x :: xs,cs,o,k,h => by
  simp only [RoL]
  refine ⟨by simpa using h 0 x rfl,RoL_of' xs cs (o + k) k fun i y hy => ?_⟩
  have := h (i + 1) y (by simpa using hy)
  rwa [show o + k + i * k = o + (i + 1) * k from by rw [Nat.succ_mul];omega]
section
variable {P : Program}
def RdT (P : Program) (t : TypeId) (k : Nat) {α : Type} (f : α → T) (V : α → Prop) : Prop :=
 ∀ {H : Type} (enc : TypeId × Value → H) (w : World) (fuel : Nat) (cs : List Value) (x : DataW H × List MemPlace),DataW.trod enc P w 0 (fun _ => true) true fuel t cs = some x →
  cs.length = k → ∃ d,V d ∧ ∀ (A : Array Value) (o : Nat),(∀ (i : Nat) v,cs[i]? = some v → A[o + i]? = some v) → RoC (stOf w) (f d) A o
theorem rd_int {t : TypeId} {q : IntKind} (hu : P.underlying t = some (.int q)) : RdT P t 1 (IK q) (fun n => (Lit.int q n).wf = true) := by
 intro H enc w fuel cs x h _
 obtain ⟨n,rfl,_,hw⟩ := DataW.trod_int hu h
 exact ⟨n,hw,fun A o hA => by simp only [RoC];exact ⟨by simpa using hA 0 _ rfl,rfl⟩⟩
theorem rd_bool {t : TypeId} (hu : P.underlying t = some .bool) : RdT P t 1 B (fun _ => True) := by
 intro H enc w fuel cs x h _
 obtain ⟨n,rfl,_⟩ := DataW.trod_bool hu h
 exact ⟨n,trivial,fun A o hA => by simp only [RoC];exact ⟨by simpa using hA 0 _ rfl,rfl⟩⟩
theorem rd_str {t : TypeId} (hu : P.underlying t = some .string) : RdT P t 1 Str (fun s => s.size ≤ maxLen) := by
 intro H enc w fuel cs x h _
 obtain ⟨n,rfl,_,hs⟩ := DataW.trod_string hu h
 exact ⟨n,hs,fun A o hA => by simp only [RoC];exact ⟨by simpa using hA 0 _ rfl,rfl⟩⟩
theorem rd_L {α : Type} {f : α → T} {V : α → Prop} {t e : TypeId} {k : Nat} (hu : P.underlying t = some (.slice e)) (hk : P.cellsOf e = k) (hk0 : 0 < k) (h : RdT P e k f V) :
  RdT P t 1 (L k f) (fun xs => xs.length ≤ maxLen ∧ ∀ x ∈ xs,V x) := by
 intro H enc w fuel cs x hx _
 rcases DataW.trod_slice hu hx with ⟨rfl,_⟩ | ⟨a,len,cap,elems,rest,n,rfl,rfl,_,_,hle,hcap,hel,hget,_⟩
 ·refine ⟨[],⟨by simp,by simp⟩,fun A o hA => ?_⟩
  simp only [RoC,List.map_nil,List.length_nil]
  exact ⟨none,0,by simpa using hA 0 _ rfl,Nat.le_refl _,by simp [maxLen],fun h => absurd rfl h⟩
 ·subst hk
  have key : ∀ i,i < len → ∃ y,V y ∧ ∃ cs' : List Value,cs'.length = P.cellsOf e ∧ (∀ (j : Nat) v,cs'[j]? = some v → w.cell? ((a.add (i * P.cellsOf e)).add j) = some v) ∧
    ∀ (A : Array Value) (o : Nat),(∀ (j : Nat) v,cs'[j]? = some v → A[o + j]? = some v) → RoC (stOf w) (f y) A o := by
   intro i hi
   have h1 := hget i hi
   rw [List.getElem?_eq_getElem (by omega)] at h1
   obtain ⟨cs',h2,h3⟩ := Option.bind_eq_some_iff.1 h1
   obtain ⟨h4,h5⟩ := cells_get h2
   obtain ⟨y,h6,h7⟩ := h enc w n cs' _ h3 h4
   exact ⟨y,h6,cs',h4,h5,h7⟩
  obtain ⟨xs,hxl,hxs⟩ := choose_list len key
  refine ⟨xs,⟨by omega,fun y hy => ?_⟩,fun A o hA => ?_⟩
  ·obtain ⟨i,hi,rfl⟩ := List.mem_iff_getElem.1 hy
   exact (hxs i _ (List.getElem?_eq_getElem hi)).1
  ·simp only [RoC,List.length_map,hxl]
   refine ⟨some a,cap,by simpa using hA 0 _ rfl,hle,hcap,fun hne => ?_⟩
   have hpos : 0 < xs.length := by
    cases xs with
    | nil => simp at hne
    | cons _ _ => simp
   obtain ⟨_,cs0,g1,g2,_⟩ := hxs 0 _ (List.getElem?_eq_getElem hpos)
   have hz : a.add (0 * P.cellsOf e) = a := by simp [Addr.add]
   have g3 := g2 0 cs0[0] (List.getElem?_eq_getElem (by omega))
   rw [hz,show a.add 0 = a from by simp [Addr.add]] at g3
   obtain ⟨hsp,c,e',fr,hb,_⟩ := cell_at g3
   obtain ⟨b,off,sp⟩ := a
   simp only at hsp hb
   subst hsp
   refine ⟨b,off,c,e',fr,rfl,hb,RoL_of' _ _ _ _ fun i y hy => ?_⟩
   rw [List.getElem?_map,Option.map_eq_some_iff] at hy
   obtain ⟨z,hz1,rfl⟩ := hy
   obtain ⟨_,cs',g1',g2',g4⟩ := hxs i z hz1
   refine g4 c _ fun j v hv => ?_
   have := g2' j v hv
   rw [addr_add,addr_add] at this
   obtain ⟨_,c2,e2,fr2,hb2,hv2⟩ := cell_at this
   simp only at hb2 hv2
   rw [hb] at hb2
   cases hb2
   exact hv2
theorem RdT.mono {α : Type} {f : α → T} {V V' : α → Prop} {t : TypeId} {k : Nat} (h : RdT P t k f V) (hV : ∀ x,V x → V' x) : RdT P t k f V' := by
 intro H enc w fuel cs x hx hk
 obtain ⟨d,h1,h2⟩ := h enc w fuel cs x hx hk
 exact ⟨d,hV d h1,h2⟩
theorem trodFld {H : Type} {enc : TypeId × Value → H} {w : World} {t : TypeId} {fs : Array Field} {fuel : Nat} {cs : List Value} {x : DataW H × List MemPlace} (hu : P.underlying t = some (.struct fs)) (h : DataW.trod enc P w 0 (fun _ => true) true fuel t cs = some x)
  {i j k : Nat} {f : Field} (hf : fs[i]? = some f) (hj : f.offset = j) (hk : P.cellsOf f.type = k) : ∃ n y,DataW.trod enc P w 0 (fun _ => true) true n f.type ((cs.drop j).take k) = some y := by
 obtain ⟨xs,n,_,_,_,hlen,hget⟩ := DataW.trod_struct hu h
 have hi : i < xs.length := by rw [hlen];exact (Array.getElem?_eq_some_iff.1 hf).1
 have := hget i f hf
 rw [hj,hk,List.getElem?_eq_getElem hi] at this
 exact ⟨n,_,this⟩
end
def one1 (v : Value) : Value := if v.oneCell' then v else .bool false
theorem one1_one (v : Value) : (one1 v).oneCell' = true := by unfold one1;split;assumption;rfl
theorem one1_of {v : Value} (h : v.oneCell' = true) : one1 v = v := by simp [one1,h]
def hd0 (vs : Array Value) (s : Nat) (p : List Nat) : Value :=
 match vs[s]?,p with
 | some (.agg cs),[j] => one1 (cs[j]?.getD (.bool false))
 | some v,[] => one1 v
 | _,_ => .bool false
def G0 (vs : Array Value) : Gh := { hd := hd0 vs,ad := fun _ _ => default,lb := fun _ _ => none,ow := fun _ => none }
theorem mem0 (w : World) (vs : Array Value) : Mem ⟨stOf w,fun _ => False,w,0⟩ (G0 vs) w where
 one s p := by
  simp only [G0,hd0]
  split
  ·exact one1_one _
  ·exact one1_one _
  ·rfl
 lb b o l h := by simp [G0] at h
 ow b l h := by simp [G0] at h
 st b x h := h
 fr b _ _ := rfl
 sz := Nat.le_refl _
 bk := ⟨fun b cs e h => ⟨cs,h,rfl⟩,rfl,rfl⟩
def RdA (P : Program) (t : TypeId) {α : Type} (u : α → T) (V : α → Prop) : Prop :=
 ∀ {H : Type} (enc : TypeId × Value → H) (w : World) (base fuel : Nat) (v : Value) (x : DataW H × List MemPlace),DataW.trod enc P w 0 (fun _ => true) true fuel t v.cells.toList = some x →
  Value.okWide P w .any base t v → ∃ d,V d ∧ ∀ (vs : Array Value) (s : Nat),vs[s]? = some v → some v = some (mkV (G0 vs) s (u d) []) ∧ R (stOf w) (G0 vs) w s (u d) []
def RdC (P : Program) (t : TypeId) {α : Type} (u : α → T) (V : α → Prop) : Prop :=
 ∀ {H : Type} (enc : TypeId × Value → H) (w : World) (fuel : Nat) (c : Value) (x : DataW H × List MemPlace),DataW.trod enc P w 0 (fun _ => true) true fuel t [c] = some x →
  ∃ d,V d ∧ c.oneCell' = true ∧ ∀ (G : Gh) (s : Nat) (p : List Nat),G.hd s p = c → vals G s (u d) p = [c] ∧ R (stOf w) G w s (u d) p
section
variable {P : Program}
theorem rc_int {t : TypeId} {q : IntKind} (hu : P.underlying t = some (.int q)) : RdC P t (IK q) (fun n => (Lit.int q n).wf = true) := by
 intro H enc w fuel c x h
 obtain ⟨n,h1,_,hw⟩ := DataW.trod_int hu h
 simp only [List.cons.injEq,and_true] at h1
 subst h1
 exact ⟨n,hw,rfl,fun G s p hp => ⟨by simp only [vals,hp],by simp only [R,hp]⟩⟩
theorem rc_bool {t : TypeId} (hu : P.underlying t = some .bool) : RdC P t B (fun _ => True) := by
 intro H enc w fuel c x h
 obtain ⟨n,h1,_⟩ := DataW.trod_bool hu h
 simp only [List.cons.injEq,and_true] at h1
 subst h1
 exact ⟨n,trivial,rfl,fun G s p hp => ⟨by simp only [vals,hp],by simp only [R,hp]⟩⟩
theorem rc_str {t : TypeId} (hu : P.underlying t = some .string) : RdC P t Str (fun s => s.size ≤ maxLen) := by
 intro H enc w fuel c x h
 obtain ⟨n,h1,_,hs⟩ := DataW.trod_string hu h
 simp only [List.cons.injEq,and_true] at h1
 subst h1
 exact ⟨n,hs,rfl,fun G s p hp => ⟨by simp only [vals,hp],by simp only [R,hp]⟩⟩
theorem rc_ro {α : Type} {f : α → T} {V : α → Prop} {t : TypeId} (h : RdT P t 1 f V) (h1 : ∀ {H : Type} (enc : TypeId × Value → H) (w : World) (fuel : Nat) (c : Value) (x : DataW H × List MemPlace),DataW.trod enc P w 0 (fun _ => true) true fuel t [c] = some x → c.oneCell' = true) :
  RdC P t (fun x => T.ro (f x)) V := by
 intro H enc w fuel c x hx
 obtain ⟨d,g1,g2⟩ := h enc w fuel [c] x hx rfl
 refine ⟨d,g1,h1 enc w fuel c x hx,fun G s p hp => ⟨by simp only [vals,hp],?_⟩⟩
 simp only [R,hp]
 exact g2 _ _ fun i v hv => by
  cases i with
  | zero => simpa using hv
  | succ i => simp at hv
theorem rc_L {α : Type} {f : α → T} {V : α → Prop} {t e : TypeId} {k : Nat} (hu : P.underlying t = some (.slice e)) (hk : P.cellsOf e = k) (hk0 : 0 < k) (h : RdT P e k f V) : RdC P t (fun xs => T.ro (L k f xs)) (fun xs => xs.length ≤ maxLen ∧ ∀ x ∈ xs,V x) :=
 rc_ro (rd_L hu hk hk0 h) fun enc w fuel c x hx => by
  rcases DataW.trod_slice hu hx with ⟨h1,_⟩ | ⟨a,len,cap,_,_,_,_,h1,_⟩ <;>
  ·simp only [List.cons.injEq,and_true] at h1
   subst h1;rfl
theorem ra_cell {α : Type} {u : α → T} {V : α → Prop} {t : TypeId} (hs : ∀ x,(u x).single = true ∧ ∀ G s,mkV G s (u x) [] = G.hd s []) (h : RdC P t u V)
  (hv : ∀ {w : World} {base : Nat} {v : Value},Value.okWide P w .any base t v → v.oneCell' = true) : RdA P t u V := by
 intro H enc w base fuel v x hx hok
 have h1 : v.cells.toList = [v] := by
  have := hv hok
  cases v <;> simp_all [Value.oneCell',Value.cells]
 rw [h1] at hx
 obtain ⟨d,g1,g2,g3⟩ := h enc w fuel v x hx
 refine ⟨d,g1,fun vs s hvs => ?_⟩
 have hhd : (G0 vs).hd s [] = v := by
  simp only [G0,hd0,hvs]
  cases v <;> first | rfl | simp [Value.oneCell'] at g2
 exact ⟨by rw [(hs d).2,hhd],(g3 _ _ _ hhd).2⟩
theorem okWide_struct {w : World} {base : Nat} {t : TypeId} {fs : Array Field} {v : Value} (hu : P.underlying t = some (.struct fs)) (h : Value.okWide P w .any base t v) : ∃ cs,v = .agg cs ∧ cs.size = P.cellsOf t := by
 simp only [Value.okWide,hu] at h
 obtain ⟨cs,h1,h2,_⟩ := h
 exact ⟨cs,h1,h2⟩
theorem ra_S3 {α β γ δ : Type} {ua : α → T} {ub : β → T} {uc : γ → T} {Va : α → Prop} {Vb : β → Prop} {Vc : γ → Prop} {t : TypeId} {f0 f1 f2 : Field} (mk : α → β → γ → δ) {u : δ → T} {V : δ → Prop}
  (hu : P.underlying t = some (.struct #[f0,f1,f2])) (hc : P.cellsOf t = 3) (h0 : f0.offset = 0 ∧ P.cellsOf f0.type = 1) (h1 : f1.offset = 1 ∧ P.cellsOf f1.type = 1) (h2 : f2.offset = 2 ∧ P.cellsOf f2.type = 1)
  (ra : RdC P f0.type ua Va) (rb : RdC P f1.type ub Vb) (rc : RdC P f2.type uc Vc) (hmk : ∀ a b c,u (mk a b c) = T.agg [ua a,ub b,uc c]) (hV : ∀ a b c,Va a → Vb b → Vc c → V (mk a b c)) : RdA P t u V := by
 intro H enc w base fuel v x hx hok
 obtain ⟨cs,rfl,hsz⟩ := okWide_struct hu hok
 obtain ⟨l,rfl⟩ : ∃ l : List Value,cs = l.toArray := ⟨cs.toList,by simp⟩
 rw [hc,List.size_toArray] at hsz
 obtain ⟨c0,c1,c2,rfl⟩ : ∃ a b c,l = [a,b,c] := by
  match l,hsz with
  | [a,b,c],_ => exact ⟨a,b,c,rfl⟩
 simp only [Value.cells] at hx
 obtain ⟨n0,y0,g0⟩ := trodFld hu hx (i := 0) rfl h0.1 h0.2
 obtain ⟨n1,y1,g1⟩ := trodFld hu hx (i := 1) rfl h1.1 h1.2
 obtain ⟨n2,y2,g2⟩ := trodFld hu hx (i := 2) rfl h2.1 h2.2
 simp only [List.drop_succ_cons,List.drop_zero,List.take_succ_cons,List.take_zero] at g0 g1 g2
 obtain ⟨a,a1,a2,a3⟩ := ra enc w n0 c0 _ g0
 obtain ⟨b,b1,b2,b3⟩ := rb enc w n1 c1 _ g1
 obtain ⟨c,e1,e2,e3⟩ := rc enc w n2 c2 _ g2
 refine ⟨mk a b c,hV a b c a1 b1 e1,fun vs s hvs => ?_⟩
 have k0 : (G0 vs).hd s [0] = c0 := by simp [G0,hd0,hvs,one1_of a2]
 have k1 : (G0 vs).hd s [1] = c1 := by simp [G0,hd0,hvs,one1_of b2]
 have k2 : (G0 vs).hd s [2] = c2 := by simp [G0,hd0,hvs,one1_of e2]
 rw [hmk]
 simp only [mkV,valsF,(a3 _ _ _ k0).1,(b3 _ _ _ k1).1,(e3 _ _ _ k2).1,List.cons_append,List.nil_append,R,RF]
 exact ⟨trivial,(a3 _ _ _ k0).2,(b3 _ _ _ k1).2,(e3 _ _ _ k2).2,trivial⟩
end
theorem FnC.top {P : Program} {f : FuncId} {us : List T} (h : FnC P f us [B true] []) {w : World} {vs : Array Value} (hsz : vs.size = us.length)
  (ha : ∀ (i : Nat) u,us[i]? = some u → vs[i]? = some (mkV (G0 vs) i u []) ∧ R (stOf w) (G0 vs) w i u []) :
  Calls P f vs w fun e w' => e = .returned (.bool true) ∧ w'.os = w.os ∧ w'.output = w.output ∧ w.heap.size ≤ w'.heap.size ∧ ∀ b,b < w.heap.size → w'.heap[b]? = w.heap[b]? := by
 refine (h (stOf w) (fun _ => False) w (G0 vs) vs hsz (fun i u hu => ?_) (mem0 w vs)).mono fun e w' => ?_
 ·obtain ⟨h1,h2⟩ := ha i u hu
  refine ⟨?_,h2⟩
  rw [h1]
 ·rintro ⟨S',G',nd,_,he,hm,hnd,hr,_,_⟩
  match nd,hnd with
  | [(s,p,t)],hnd =>
   simp only [List.map_cons,List.map_nil,List.cons.injEq,and_true] at hnd
   subst hnd
   have := (hr (s,p,B true) (by simp)).1
   simp only [R] at this
   exact ⟨by rw [he];simp only [retV,mkV1,this],hm.bk.os,hm.bk.out,hm.sz,fun b hb => hm.fr b hb (fun h => h)⟩
theorem trodAll_stays {H : Type} {enc : TypeId × Value → H} {P : Program} (hl : laidOutB P = true) {W W' : World} {sp : Nat → Bool} : ∀ {ts : List TypeId} {vs : List Value} {ds : List (DataW H)} {ps : List MemPlace},(∀ t ∈ ts,P.readableRec t = true ∧ t < P.types.size) →
  DataW.TrodAll enc P W 0 (fun _ => true) true ts vs ds ps → (∀ p ∈ ps,W.sameAt W' p) → (∀ p ∈ ps,sp p.block = true) → DataW.TrodAll enc P W' 0 sp true ts vs ds ps
 | [],[],[],_,_,h,_,_ => h
 | t :: ts,v :: vs,d :: ds,ps,hr,h,h1,h2 => by
  obtain ⟨p,q,g1,g2,rfl⟩ := h
  exact ⟨p,q,Go.WideElems.Trod_stays hl (hr t (by simp)).1 (hr t (by simp)).2 g1 (fun x hx => h1 x (by simp [hx])) (fun x hx => h2 x (by simp [hx])),
   trodAll_stays hl (fun t' ht' => hr t' (by simp [ht'])) g2 (fun x hx => h1 x (by simp [hx])) (fun x hx => h2 x (by simp [hx])),rfl⟩
 | [],_ :: _,_,_,_,h,_,_ | [],[],_ :: _,_,_,h,_,_ | _ :: _,[],_,_,_,h,_,_ | _ :: _,_ :: _,[],_,_,h,_,_ => h.elim
theorem law_lifted {C : Checked} {os : Os} (own : ownKnob C.prog.godebug = none) (started : os.Started) {f : FuncId} {fn : Func} (noInit : C.prog.inits.idxOf? f = none) (hfn : C.prog.funcs[f]? = some fn) {H : Type} {enc : TypeId × Value → H} {s : ChangeSpec} {conds : List PathCond} {apart fresh handsOn again : Bool}
  (witness : ∃ (w : World) (tape : Tape) (i : Input),w.os = os ∧ (w.forCall tape i).Shaped C.prog ∧ i.vars = [] ∧ Input.okWide C.prog (w.forCall tape i) .any w.heap.size f i ∧
   s.pre6 enc C.prog fn conds apart (w.forCall tape i).memory i.args ∧ Assume.holds {} C.prog (lone (Frame.enter C.prog f i.args .normal) [] (w.forCall tape i)))
  (hs : ∀ (l : List (DataW H)),l.length = fn.params.size → (s.fn H l).results = [.lit (.bool true)] ∧ (s.fn H l).args = l ∧ (s.fn H l).vars = []) (hvars : s.vars = []) {tb : TypeId} (hrt : fn.resultTypes = #[tb]) (hb : C.prog.underlying tb = some .bool)
  (laid : laidOutB C.prog = true) (hread : fn.params.toList.all (fun t => C.prog.readableRec t && decide (t < C.prog.types.size)) = true)
  (law : ∀ (W : World) (base : Nat) (args : Array Value) (ds : List (DataW H)) (p : List MemPlace),(∀ (j : Nat) t v,fn.params[j]? = some t → args[j]? = some v → Value.okWide C.prog W .any base t v) →
   DataW.TrodAll enc C.prog W 0 (fun _ => true) true fn.params.toList args.toList ds p →
   ∃ us : List T,args.size = us.length ∧ FnC C.prog f us [B true] [] ∧ ∀ (i : Nat) u,us[i]? = some u → args[i]? = some (mkV (G0 args) i u []) ∧ R (stOf W) (G0 args) W i u []) :
  ReturnsInHanded {} C os f .any (s.pre6 enc C.prog fn conds apart) (s.post enc C.prog fn apart fresh handsOn again) := by
 refine returnsInHanded_of_change (C := C) own started noInit hfn witness ?_
 intro W base args ds gs before hval hW _ _
 have hW' := hW
 obtain ⟨p,q,hA,hV,hbq,hfz,hnd⟩ := hW
 obtain ⟨us,h1,h2,h3⟩ := law W base args ds p hval hA
 have hl : ds.length = fn.params.size := by
  have : ∀ {ts : List TypeId} {vs : List Value} {ds : List (DataW H)} {p : List MemPlace},DataW.TrodAll enc C.prog W 0 (fun _ => true) true ts vs ds p → ds.length = ts.length := by
   intro ts
   induction ts with
   | nil => intro vs ds p h;cases vs <;> cases ds <;> first | rfl | exact h.elim
   | cons t ts ih => intro vs ds p h;cases vs <;> cases ds <;> first | exact h.elim | (obtain ⟨_,_,_,g,_⟩ := h;simp [ih g])
  simpa using this hA
 rw [hvars] at hV
 have hq : gs = [] ∧ q = [] := by
  cases gs with
  | nil => exact ⟨rfl,hV⟩
  | cons _ _ => exact hV.elim
 obtain ⟨rfl,rfl⟩ := hq
 have hlt := hW'.lt
 refine (h2.top h1 h3).mono fun e w' ⟨he,ho,hq,hsz,hh⟩ => ⟨_,he,?_⟩
 have hsame : ∀ p ∈ before,W.sameAt w' p := fun p hp => by
  have := hlt p hp
  cases p with
  | cell b off => simp only [World.sameAt,World.cell?,hh b this]
  | map b => exact hh b this
 obtain ⟨k1,k2,k3⟩ := hs ds hl
 have hbp : before = p := by simpa using hbq
 subst hbp
 have hrd : ∀ t ∈ fn.params.toList,C.prog.readableRec t = true ∧ t < C.prog.types.size := fun t ht => by
  have := List.all_eq_true.1 hread t ht
  simpa using this
 have hres : ∀ (b : Nat) (sp : Nat → Bool) (hd : Bool),DataW.TrodAll enc C.prog w' b sp hd fn.resultTypes.toList ((Value.bool true).resultList fn.resultTypes.size) (s.fn H (ds ++ [])).results [] := fun b sp hd => by
  rw [hrt,List.append_nil,k1]
  exact ⟨[],[],⟨1,by simp [DataW.trod,hb,Value.cells]⟩,⟨rfl,rfl⟩⟩
 have hargs : ∀ sp : Nat → Bool,(∀ p ∈ before,sp p.block = true) → DataW.TrodAll enc C.prog w' 0 sp true fn.params.toList args.toList (s.fn H (ds ++ [])).args before := fun sp hsp => by
  rw [List.append_nil,k2]
  exact trodAll_stays laid hrd hA hsame hsp
 have hvrs : ∀ sp : Nat → Bool,DataW.TrodVars enc C.prog w' sp s.vars (s.fn H (ds ++ [])).vars [] := fun sp => by
  rw [hvars,List.append_nil,k3];rfl
 have hold : ∀ p ∈ before,(fun b => decide (b < W.heap.size)) p.block = true := fun p hp => by simpa using hlt p hp
 have hfr : ∀ p ∈ before,∀ o,w'.frozen? ⟨p.block,o,none⟩ = W.frozen? ⟨p.block,o,none⟩ := fun p hp o => by
  simp only [World.frozen?,hh _ (hlt p hp)]
 refine ⟨ds,[],before,[],before,[],hW',hres _ _ _,hargs _ hold,hvrs _,⟨ho,hq,fun i hi => ?_⟩,fun _ => ⟨fun j t r hj hr => ?_,_,_,([] ++ before) ++ [],⟨[] ++ before,[],trodAll_append (hargs _ (fun _ _ => rfl)) (hres _ _ _),hvrs _,rfl,fun b off hp => ?_,fun ha => ?_⟩,fun p hp _ => ?_⟩⟩
 ·rw [hh i hi]
  cases hx : W.heap[i]? with
  | none => rfl
  | some o => cases o <;> simp
 ·rw [hrt] at hj hr
  match j,hj,hr with
  | 0,hj,hr =>
   simp [Value.resultList] at hj hr
   subst hj;subst hr
   simp [Value.okWide,hb,Cell.okWide,Cell.ok]
 ·have hp' : MemPlace.cell b off ∈ before := by simpa using hp
  exact (hfr _ hp' off).trans (hfz b off hp')
 ·have := hnd ha
  simpa using this
 ·simpa using hp
end Go.Ab

namespace Go.Ab
open Go
def HoldS (hs : List Nat) (E : Env) : Prop := ∀ s,hs.contains s = true → ∃ k xs,E s = some (.sl k xs)
def wrS1 (hs : List Nat) (z : Nat × Option T) : Bool := !hs.contains z.1 || match z.2 with
 | some (.sl _ _) => true
 | _ => false
def wrS (hs : List Nat) (X : Stp) : Bool := X.l.all fun y => y.1.all (wrS1 hs)
theorem find_key {s : Nat} {x : Option T} : ∀ {wr : Wr},wr.find s = some x → (s,x) ∈ wr
 | [],h => by simp [Wr.find] at h
 | (k,y) :: wr,h => by
  simp only [Wr.find] at h
  split at h
  ·rename_i e;subst e;simp at h;subst h;simp
  ·exact List.mem_cons_of_mem _ (find_key h)
theorem HoldS.apps {hs : List Nat} : ∀ (l : Apps) (E : Env),HoldS hs E → (l.all fun y => y.1.all (wrS1 hs)) = true → HoldS hs (E.apps l)
 | [],_,h,_ => h
 | x :: l,E,h,hw => by
  simp only [List.all_cons,Bool.and_eq_true] at hw
  refine HoldS.apps l (E.app x.1 x.2) (fun s hs' => ?_) hw.2
  obtain ⟨k,xs,he⟩ := h s hs'
  unfold Env.app
  cases hf : x.1.find s with
  | some y =>
   have h1 := List.all_eq_true.1 hw.1 _ (find_key hf)
   simp only [wrS1,hs',Bool.not_true,Bool.false_or] at h1
   cases y with
   | none => simp at h1
   | some t =>
    cases t with
    | sl k ys => exact ⟨k,ys,rfl⟩
    | _ => simp at h1
  | none => simp only [he];exact ⟨k,xs,by simp [T.okB]⟩
theorem HoldS.runD {hs : List Nat} : ∀ (l : List (Bool × Stp)) (E : Env),HoldS hs E → (∀ y ∈ l,wrS hs y.2 = true) → HoldS hs (runD E l)
 | [],_,h,_ => h
 | (b,X) :: l,E,h,hw => by
  simp only [Go.Ab.runD]
  refine HoldS.runD l _ ?_ fun y hy => hw y (by simp [hy])
  cases b with
  | true => exact HoldS.apps X.l E h (hw (true,X) (by simp))
  | false => exact h
section
variable {P : Program} {Γ : Ctx} {pn : Pins} {E E' : Env} {Q : Exit → Env → Prop} {ops : Array Oper} {o : Oper} {os : List Oper} {id : Nat} {wr : Wr} {chg : Chg} {hs : List Nat}
def StepsOkI (P : Program) (Γ : Ctx) (hs : List Nat) (ops : Array Oper) : List Oper → List Stp → Prop
 | [],[] => True
 | o :: os,X :: Xs => (∀ E : Env,E.Has X.rd → HoldS hs E → IxOk P Γ ops o E (E.apps X.l)) ∧ StepsOkI P Γ hs ops os Xs
 | _,_ => False
theorem StepsOkI.get : ∀ (os : List Oper) (Xs : List Stp),StepsOkI P Γ hs ops os Xs → os.length = Xs.length ∧ ∀ (i : Nat) (o : Oper) (X : Stp),os[i]? = some o → Xs[i]? = some X → ∀ E : Env,E.Has X.rd → HoldS hs E → IxOk P Γ ops o E (E.apps X.l)
 | [],[],_ => ⟨rfl,fun i o X h => by simp at h⟩
 | o :: os,X :: Xs,h => by
  obtain ⟨h1,h2⟩ := StepsOkI.get os Xs h.2
  refine ⟨by simp [h1],fun i o' X' ho hX => ?_⟩
  cases i with
  | zero => simp at ho hX;subst ho hX;exact h.1
  | succ i => exact h2 i o' X' (by simpa using ho) (by simpa using hX)
 | [],_ :: _,h => by simp [StepsOkI] at h
 | _ :: _,[],h => by simp [StepsOkI] at h
theorem StepsOkI.snoc {X : Stp} : ∀ (os : List Oper) (Xs : List Stp),StepsOkI P Γ hs ops os Xs → (∀ E : Env,E.Has X.rd → HoldS hs E → IxOk P Γ ops o E (E.apps X.l)) → StepsOkI P Γ hs ops (os ++ [o]) (Xs ++ [X])
 | [],[],_,h => ⟨h,trivial⟩
 | _ :: os,_ :: Xs,h1,h => ⟨h1.1,StepsOkI.snoc os Xs h1.2 h⟩
 | [],_ :: _,h,_ => by simp [StepsOkI] at h
 | _ :: _,[],h,_ => by simp [StepsOkI] at h
theorem HasFrom.snoc {X : Stp} : ∀ (Xs : List Stp) (E : Env),HasFrom E Xs → (runD E (Xs.map fun y => (true,y))).Has X.rd → HasFrom E (Xs ++ [X])
 | [],_,_,h => ⟨by simpa [runD] using h,trivial⟩
 | _ :: Xs,_,h1,h => ⟨h1.1,HasFrom.snoc Xs _ h1.2 (by simpa [runD] using h)⟩
theorem wpAny_stepsI {E0 : Env} {hs0 : List Nat} {Xs : List Stp} {an : List (List Nat)} {Q' : Exit → Act → World → Prop} (hf : fwdFrom 0 ops.toList = true) (ha : ancFrom an an ops.toList = true) (hp : pairsFrom Xs 0 an Xs = true)
  (hst : StepsOkI P Γ hs0 ops ops.toList Xs) (hI : HoldS hs0 E0) (hw : Xs.all (wrS hs0) = true) (hh : HasFrom E0 Xs) (hpn : ops.toList.all (fun o => pn.ok o.dst) = true) (hQ : ∀ a' w',Sim2 Γ (runD E0 (Xs.map fun y => (true,y))) a' w' → pn.Hold a' → Q' .normal a' w') :
  ∀ (fuel : Nat) (L : List Bool) (a : Act) (w : World),L.length = ops.size → L.count false = fuel → Closed ops L → Sim2 Γ (runD E0 (L.zip Xs)) a w → pn.Hold a → wpAny P .any ops Q' fuel L.toArray a w := by
 obtain ⟨hlen,hstep⟩ := StepsOkI.get _ _ hst
 have hlen' : Xs.length = ops.size := by rw [← hlen];simp
 intro fuel
 induction fuel with
 | zero =>
  intro L a w hL hcnt hcl hs hpa
  have hall : ∀ b ∈ L,b = true := fun b hb => by
   cases b with
   | true => rfl
   | false => exact absurd hb (List.count_eq_zero.1 hcnt)
  have hLt : L = List.replicate ops.size true := by
   rw [← hL];exact List.eq_replicate_iff.2 ⟨rfl,hall⟩
  refine ⟨?_,?_⟩
  ·apply List.eq_nil_iff_forall_not_mem.2
   intro j hj
   obtain ⟨h1,o,ho,_⟩ := mem_ready.1 hj
   have hlt := (Array.getElem?_eq_some_iff.1 ho).1
   rw [hLt] at h1
   simp [hlt] at h1
  ·refine hQ a w ?_ hpa
   have : L.zip Xs = Xs.map fun y => (true,y) := by
    rw [hLt,← hlen']
    clear hs hL hLt hall hcnt hcl hst hw hh hp hlen hlen' hstep hQ
    induction Xs with
    | nil => rfl
    | cons X Xs ih => simp [List.replicate_succ,ih]
   rw [this] at hs;exact hs
 | succ fuel ih =>
  intro L a w hL hcnt hcl hs hpa
  refine ⟨fun hr => ?_,fun i hi => ?_⟩
  ·
   exfalso
   have hex : ∃ m : Nat,L[m]? = some false := by
    have : false ∈ L := by
     apply Classical.byContradiction
     intro h
     rw [List.count_eq_zero.2 h] at hcnt
     omega
    exact List.mem_iff_getElem?.1 this
   obtain ⟨m,hm,hmin⟩ := least hex
   have hmlt := (List.getElem?_eq_some_iff.1 hm).1
   have hom : ops[m]? = some ops[m] := by simp [hL ▸ hmlt]
   have : m ∈ Region.ready .any ops L.toArray := by
    refine mem_ready.2 ⟨by simp [Array.getD_eq_getD_getElem?,hm],ops[m],hom,fun e he hb => ?_⟩
    have hpm : e.on ∈ preds ops[m] := by
     simp only [preds,List.mem_map,List.mem_filter]
     exact ⟨e,⟨by simpa using he,hb⟩,rfl⟩
    have hlt := fwd_get ops.toList 0 m _ hf (by rw [Array.getElem?_toList];exact hom) _ hpm
    rw [Nat.zero_add] at hlt
    cases hL1 : L[e.on]? with
    | none => rw [List.getElem?_eq_none_iff] at hL1;omega
    | some b =>
     cases b with
     | false => exact absurd hL1 (hmin _ hlt)
     | true => simp [Array.getD_eq_getD_getElem?,hL1]
   rw [hr] at this
   cases this
  ·obtain ⟨h1,o,ho,hall⟩ := mem_ready.1 hi
   have hlt := (Array.getElem?_eq_some_iff.1 ho).1
   have hLi : L[i]? = some false := by
    cases hb : L[i]? with
    | none => rw [List.getElem?_eq_none_iff] at hb;omega
    | some b => simp [Array.getD_eq_getD_getElem?,hb] at h1;rw [h1]
   have hpr : ∀ m ∈ preds o,L[m]? = some true := by
    intro m hm
    simp only [preds,List.mem_map,List.mem_filter] at hm
    obtain ⟨e,⟨he,hb⟩,rfl⟩ := hm
    have := hall e (by simpa using he) hb
    cases hL1 : L[e.on]? with
    | none => simp [Array.getD_eq_getD_getElem?,hL1] at this
    | some b => simp [Array.getD_eq_getD_getElem?,hL1] at this;rw [this]
   have hanc := anc_listed hf ha hcl i i (Nat.le_refl _) o ho hpr
   have hXi : Xs[i]? = some Xs[i] := by simp [hlen' ▸ hlt]
   generalize hXe : Xs[i] = X at hXi
   have hlate : ∀ (j : Nat) (Y : Stp),Xs[j]? = some Y → i < j → L[j]? = some true → X.apart Y = true := by
    intro j Y hY hij hj
    rcases pairs_get Xs Xs 0 an j Y hp hY i X (by omega) hXi with h | h
    ·have hjlt := (List.getElem?_eq_some_iff.1 hY).1
     have hoj : ops[j]? = some ops[j] := by simp [hlen' ▸ hjlt]
     have := anc_listed hf ha hcl j j (Nat.le_refl _) _ hoj (hcl j _ hoj hj) i h
     rw [hLi] at this;cases this
    ·exact h
   have hearly : ∀ (j : Nat) (Y : Stp),Xs[j]? = some Y → j < i → L[j]? = some false → Y.apart X = true := by
    intro j Y hY hij hj
    rcases pairs_get Xs Xs 0 an i X hp hXi j Y (by omega) hY with h | h
    ·rw [hanc j h] at hj;cases hj
    ·exact h
   have hpre : ∀ y ∈ (L.take i).zip (Xs.take i),∃ j : Nat,j < i ∧ L[j]? = some y.1 ∧ Xs[j]? = some y.2 := by
    intro y hy
    obtain ⟨j,g1,g2⟩ := zip_get hy
    rw [List.getElem?_take] at g1 g2
    split at g1
    ·rename_i hlt';simp [hlt'] at g2;exact ⟨j,hlt',g1,g2⟩
    ·cases g1
   have hpost : ∀ y ∈ (L.drop (i + 1)).zip (Xs.drop (i + 1)),∃ j : Nat,i < j ∧ L[j]? = some y.1 ∧ Xs[j]? = some y.2 := by
    intro y hy
    obtain ⟨j,g1,g2⟩ := zip_get hy
    rw [List.getElem?_drop] at g1 g2
    exact ⟨i + 1 + j,by omega,g1,g2⟩
   have hsp := zip_split hLi hXi
   have hhas : (runD E0 (L.zip Xs)).Has X.rd := by
    rw [hsp,runD_append]
    simp only [runD,Bool.false_eq_true,if_false]
    have h0 := HasFrom.get Xs E0 hh i X hXi
    refine h0.of fun s t hst hs0 => ?_
    have hsm : s ∈ X.rd.map (·.1) := List.mem_map.2 ⟨_,hst,rfl⟩
    refine runD_keep _ _ (fun y hy hb => ?_) ?_
    ·obtain ⟨j,g1,g2,g3⟩ := hpost y hy
     have := Stp.apart_spec (hlate j y.2 g3 g1 (by rw [g2,hb]))
     exact ⟨fun hs' => this.2.2.1 s hs' hsm,fun z hz => this.2.2.2 _ hst z hz⟩
    ·have hmp : ((L.take i).zip (Xs.take i)).map (fun y => (true,y.2)) = (Xs.take i).map fun y => (true,y) := by
      have hl2 : (L.take i).length = (Xs.take i).length := by simp;omega
      rw [show (fun y : Bool × Stp => (true,y.2)) = (fun y => (true,y)) ∘ Prod.snd from rfl,← List.map_map,List.map_snd_zip (by omega)]
     refine runD_less _ E0 E0 (fun y hy hb hs' => ?_) (fun _ h => h) t (by rw [hmp];exact hs0)
     obtain ⟨j,g1,g2,g3⟩ := hpre y hy
     have := Stp.apart_spec (hearly j y.2 g3 g1 (by rw [g2,hb]))
     exact this.2.1 s hs' hsm
   have hnext : runD E0 ((L.set i true).zip Xs) = (runD E0 (L.zip Xs)).apps X.l := by
    have hLs : (L.set i true)[i]? = some true := by simp [hL ▸ hlt]
    rw [zip_split hLs hXi,hsp,runD_append,runD_append]
    simp only [runD,if_true,Bool.false_eq_true,if_false,List.take_set_of_le (Nat.le_refl i),List.drop_set_of_lt (Nat.lt_succ_self i)]
    refine runD_late _ X _ fun y hy hb => ?_
    obtain ⟨j,g1,g2,g3⟩ := hpost y hy
    exact (Stp.apart_spec (hlate j y.2 g3 g1 (by rw [g2,hb]))).1
   have hstp := hstep i o X (by rw [Array.getElem?_toList];exact ho) hXi _ hhas (HoldS.runD (L.zip Xs) E0 hI fun y hy => List.all_eq_true.1 hw _ (by obtain ⟨j,_,g⟩ := zip_get hy;exact List.mem_of_getElem? g))
   unfold wpOp
   simp only [ho]
   refine hstp a w _ Q' hs fun a' w' hs' hfr => ?_
   rw [List.setIfInBounds_toArray]
   have hok : pn.ok o.dst = true := List.all_eq_true.1 hpn o (List.mem_of_getElem? (by rw [Array.getElem?_toList];exact ho))
   refine ih (L.set i true) a' w' (by simp [hL]) (by have := count_set hLi;omega) ?_ (by rw [hnext];exact hs') (hpa.frame hok hfr)
   intro k ok hk hkt m hm
   by_cases hki : k = i
   ·subst hki
    rw [ho] at hk;simp at hk;subst hk
    rw [List.getElem?_set]
    split
    ·split
     ·rfl
     ·omega
    ·exact hpr m hm
   ·rw [List.getElem?_set_ne (Ne.symm hki)] at hkt
    rw [List.getElem?_set]
    split
    ·split
     ·rfl
     ·omega
    ·exact hcl k ok hk hkt m hm
theorem CW.drawnI {hs0 : List Nat} {id : Nat} {E : Env} {Q : Exit → Env → Prop} (Xs : List Stp) (an : List (List Nat)) (hm : P.follows .mixedOrders = true) (hst : StepsOkI P Γ hs0 ops ops.toList Xs) (hI : HoldS hs0 E) (hw : Xs.all (wrS hs0) = true) (hh : HasFrom E Xs)
  (hQ : Q .normal (runD E (Xs.map fun y => (true,y)))) (hf : fwdFrom 0 ops.toList = true := by rfl) (ha : ancFrom an an ops.toList = true := by rfl) (hp : pairsFrom Xs 0 an Xs = true := by rfl)
  (hpn : ops.toList.all (fun o => pn.ok o.dst) = true := by rfl) : CW P Γ pn (.region id ops true) E Q := by
 intro a w Q' hs hpa hQ'
 refine wp_region_any hm ?_
 have hs' : Sim2 Γ E a { w with drawn := w.drawn + 1 } := by
  obtain ⟨S,hS,hdf,G,hr⟩ := hs
  exact ⟨S,hS,hdf,G,hr.heap rfl⟩
 have := wpAny_stepsI (P := P) (Γ := Γ) (pn := pn) (E0 := E) (Q' := Q') hf ha hp hst hI hw hh hpn (fun a' w' h1 h2 => hQ' _ _ _ _ hQ h1 h2) ops.size (List.replicate ops.size false) a { w with drawn := w.drawn + 1 } (by simp) (by simp)
  (fun i o ho hi => by
   rw [List.getElem?_replicate] at hi
   split at hi <;> cases hi) (by
   have : runD E ((List.replicate ops.size false).zip Xs) = E := by
    generalize ops.size = n
    clear hst hI hw hh hQ hf ha hp hs'
    induction n generalizing Xs with
    | zero => simp [runD]
    | succ n ih =>
     cases Xs with
     | nil => simp [runD]
     | cons X Xs => simpa [List.replicate_succ,runD] using ih Xs
   rw [this];exact hs') hpa
 simpa using this
def DK (P : Program) (Γ : Ctx) (pn : Pins) (ops : Array Oper) (id : Nat) (hs : List Nat) (E0 : Env) (Q : Exit → Env → Prop) (os : List Oper) (E : Env) (acc : List Stp) : Prop :=
 ∀ don,don ++ os = ops.toList → StepsOkI P Γ hs ops don acc.reverse → HasFrom E0 acc.reverse → E = runD E0 (acc.reverse.map fun y => (true,y)) → CW P Γ pn (.region id ops true) E0 Q
variable {E0 : Env} {acc : List Stp}
theorem CW.dk (h : DK P Γ pn ops id [] E Q ops.toList E []) : CW P Γ pn (.region id ops true) E Q := h [] rfl trivial trivial rfl
theorem CW.dkS (hs : List Nat) (h : DK P Γ pn ops id hs E Q ops.toList E []) : CW P Γ pn (.region id ops true) E Q := h [] rfl trivial trivial rfl
theorem dGS (rd : List (Nat × T)) (l : Apps) (hrd : E.Has rd) (hst : ∀ E' : Env,E'.Has rd → HoldS hs E' → IxOk P Γ ops o E' (E'.apps l)) (k : DK P Γ pn ops id hs E0 Q os (E.apps l) (⟨rd,l⟩ :: acc)) : DK P Γ pn ops id hs E0 Q (o :: os) E acc := by
 intro don hd hso hh hE
 subst hE
 have hr := fun X => List.reverse_cons (a := X) (as := acc)
 refine k (don ++ [o]) (by simp [hd]) ?_ ?_ ?_
 ·rw [hr];exact StepsOkI.snoc don _ hso hst
 ·rw [hr];exact HasFrom.snoc _ _ hh hrd
 ·rw [hr,List.map_append,runD_append];rfl
theorem dG (rd : List (Nat × T)) (l : Apps) (hrd : E.Has rd) (hst : ∀ E' : Env,E'.Has rd → IxOk P Γ ops o E' (E'.apps l)) (k : DK P Γ pn ops id hs E0 Q os (E.apps l) (⟨rd,l⟩ :: acc)) : DK P Γ pn ops id hs E0 Q (o :: os) E acc :=
 dGS rd l hrd (fun E' h _ => hst E' h) k
def holdB (hs : List Nat) (E : Env) : Bool := hs.all fun s => match E s with
 | some (.sl _ _) => true
 | _ => false
theorem holdB_ok (h : holdB hs E = true) : HoldS hs E := by
 intro s hs'
 have h1 := List.all_eq_true.1 h s (by simpa using hs')
 cases he : E s with
 | none => simp [he] at h1
 | some t =>
  cases t with
  | sl k ys => exact ⟨k,ys,rfl⟩
  | _ => simp [he] at h1
theorem dN (an : List (List Nat)) (hm : P.follows .mixedOrders = true) (hQ : Q .normal E) (hf : fwdFrom 0 ops.toList = true := by rfl) (ha : ancFrom an an ops.toList = true := by rfl) (hp : pairsFrom acc.reverse 0 an acc.reverse = true := by rfl)
  (hpn : ops.toList.all (fun o => pn.ok o.dst) = true := by rfl) (hh0 : holdB hs E0 = true := by rfl) (hw : acc.reverse.all (wrS hs) = true := by rfl) : DK P Γ pn ops id hs E0 Q [] E acc := by
 intro don hd hst hh hE
 subst hE
 refine CW.drawnI acc.reverse an hm ?_ (holdB_ok hh0) hw hh hQ hf ha hp hpn
 rw [← hd,List.append_nil];exact hst
end
end Go.Ab

namespace Go.Ab
open Go
section
variable {P : Program} {Γ : Ctx} {pn : Pins} {E E' : Env} {Q : Exit → Env → Prop} {ops : Array Oper} {o : Oper} {os : List Oper} {id d : Nat} {wr : Wr} {chg : Chg} {hs : List Nat} {E0 : Env} {acc : List Stp} {x y : Operand} {ty : TypeId} {ps : String} {af : Array Edge} {gd : Option (Nat × Bool)}
class SliI (P : Program) (t : TypeId) (e : outParam TypeId) : Prop where
 h : P.underlying t = some (.slice e)
class VarI (P : Program) (t : TypeId) (b : outParam Bool) (n : outParam Nat) : Prop where
 h : ∀ u : T,u.single = b → u.size = n → VarT P t u
theorem hE {rd : List (Nat × T)} {s : Nat} {t : T} (h : E.Has rd) (hr : envL rd s = some t) : E s = some t := h.le s t hr
theorem hO {rd : List (Nat × T)} {t : T} (h : E.Has rd) (hr : opT (envL rd) x = some t) : opT E x = some t := by
 cases x <;> simp only [opT] at hr ⊢
 ·exact h.le _ _ hr
 all_goals exact hr
mutual
def cleanB : T → Bool
 | .ro _ | .lit _ | .any => true
 | .agg xs | .tup xs => cleanBs xs
 | .ptr t => cleanB t
 | .sl _ [] => true
 | _ => false
def cleanBs : List T → Bool
 | [] => true
 | x :: xs => cleanB x && cleanBs xs
end
mutual
theorem cleanB_ok : {t : T} → cleanB t = true → Clean t
 | .ro _,_ | .lit _,_ | .any,_ => by simp [Clean,AllR]
 | .agg xs,h | .tup xs,h => by simp only [cleanB] at h;simpa only [Clean,AllR] using cleanBs_ok h
 | .ptr t,h => by simp only [cleanB] at h;exact cleanP (cleanB_ok h)
 | .sl _ [],_ => by simp [Clean,AllR,AllRs]
 | .sl _ (_ :: _),h => by simp [cleanB] at h
 | .same _ _,h | .addr _ _,h | .sub _ _ _ _ _,h => by simp [cleanB] at h
theorem cleanBs_ok : {xs : List T} → cleanBs xs = true → Cleans xs
 | [],_ => trivial
 | x :: xs,h => by simp only [cleanBs,Bool.and_eq_true] at h;exact ⟨cleanB_ok h.1,cleanBs_ok h.2⟩
end
theorem y_ix {α : Type} {t e : TypeId} {ti : TypeInfo} {r k : Nat} {q : List Nat} {f : α → T} {xs : List α} {v : α} {i : Int} [ht : RowT P t e ti k] (hx : locT E x = some (r,q,L k f xs)) (hy : opT E y = some (I i)) (hv : ixO xs i = some v) (sd : Nat.blt d Γ.N = true) :
  Ok P Γ ⟨some d,.indexAddr t x y,ty,ps,af,gd⟩ E (E.app [(d,some (.addr r (i.toNat :: q)))] [(d,0)]) := x_ix ht hv hx hy sd
theorem y_ixr {α : Type} {t e : TypeId} {ti : TypeInfo} {r k : Nat} {q : List Nat} {f : α → T} {xs : List α} {v : α} {i : Int} [ht : RowT P t e ti k] (hx : locT E x = some (r,q,.ro (L k f xs))) (hy : opT E y = some (I i)) (hv : ixO xs i = some v) (sd : Nat.blt d Γ.N = true) :
  Ok P Γ ⟨some d,.indexAddr t x y,ty,ps,af,gd⟩ E (E.app [(d,some (.ro (.ptr (f v))))] [(d,0)]) := x_ixr ht hv hx hy sd
theorem y_ldr {t : TypeId} {u : T} {b : Bool} {n : Nat} [i : VarI P t b n] (hx : opT E x = some (.ro (.ptr u))) (h1 : u.single = b) (h2 : u.size = n) (sd : Nat.blt d Γ.N = true) : Ok P Γ ⟨some d,.load t x,ty,ps,af,gd⟩ E (E.app [(d,some (roT u))] [(d,0)]) := x_ldr (i.h u h1 h2) hx sd
theorem y_ld {t : TypeId} {u tr : T} {r : Nat} {q : List Nat} {b : Bool} {n : Nat} [i : VarI P t b n] (hx : opT E x = some (.addr r q)) (hr : E r = some tr) (hg : tr.get q.reverse = some u) (h1 : u.single = b) (h2 : u.size = n) (sd : (Nat.blt d Γ.N && tr.locd q.reverse && (r != d) && T.okB [(d,0)] (cpT r u q)) = true) :
  Ok P Γ ⟨some d,.load t x,ty,ps,af,gd⟩ E (E.app [(d,some (cpT r u q))] [(d,0)]) := x_ld (i.h u h1 h2) hx hr hg sd
theorem y_ldp {t : TypeId} {u tr t0 : T} {r : Nat} {q : List Nat} {b : Bool} {n : Nat} [i : VarI P t b n] (hx : locT E x = some (r,q,.ptr t0)) (hr : E r = some tr) (hg : tr.get (0 :: q).reverse = some u) (h1 : u.single = b) (h2 : u.size = n) (sd : (Nat.blt d Γ.N && tr.locd (0 :: q).reverse && (r != d) && T.okB [(d,0)] (cpT r u (0 :: q))) = true) :
  Ok P Γ ⟨some d,.load t x,ty,ps,af,gd⟩ E (E.app [(d,some (cpT r u (0 :: q)))] [(d,0)]) := x_ldp (i.h u h1 h2) hx hr hg sd
theorem y_len {α : Type} {t e : TypeId} {r k : Nat} {q : List Nat} {f : α → T} {xs : List α} [i : SliI P t e] (hx : locT E x = some (r,q,L k f xs)) (sd : Nat.blt d Γ.N = true) :
  Ok P Γ ⟨some d,.call { callee := .builtin .len,args := #[x],argTypes := #[t] },ty,ps,af,gd⟩ E (E.app [(d,some (I (xs.length : Int)))] [(d,0)]) := x_len i.h hx sd
theorem y_lenr {α : Type} {t e : TypeId} {r k : Nat} {q : List Nat} {f : α → T} {xs : List α} [i : SliI P t e] (hx : locT E x = some (r,q,.ro (L k f xs))) (sd : Nat.blt d Γ.N = true) :
  Ok P Γ ⟨some d,.call { callee := .builtin .len,args := #[x],argTypes := #[t] },ty,ps,af,gd⟩ E (E.app [(d,some (I (xs.length : Int)))] [(d,0)]) := x_lenr i.h hx sd
theorem a_mv (k : RW P Γ pn ops os (E.app wr chg) Q) (h : Ok P Γ o E (E.app wr chg) := by exact x_mv rfl rfl) (hg : o.guard = none := by rfl) (hp : pn.ok o.dst = true := by rfl) : RW P Γ pn ops (o :: os) E Q := oP h k hg hp
theorem g_mv {g s : Nat} {b : Bool} (k : RW P Γ pn ops os (E.app wr chg) Q) (hg : o.guard = some (g,b) := by rfl) (hgo : (ops[g]?).bind (·.dst) = some s := by rfl) (hb : E s = some (.lit (.bool b)) := by rfl) (h : Ok P Γ o E (E.app wr chg) := by exact x_mv rfl rfl) (hp : pn.ok o.dst = true := by rfl) : RW P Γ pn ops (o :: os) E Q := RW.cons (IxOk.guard g b s h hg hgo hb) k hp
theorem a_as (k : RW P Γ pn ops os (E.app wr chg) Q) (h : Ok P Γ o E (E.app wr chg) := by exact x_as rfl rfl) (hg : o.guard = none := by rfl) (hp : pn.ok o.dst = true := by rfl) : RW P Γ pn ops (o :: os) E Q := oP h k hg hp
theorem g_as {g s : Nat} {b : Bool} (k : RW P Γ pn ops os (E.app wr chg) Q) (hg : o.guard = some (g,b) := by rfl) (hgo : (ops[g]?).bind (·.dst) = some s := by rfl) (hb : E s = some (.lit (.bool b)) := by rfl) (h : Ok P Γ o E (E.app wr chg) := by exact x_as rfl rfl) (hp : pn.ok o.dst = true := by rfl) : RW P Γ pn ops (o :: os) E Q := RW.cons (IxOk.guard g b s h hg hgo hb) k hp
theorem a_ldr (k : RW P Γ pn ops os (E.app wr chg) Q) (h : Ok P Γ o E (E.app wr chg) := by exact y_ldr rfl rfl rfl rfl) (hg : o.guard = none := by rfl) (hp : pn.ok o.dst = true := by rfl) : RW P Γ pn ops (o :: os) E Q := oP h k hg hp
theorem g_ldr {g s : Nat} {b : Bool} (k : RW P Γ pn ops os (E.app wr chg) Q) (hg : o.guard = some (g,b) := by rfl) (hgo : (ops[g]?).bind (·.dst) = some s := by rfl) (hb : E s = some (.lit (.bool b)) := by rfl) (h : Ok P Γ o E (E.app wr chg) := by exact y_ldr rfl rfl rfl rfl) (hp : pn.ok o.dst = true := by rfl) : RW P Γ pn ops (o :: os) E Q := RW.cons (IxOk.guard g b s h hg hgo hb) k hp
theorem a_ixr (k : RW P Γ pn ops os (E.app wr chg) Q) (h : Ok P Γ o E (E.app wr chg) := by exact y_ixr (by first | exact locB rfl rfl | exact locA rfl rfl (by first | rfl | exact getc (by assumption) rfl | exact getc (by assumption) (getc (by assumption) rfl) | exact geta rfl (getc (by assumption) rfl) | exact getp (getc (by assumption) rfl) | exact getp (geta rfl (getc (by assumption) rfl)) | exact getp (geta rfl (getc (by assumption) (getc (by assumption) rfl)))) rfl) rfl (by assumption) rfl) (hg : o.guard = none := by rfl) (hp : pn.ok o.dst = true := by rfl) : RW P Γ pn ops (o :: os) E Q := oP h k hg hp
theorem g_ixr {g s : Nat} {b : Bool} (k : RW P Γ pn ops os (E.app wr chg) Q) (hg : o.guard = some (g,b) := by rfl) (hgo : (ops[g]?).bind (·.dst) = some s := by rfl) (hb : E s = some (.lit (.bool b)) := by rfl) (h : Ok P Γ o E (E.app wr chg) := by exact y_ixr (by first | exact locB rfl rfl | exact locA rfl rfl (by first | rfl | exact getc (by assumption) rfl | exact getc (by assumption) (getc (by assumption) rfl) | exact geta rfl (getc (by assumption) rfl) | exact getp (getc (by assumption) rfl) | exact getp (geta rfl (getc (by assumption) rfl)) | exact getp (geta rfl (getc (by assumption) (getc (by assumption) rfl)))) rfl) rfl (by assumption) rfl) (hp : pn.ok o.dst = true := by rfl) : RW P Γ pn ops (o :: os) E Q := RW.cons (IxOk.guard g b s h hg hgo hb) k hp
theorem a_lenr (k : RW P Γ pn ops os (E.app wr chg) Q) (h : Ok P Γ o E (E.app wr chg) := by exact y_lenr (by first | exact locB rfl rfl | exact locA rfl rfl (by first | rfl | exact getc (by assumption) rfl | exact getc (by assumption) (getc (by assumption) rfl) | exact geta rfl (getc (by assumption) rfl) | exact getp (getc (by assumption) rfl) | exact getp (geta rfl (getc (by assumption) rfl)) | exact getp (geta rfl (getc (by assumption) (getc (by assumption) rfl)))) rfl) rfl) (hg : o.guard = none := by rfl) (hp : pn.ok o.dst = true := by rfl) : RW P Γ pn ops (o :: os) E Q := oP h k hg hp
theorem g_lenr {g s : Nat} {b : Bool} (k : RW P Γ pn ops os (E.app wr chg) Q) (hg : o.guard = some (g,b) := by rfl) (hgo : (ops[g]?).bind (·.dst) = some s := by rfl) (hb : E s = some (.lit (.bool b)) := by rfl) (h : Ok P Γ o E (E.app wr chg) := by exact y_lenr (by first | exact locB rfl rfl | exact locA rfl rfl (by first | rfl | exact getc (by assumption) rfl | exact getc (by assumption) (getc (by assumption) rfl) | exact geta rfl (getc (by assumption) rfl) | exact getp (getc (by assumption) rfl) | exact getp (geta rfl (getc (by assumption) rfl)) | exact getp (geta rfl (getc (by assumption) (getc (by assumption) rfl)))) rfl) rfl) (hp : pn.ok o.dst = true := by rfl) : RW P Γ pn ops (o :: os) E Q := RW.cons (IxOk.guard g b s h hg hgo hb) k hp
theorem a_add (k : RW P Γ pn ops os (E.app wr chg) Q) (h : Ok P Γ o E (E.app wr chg) := by exact x_add (by assumption) rfl rfl rfl) (hg : o.guard = none := by rfl) (hp : pn.ok o.dst = true := by rfl) : RW P Γ pn ops (o :: os) E Q := oP h k hg hp
theorem g_add {g s : Nat} {b : Bool} (k : RW P Γ pn ops os (E.app wr chg) Q) (hg : o.guard = some (g,b) := by rfl) (hgo : (ops[g]?).bind (·.dst) = some s := by rfl) (hb : E s = some (.lit (.bool b)) := by rfl) (h : Ok P Γ o E (E.app wr chg) := by exact x_add (by assumption) rfl rfl rfl) (hp : pn.ok o.dst = true := by rfl) : RW P Γ pn ops (o :: os) E Q := RW.cons (IxOk.guard g b s h hg hgo hb) k hp
theorem a_lss (k : RW P Γ pn ops os (E.app wr chg) Q) (h : Ok P Γ o E (E.app wr chg) := by exact x_lss rfl rfl rfl) (hg : o.guard = none := by rfl) (hp : pn.ok o.dst = true := by rfl) : RW P Γ pn ops (o :: os) E Q := oP h k hg hp
theorem g_lss {g s : Nat} {b : Bool} (k : RW P Γ pn ops os (E.app wr chg) Q) (hg : o.guard = some (g,b) := by rfl) (hgo : (ops[g]?).bind (·.dst) = some s := by rfl) (hb : E s = some (.lit (.bool b)) := by rfl) (h : Ok P Γ o E (E.app wr chg) := by exact x_lss rfl rfl rfl) (hp : pn.ok o.dst = true := by rfl) : RW P Γ pn ops (o :: os) E Q := RW.cons (IxOk.guard g b s h hg hgo hb) k hp
theorem a_pick (k : RW P Γ pn ops os (E.app wr chg) Q) (h : Ok P Γ o E (E.app wr chg) := by exact x_pick rfl rfl rfl) (hg : o.guard = none := by rfl) (hp : pn.ok o.dst = true := by rfl) : RW P Γ pn ops (o :: os) E Q := oP h k hg hp
theorem a_fa (k : RW P Γ pn ops os (E.app wr chg) Q) (h : Ok P Γ o E (E.app wr chg) := by exact x_fa inferInstance (by first | exact locB rfl rfl | exact locA rfl rfl (by first | rfl | exact getc (by assumption) rfl | exact getc (by assumption) (getc (by assumption) rfl) | exact geta rfl (getc (by assumption) rfl) | exact getp (getc (by assumption) rfl) | exact getp (geta rfl (getc (by assumption) rfl)) | exact getp (geta rfl (getc (by assumption) (getc (by assumption) rfl)))) rfl) rfl rfl rfl) (hg : o.guard = none := by rfl) (hp : pn.ok o.dst = true := by rfl) : RW P Γ pn ops (o :: os) E Q := oP h k hg hp
theorem g_fa {g s : Nat} {b : Bool} (k : RW P Γ pn ops os (E.app wr chg) Q) (hg : o.guard = some (g,b) := by rfl) (hgo : (ops[g]?).bind (·.dst) = some s := by rfl) (hb : E s = some (.lit (.bool b)) := by rfl) (h : Ok P Γ o E (E.app wr chg) := by exact x_fa inferInstance (by first | exact locB rfl rfl | exact locA rfl rfl (by first | rfl | exact getc (by assumption) rfl | exact getc (by assumption) (getc (by assumption) rfl) | exact geta rfl (getc (by assumption) rfl) | exact getp (getc (by assumption) rfl) | exact getp (geta rfl (getc (by assumption) rfl)) | exact getp (geta rfl (getc (by assumption) (getc (by assumption) rfl)))) rfl) rfl rfl rfl) (hp : pn.ok o.dst = true := by rfl) : RW P Γ pn ops (o :: os) E Q := RW.cons (IxOk.guard g b s h hg hgo hb) k hp
theorem a_ld (k : RW P Γ pn ops os (E.app wr chg) Q) (h : Ok P Γ o E (E.app wr chg) := by first | exact y_ld rfl rfl rfl rfl rfl rfl | exact y_ld rfl rfl (by first | rfl | exact getc (by assumption) rfl | exact getc (by assumption) (getc (by assumption) rfl) | exact geta rfl (getc (by assumption) rfl) | exact getp (getc (by assumption) rfl) | exact getp (geta rfl (getc (by assumption) rfl)) | exact getp (geta rfl (getc (by assumption) (getc (by assumption) rfl)))) (by rfl) (by rfl) (by rfl)) (hg : o.guard = none := by rfl) (hp : pn.ok o.dst = true := by rfl) : RW P Γ pn ops (o :: os) E Q := oP h k hg hp
theorem g_ld {g s : Nat} {b : Bool} (k : RW P Γ pn ops os (E.app wr chg) Q) (hg : o.guard = some (g,b) := by rfl) (hgo : (ops[g]?).bind (·.dst) = some s := by rfl) (hb : E s = some (.lit (.bool b)) := by rfl) (h : Ok P Γ o E (E.app wr chg) := by first | exact y_ld rfl rfl rfl rfl rfl rfl | exact y_ld rfl rfl (by first | rfl | exact getc (by assumption) rfl | exact getc (by assumption) (getc (by assumption) rfl) | exact geta rfl (getc (by assumption) rfl) | exact getp (getc (by assumption) rfl) | exact getp (geta rfl (getc (by assumption) rfl)) | exact getp (geta rfl (getc (by assumption) (getc (by assumption) rfl)))) (by rfl) (by rfl) (by rfl)) (hp : pn.ok o.dst = true := by rfl) : RW P Γ pn ops (o :: os) E Q := RW.cons (IxOk.guard g b s h hg hgo hb) k hp
theorem a_ldp (k : RW P Γ pn ops os (E.app wr chg) Q) (h : Ok P Γ o E (E.app wr chg) := by first | exact y_ldp (by first | exact locB rfl rfl | exact locA rfl rfl (by first | rfl | exact getc (by assumption) rfl | exact getc (by assumption) (getc (by assumption) rfl) | exact geta rfl (getc (by assumption) rfl) | exact getp (getc (by assumption) rfl) | exact getp (geta rfl (getc (by assumption) rfl)) | exact getp (geta rfl (getc (by assumption) (getc (by assumption) rfl)))) rfl) rfl rfl rfl rfl rfl | exact y_ldp (by first | exact locB rfl rfl | exact locA rfl rfl (by first | rfl | exact getc (by assumption) rfl | exact getc (by assumption) (getc (by assumption) rfl) | exact geta rfl (getc (by assumption) rfl) | exact getp (getc (by assumption) rfl) | exact getp (geta rfl (getc (by assumption) rfl)) | exact getp (geta rfl (getc (by assumption) (getc (by assumption) rfl)))) rfl) rfl (by first | rfl | exact getc (by assumption) rfl | exact getc (by assumption) (getc (by assumption) rfl) | exact geta rfl (getc (by assumption) rfl) | exact getp (getc (by assumption) rfl) | exact getp (geta rfl (getc (by assumption) rfl)) | exact getp (geta rfl (getc (by assumption) (getc (by assumption) rfl)))) (by rfl) (by rfl) (by rfl)) (hg : o.guard = none := by rfl) (hp : pn.ok o.dst = true := by rfl) : RW P Γ pn ops (o :: os) E Q := oP h k hg hp
theorem g_ldp {g s : Nat} {b : Bool} (k : RW P Γ pn ops os (E.app wr chg) Q) (hg : o.guard = some (g,b) := by rfl) (hgo : (ops[g]?).bind (·.dst) = some s := by rfl) (hb : E s = some (.lit (.bool b)) := by rfl) (h : Ok P Γ o E (E.app wr chg) := by first | exact y_ldp (by first | exact locB rfl rfl | exact locA rfl rfl (by first | rfl | exact getc (by assumption) rfl | exact getc (by assumption) (getc (by assumption) rfl) | exact geta rfl (getc (by assumption) rfl) | exact getp (getc (by assumption) rfl) | exact getp (geta rfl (getc (by assumption) rfl)) | exact getp (geta rfl (getc (by assumption) (getc (by assumption) rfl)))) rfl) rfl rfl rfl rfl rfl | exact y_ldp (by first | exact locB rfl rfl | exact locA rfl rfl (by first | rfl | exact getc (by assumption) rfl | exact getc (by assumption) (getc (by assumption) rfl) | exact geta rfl (getc (by assumption) rfl) | exact getp (getc (by assumption) rfl) | exact getp (geta rfl (getc (by assumption) rfl)) | exact getp (geta rfl (getc (by assumption) (getc (by assumption) rfl)))) rfl) rfl (by first | rfl | exact getc (by assumption) rfl | exact getc (by assumption) (getc (by assumption) rfl) | exact geta rfl (getc (by assumption) rfl) | exact getp (getc (by assumption) rfl) | exact getp (geta rfl (getc (by assumption) rfl)) | exact getp (geta rfl (getc (by assumption) (getc (by assumption) rfl)))) (by rfl) (by rfl) (by rfl)) (hp : pn.ok o.dst = true := by rfl) : RW P Γ pn ops (o :: os) E Q := RW.cons (IxOk.guard g b s h hg hgo hb) k hp
theorem a_sub (k : RW P Γ pn ops os (E.app wr chg) Q) (h : Ok P Γ o E (E.app wr chg) := by exact x_sub (by assumption) rfl rfl rfl) (hg : o.guard = none := by rfl) (hp : pn.ok o.dst = true := by rfl) : RW P Γ pn ops (o :: os) E Q := oP h k hg hp
theorem g_sub {g s : Nat} {b : Bool} (k : RW P Γ pn ops os (E.app wr chg) Q) (hg : o.guard = some (g,b) := by rfl) (hgo : (ops[g]?).bind (·.dst) = some s := by rfl) (hb : E s = some (.lit (.bool b)) := by rfl) (h : Ok P Γ o E (E.app wr chg) := by exact x_sub (by assumption) rfl rfl rfl) (hp : pn.ok o.dst = true := by rfl) : RW P Γ pn ops (o :: os) E Q := RW.cons (IxOk.guard g b s h hg hgo hb) k hp
theorem a_not (k : RW P Γ pn ops os (E.app wr chg) Q) (h : Ok P Γ o E (E.app wr chg) := by exact x_not rfl rfl) (hg : o.guard = none := by rfl) (hp : pn.ok o.dst = true := by rfl) : RW P Γ pn ops (o :: os) E Q := oP h k hg hp
theorem g_not {g s : Nat} {b : Bool} (k : RW P Γ pn ops os (E.app wr chg) Q) (hg : o.guard = some (g,b) := by rfl) (hgo : (ops[g]?).bind (·.dst) = some s := by rfl) (hb : E s = some (.lit (.bool b)) := by rfl) (h : Ok P Γ o E (E.app wr chg) := by exact x_not rfl rfl) (hp : pn.ok o.dst = true := by rfl) : RW P Γ pn ops (o :: os) E Q := RW.cons (IxOk.guard g b s h hg hgo hb) k hp
theorem a_neq (k : RW P Γ pn ops os (E.app wr chg) Q) (h : Ok P Γ o E (E.app wr chg) := by exact x_neq rfl rfl rfl) (hg : o.guard = none := by rfl) (hp : pn.ok o.dst = true := by rfl) : RW P Γ pn ops (o :: os) E Q := oP h k hg hp
theorem g_neq {g s : Nat} {b : Bool} (k : RW P Γ pn ops os (E.app wr chg) Q) (hg : o.guard = some (g,b) := by rfl) (hgo : (ops[g]?).bind (·.dst) = some s := by rfl) (hb : E s = some (.lit (.bool b)) := by rfl) (h : Ok P Γ o E (E.app wr chg) := by exact x_neq rfl rfl rfl) (hp : pn.ok o.dst = true := by rfl) : RW P Γ pn ops (o :: os) E Q := RW.cons (IxOk.guard g b s h hg hgo hb) k hp
theorem a_eql (k : RW P Γ pn ops os (E.app wr chg) Q) (h : Ok P Γ o E (E.app wr chg) := by exact x_eql rfl rfl rfl) (hg : o.guard = none := by rfl) (hp : pn.ok o.dst = true := by rfl) : RW P Γ pn ops (o :: os) E Q := oP h k hg hp
theorem g_eql {g s : Nat} {b : Bool} (k : RW P Γ pn ops os (E.app wr chg) Q) (hg : o.guard = some (g,b) := by rfl) (hgo : (ops[g]?).bind (·.dst) = some s := by rfl) (hb : E s = some (.lit (.bool b)) := by rfl) (h : Ok P Γ o E (E.app wr chg) := by exact x_eql rfl rfl rfl) (hp : pn.ok o.dst = true := by rfl) : RW P Γ pn ops (o :: os) E Q := RW.cons (IxOk.guard g b s h hg hgo hb) k hp
theorem a_gtr (k : RW P Γ pn ops os (E.app wr chg) Q) (h : Ok P Γ o E (E.app wr chg) := by exact x_gtr rfl rfl rfl) (hg : o.guard = none := by rfl) (hp : pn.ok o.dst = true := by rfl) : RW P Γ pn ops (o :: os) E Q := oP h k hg hp
theorem g_gtr {g s : Nat} {b : Bool} (k : RW P Γ pn ops os (E.app wr chg) Q) (hg : o.guard = some (g,b) := by rfl) (hgo : (ops[g]?).bind (·.dst) = some s := by rfl) (hb : E s = some (.lit (.bool b)) := by rfl) (h : Ok P Γ o E (E.app wr chg) := by exact x_gtr rfl rfl rfl) (hp : pn.ok o.dst = true := by rfl) : RW P Γ pn ops (o :: os) E Q := RW.cons (IxOk.guard g b s h hg hgo hb) k hp
theorem a_geq (k : RW P Γ pn ops os (E.app wr chg) Q) (h : Ok P Γ o E (E.app wr chg) := by exact x_geq rfl rfl rfl) (hg : o.guard = none := by rfl) (hp : pn.ok o.dst = true := by rfl) : RW P Γ pn ops (o :: os) E Q := oP h k hg hp
theorem g_geq {g s : Nat} {b : Bool} (k : RW P Γ pn ops os (E.app wr chg) Q) (hg : o.guard = some (g,b) := by rfl) (hgo : (ops[g]?).bind (·.dst) = some s := by rfl) (hb : E s = some (.lit (.bool b)) := by rfl) (h : Ok P Γ o E (E.app wr chg) := by exact x_geq rfl rfl rfl) (hp : pn.ok o.dst = true := by rfl) : RW P Γ pn ops (o :: os) E Q := RW.cons (IxOk.guard g b s h hg hgo hb) k hp
theorem a_leq (k : RW P Γ pn ops os (E.app wr chg) Q) (h : Ok P Γ o E (E.app wr chg) := by exact x_leq rfl rfl rfl) (hg : o.guard = none := by rfl) (hp : pn.ok o.dst = true := by rfl) : RW P Γ pn ops (o :: os) E Q := oP h k hg hp
theorem g_leq {g s : Nat} {b : Bool} (k : RW P Γ pn ops os (E.app wr chg) Q) (hg : o.guard = some (g,b) := by rfl) (hgo : (ops[g]?).bind (·.dst) = some s := by rfl) (hb : E s = some (.lit (.bool b)) := by rfl) (h : Ok P Γ o E (E.app wr chg) := by exact x_leq rfl rfl rfl) (hp : pn.ok o.dst = true := by rfl) : RW P Γ pn ops (o :: os) E Q := RW.cons (IxOk.guard g b s h hg hgo hb) k hp
theorem a_far (k : RW P Γ pn ops os (E.app wr chg) Q) (h : Ok P Γ o E (E.app wr chg) := by exact x_far inferInstance rfl rfl rfl rfl) (hg : o.guard = none := by rfl) (hp : pn.ok o.dst = true := by rfl) : RW P Γ pn ops (o :: os) E Q := oP h k hg hp
theorem g_far {g s : Nat} {b : Bool} (k : RW P Γ pn ops os (E.app wr chg) Q) (hg : o.guard = some (g,b) := by rfl) (hgo : (ops[g]?).bind (·.dst) = some s := by rfl) (hb : E s = some (.lit (.bool b)) := by rfl) (h : Ok P Γ o E (E.app wr chg) := by exact x_far inferInstance rfl rfl rfl rfl) (hp : pn.ok o.dst = true := by rfl) : RW P Γ pn ops (o :: os) E Q := RW.cons (IxOk.guard g b s h hg hgo hb) k hp
theorem a_nilc (k : RW P Γ pn ops os (E.app wr chg) Q) (h : Ok P Γ o E (E.app wr chg) := by first | exact x_nilc rfl (isPtr_ro rfl) rfl | exact x_nilc rfl (isPtr_addr rfl) rfl | exact x_nilc rfl (isPtr_own (by first | exact locB rfl rfl | exact locA rfl rfl (by first | rfl | exact getc (by assumption) rfl | exact getc (by assumption) (getc (by assumption) rfl) | exact geta rfl (getc (by assumption) rfl) | exact getp (getc (by assumption) rfl) | exact getp (geta rfl (getc (by assumption) rfl)) | exact getp (geta rfl (getc (by assumption) (getc (by assumption) rfl)))) rfl)) rfl) (hg : o.guard = none := by rfl) (hp : pn.ok o.dst = true := by rfl) : RW P Γ pn ops (o :: os) E Q := oP h k hg hp
theorem g_nilc {g s : Nat} {b : Bool} (k : RW P Γ pn ops os (E.app wr chg) Q) (hg : o.guard = some (g,b) := by rfl) (hgo : (ops[g]?).bind (·.dst) = some s := by rfl) (hb : E s = some (.lit (.bool b)) := by rfl) (h : Ok P Γ o E (E.app wr chg) := by first | exact x_nilc rfl (isPtr_ro rfl) rfl | exact x_nilc rfl (isPtr_addr rfl) rfl | exact x_nilc rfl (isPtr_own (by first | exact locB rfl rfl | exact locA rfl rfl (by first | rfl | exact getc (by assumption) rfl | exact getc (by assumption) (getc (by assumption) rfl) | exact geta rfl (getc (by assumption) rfl) | exact getp (getc (by assumption) rfl) | exact getp (geta rfl (getc (by assumption) rfl)) | exact getp (geta rfl (getc (by assumption) (getc (by assumption) rfl)))) rfl)) rfl) (hp : pn.ok o.dst = true := by rfl) : RW P Γ pn ops (o :: os) E Q := RW.cons (IxOk.guard g b s h hg hgo hb) k hp
theorem a_ix (k : RW P Γ pn ops os (E.app wr chg) Q) (h : Ok P Γ o E (E.app wr chg) := by exact y_ix (by first | exact locB rfl rfl | exact locA rfl rfl (by first | rfl | exact getc (by assumption) rfl | exact getc (by assumption) (getc (by assumption) rfl) | exact geta rfl (getc (by assumption) rfl) | exact getp (getc (by assumption) rfl) | exact getp (geta rfl (getc (by assumption) rfl)) | exact getp (geta rfl (getc (by assumption) (getc (by assumption) rfl)))) rfl) rfl (by assumption) rfl) (hg : o.guard = none := by rfl) (hp : pn.ok o.dst = true := by rfl) : RW P Γ pn ops (o :: os) E Q := oP h k hg hp
theorem g_ix {g s : Nat} {b : Bool} (k : RW P Γ pn ops os (E.app wr chg) Q) (hg : o.guard = some (g,b) := by rfl) (hgo : (ops[g]?).bind (·.dst) = some s := by rfl) (hb : E s = some (.lit (.bool b)) := by rfl) (h : Ok P Γ o E (E.app wr chg) := by exact y_ix (by first | exact locB rfl rfl | exact locA rfl rfl (by first | rfl | exact getc (by assumption) rfl | exact getc (by assumption) (getc (by assumption) rfl) | exact geta rfl (getc (by assumption) rfl) | exact getp (getc (by assumption) rfl) | exact getp (geta rfl (getc (by assumption) rfl)) | exact getp (geta rfl (getc (by assumption) (getc (by assumption) rfl)))) rfl) rfl (by assumption) rfl) (hp : pn.ok o.dst = true := by rfl) : RW P Γ pn ops (o :: os) E Q := RW.cons (IxOk.guard g b s h hg hgo hb) k hp
theorem a_len (k : RW P Γ pn ops os (E.app wr chg) Q) (h : Ok P Γ o E (E.app wr chg) := by exact y_len (by first | exact locB rfl rfl | exact locA rfl rfl (by first | rfl | exact getc (by assumption) rfl | exact getc (by assumption) (getc (by assumption) rfl) | exact geta rfl (getc (by assumption) rfl) | exact getp (getc (by assumption) rfl) | exact getp (geta rfl (getc (by assumption) rfl)) | exact getp (geta rfl (getc (by assumption) (getc (by assumption) rfl)))) rfl) rfl) (hg : o.guard = none := by rfl) (hp : pn.ok o.dst = true := by rfl) : RW P Γ pn ops (o :: os) E Q := oP h k hg hp
theorem g_len {g s : Nat} {b : Bool} (k : RW P Γ pn ops os (E.app wr chg) Q) (hg : o.guard = some (g,b) := by rfl) (hgo : (ops[g]?).bind (·.dst) = some s := by rfl) (hb : E s = some (.lit (.bool b)) := by rfl) (h : Ok P Γ o E (E.app wr chg) := by exact y_len (by first | exact locB rfl rfl | exact locA rfl rfl (by first | rfl | exact getc (by assumption) rfl | exact getc (by assumption) (getc (by assumption) rfl) | exact geta rfl (getc (by assumption) rfl) | exact getp (getc (by assumption) rfl) | exact getp (geta rfl (getc (by assumption) rfl)) | exact getp (geta rfl (getc (by assumption) (getc (by assumption) rfl)))) rfl) rfl) (hp : pn.ok o.dst = true := by rfl) : RW P Γ pn ops (o :: os) E Q := RW.cons (IxOk.guard g b s h hg hgo hb) k hp
theorem a_mul (k : RW P Γ pn ops os (E.app wr chg) Q) (h : Ok P Γ o E (E.app wr chg) := by exact x_mul (by assumption) rfl rfl rfl) (hg : o.guard = none := by rfl) (hp : pn.ok o.dst = true := by rfl) : RW P Γ pn ops (o :: os) E Q := oP h k hg hp
theorem a_rem (k : RW P Γ pn ops os (E.app wr chg) Q) (h : Ok P Γ o E (E.app wr chg) := by exact x_rem (by assumption) rfl rfl rfl) (hg : o.guard = none := by rfl) (hp : pn.ok o.dst = true := by rfl) : RW P Γ pn ops (o :: os) E Q := oP h k hg hp
theorem a_quo (k : RW P Γ pn ops os (E.app wr chg) Q) (h : Ok P Γ o E (E.app wr chg) := by exact x_quo (by assumption) rfl rfl rfl) (hg : o.guard = none := by rfl) (hp : pn.ok o.dst = true := by rfl) : RW P Γ pn ops (o :: os) E Q := oP h k hg hp
theorem a_neg (k : RW P Γ pn ops os (E.app wr chg) Q) (h : Ok P Γ o E (E.app wr chg) := by exact x_neg (by assumption) rfl rfl) (hg : o.guard = none := by rfl) (hp : pn.ok o.dst = true := by rfl) : RW P Γ pn ops (o :: os) E Q := oP h k hg hp
theorem a_alloc (k : RW P Γ pn ops os (E.app wr chg) Q) (h : Ok P Γ o E (E.app wr chg) := by exact x_alloc inferInstance rfl) (hg : o.guard = none := by rfl) (hp : pn.ok o.dst = true := by rfl) : RW P Γ pn ops (o :: os) E Q := oP h k hg hp
theorem a_ext (k : RW P Γ pn ops os (E.app wr chg) Q) (h : Ok P Γ o E (E.app wr chg) := by exact x_ext rfl rfl rfl) (hg : o.guard = none := by rfl) (hp : pn.ok o.dst = true := by rfl) : RW P Γ pn ops (o :: os) E Q := oP h k hg hp
theorem a_box (k : RW P Γ pn ops os (E.app wr chg) Q) (h : Ok P Γ o E (E.app wr chg) := by exact x_box rfl (cleanB_ok rfl) rfl) (hg : o.guard = none := by rfl) (hp : pn.ok o.dst = true := by rfl) : RW P Γ pn ops (o :: os) E Q := oP h k hg hp
theorem a_mvT (k : RW P Γ pn ops os (E.app wr chg) Q) (h : Ok P Γ o E (E.app wr chg) := by exact x_mvT rfl rfl) (hg : o.guard = none := by rfl) (hp : pn.ok o.dst = true := by rfl) : RW P Γ pn ops (o :: os) E Q := oP h k hg hp
theorem d_mv (rd : List (Nat × T)) (k : DK P Γ pn ops id hs E0 Q os (E.app wr chg) (⟨rd,[(wr,chg)]⟩ :: acc)) (hrd : E.Has rd := by repeat (first | exact trivial | refine ⟨rfl,?_⟩)) (h : ∀ E' : Env,E'.Has rd → Ok P Γ o E' (E'.app wr chg) := by intro E' h;exact x_mv (hO h rfl) rfl) (hg : o.guard = none := by rfl) : DK P Γ pn ops id hs E0 Q (o :: os) E acc := dG rd [(wr,chg)] hrd (fun E' h' => IxOk.op (h E' h') hg) k
theorem e_mv {g s : Nat} {b : Bool} (rd : List (Nat × T)) (k : DK P Γ pn ops id hs E0 Q os (E.app wr chg) (⟨rd,[(wr,chg)]⟩ :: acc)) (hrd : E.Has rd := by repeat (first | exact trivial | refine ⟨rfl,?_⟩)) (hg : o.guard = some (g,b) := by rfl) (hgo : (ops[g]?).bind (·.dst) = some s := by rfl) (hb : envL rd s = some (.lit (.bool b)) := by rfl) (h : ∀ E' : Env,E'.Has rd → Ok P Γ o E' (E'.app wr chg) := by intro E' h;exact x_mv (hO h rfl) rfl) : DK P Γ pn ops id hs E0 Q (o :: os) E acc := dG rd [(wr,chg)] hrd (fun E' h' => IxOk.guard g b s (h E' h') hg hgo (hE h' hb)) k
theorem d_as (rd : List (Nat × T)) (k : DK P Γ pn ops id hs E0 Q os (E.app wr chg) (⟨rd,[(wr,chg)]⟩ :: acc)) (hrd : E.Has rd := by repeat (first | exact trivial | refine ⟨rfl,?_⟩)) (h : ∀ E' : Env,E'.Has rd → Ok P Γ o E' (E'.app wr chg) := by intro E' h;exact x_as (hO h rfl) rfl) (hg : o.guard = none := by rfl) : DK P Γ pn ops id hs E0 Q (o :: os) E acc := dG rd [(wr,chg)] hrd (fun E' h' => IxOk.op (h E' h') hg) k
theorem e_as {g s : Nat} {b : Bool} (rd : List (Nat × T)) (k : DK P Γ pn ops id hs E0 Q os (E.app wr chg) (⟨rd,[(wr,chg)]⟩ :: acc)) (hrd : E.Has rd := by repeat (first | exact trivial | refine ⟨rfl,?_⟩)) (hg : o.guard = some (g,b) := by rfl) (hgo : (ops[g]?).bind (·.dst) = some s := by rfl) (hb : envL rd s = some (.lit (.bool b)) := by rfl) (h : ∀ E' : Env,E'.Has rd → Ok P Γ o E' (E'.app wr chg) := by intro E' h;exact x_as (hO h rfl) rfl) : DK P Γ pn ops id hs E0 Q (o :: os) E acc := dG rd [(wr,chg)] hrd (fun E' h' => IxOk.guard g b s (h E' h') hg hgo (hE h' hb)) k
theorem d_ldr (rd : List (Nat × T)) (k : DK P Γ pn ops id hs E0 Q os (E.app wr chg) (⟨rd,[(wr,chg)]⟩ :: acc)) (hrd : E.Has rd := by repeat (first | exact trivial | refine ⟨rfl,?_⟩)) (h : ∀ E' : Env,E'.Has rd → Ok P Γ o E' (E'.app wr chg) := by intro E' h;exact y_ldr (hO h rfl) rfl rfl rfl) (hg : o.guard = none := by rfl) : DK P Γ pn ops id hs E0 Q (o :: os) E acc := dG rd [(wr,chg)] hrd (fun E' h' => IxOk.op (h E' h') hg) k
theorem e_ldr {g s : Nat} {b : Bool} (rd : List (Nat × T)) (k : DK P Γ pn ops id hs E0 Q os (E.app wr chg) (⟨rd,[(wr,chg)]⟩ :: acc)) (hrd : E.Has rd := by repeat (first | exact trivial | refine ⟨rfl,?_⟩)) (hg : o.guard = some (g,b) := by rfl) (hgo : (ops[g]?).bind (·.dst) = some s := by rfl) (hb : envL rd s = some (.lit (.bool b)) := by rfl) (h : ∀ E' : Env,E'.Has rd → Ok P Γ o E' (E'.app wr chg) := by intro E' h;exact y_ldr (hO h rfl) rfl rfl rfl) : DK P Γ pn ops id hs E0 Q (o :: os) E acc := dG rd [(wr,chg)] hrd (fun E' h' => IxOk.guard g b s (h E' h') hg hgo (hE h' hb)) k
theorem d_ixr (rd : List (Nat × T)) (k : DK P Γ pn ops id hs E0 Q os (E.app wr chg) (⟨rd,[(wr,chg)]⟩ :: acc)) (hrd : E.Has rd := by repeat (first | exact trivial | refine ⟨rfl,?_⟩)) (h : ∀ E' : Env,E'.Has rd → Ok P Γ o E' (E'.app wr chg) := by intro E' h;exact y_ixr (by first | exact locB (hE h rfl) rfl | exact locA (hE h rfl) (hE h rfl) (by first | rfl | exact getc (by assumption) rfl | exact getc (by assumption) (getc (by assumption) rfl) | exact geta rfl (getc (by assumption) rfl) | exact getp (getc (by assumption) rfl) | exact getp (geta rfl (getc (by assumption) rfl)) | exact getp (geta rfl (getc (by assumption) (getc (by assumption) rfl)))) rfl) (hO h rfl) (by assumption) rfl) (hg : o.guard = none := by rfl) : DK P Γ pn ops id hs E0 Q (o :: os) E acc := dG rd [(wr,chg)] hrd (fun E' h' => IxOk.op (h E' h') hg) k
theorem e_ixr {g s : Nat} {b : Bool} (rd : List (Nat × T)) (k : DK P Γ pn ops id hs E0 Q os (E.app wr chg) (⟨rd,[(wr,chg)]⟩ :: acc)) (hrd : E.Has rd := by repeat (first | exact trivial | refine ⟨rfl,?_⟩)) (hg : o.guard = some (g,b) := by rfl) (hgo : (ops[g]?).bind (·.dst) = some s := by rfl) (hb : envL rd s = some (.lit (.bool b)) := by rfl) (h : ∀ E' : Env,E'.Has rd → Ok P Γ o E' (E'.app wr chg) := by intro E' h;exact y_ixr (by first | exact locB (hE h rfl) rfl | exact locA (hE h rfl) (hE h rfl) (by first | rfl | exact getc (by assumption) rfl | exact getc (by assumption) (getc (by assumption) rfl) | exact geta rfl (getc (by assumption) rfl) | exact getp (getc (by assumption) rfl) | exact getp (geta rfl (getc (by assumption) rfl)) | exact getp (geta rfl (getc (by assumption) (getc (by assumption) rfl)))) rfl) (hO h rfl) (by assumption) rfl) : DK P Γ pn ops id hs E0 Q (o :: os) E acc := dG rd [(wr,chg)] hrd (fun E' h' => IxOk.guard g b s (h E' h') hg hgo (hE h' hb)) k
theorem d_lenr (rd : List (Nat × T)) (k : DK P Γ pn ops id hs E0 Q os (E.app wr chg) (⟨rd,[(wr,chg)]⟩ :: acc)) (hrd : E.Has rd := by repeat (first | exact trivial | refine ⟨rfl,?_⟩)) (h : ∀ E' : Env,E'.Has rd → Ok P Γ o E' (E'.app wr chg) := by intro E' h;exact y_lenr (by first | exact locB (hE h rfl) rfl | exact locA (hE h rfl) (hE h rfl) (by first | rfl | exact getc (by assumption) rfl | exact getc (by assumption) (getc (by assumption) rfl) | exact geta rfl (getc (by assumption) rfl) | exact getp (getc (by assumption) rfl) | exact getp (geta rfl (getc (by assumption) rfl)) | exact getp (geta rfl (getc (by assumption) (getc (by assumption) rfl)))) rfl) rfl) (hg : o.guard = none := by rfl) : DK P Γ pn ops id hs E0 Q (o :: os) E acc := dG rd [(wr,chg)] hrd (fun E' h' => IxOk.op (h E' h') hg) k
theorem e_lenr {g s : Nat} {b : Bool} (rd : List (Nat × T)) (k : DK P Γ pn ops id hs E0 Q os (E.app wr chg) (⟨rd,[(wr,chg)]⟩ :: acc)) (hrd : E.Has rd := by repeat (first | exact trivial | refine ⟨rfl,?_⟩)) (hg : o.guard = some (g,b) := by rfl) (hgo : (ops[g]?).bind (·.dst) = some s := by rfl) (hb : envL rd s = some (.lit (.bool b)) := by rfl) (h : ∀ E' : Env,E'.Has rd → Ok P Γ o E' (E'.app wr chg) := by intro E' h;exact y_lenr (by first | exact locB (hE h rfl) rfl | exact locA (hE h rfl) (hE h rfl) (by first | rfl | exact getc (by assumption) rfl | exact getc (by assumption) (getc (by assumption) rfl) | exact geta rfl (getc (by assumption) rfl) | exact getp (getc (by assumption) rfl) | exact getp (geta rfl (getc (by assumption) rfl)) | exact getp (geta rfl (getc (by assumption) (getc (by assumption) rfl)))) rfl) rfl) : DK P Γ pn ops id hs E0 Q (o :: os) E acc := dG rd [(wr,chg)] hrd (fun E' h' => IxOk.guard g b s (h E' h') hg hgo (hE h' hb)) k
theorem d_add (rd : List (Nat × T)) (k : DK P Γ pn ops id hs E0 Q os (E.app wr chg) (⟨rd,[(wr,chg)]⟩ :: acc)) (hrd : E.Has rd := by repeat (first | exact trivial | refine ⟨rfl,?_⟩)) (h : ∀ E' : Env,E'.Has rd → Ok P Γ o E' (E'.app wr chg) := by intro E' h;exact x_add (by assumption) (hO h rfl) (hO h rfl) rfl) (hg : o.guard = none := by rfl) : DK P Γ pn ops id hs E0 Q (o :: os) E acc := dG rd [(wr,chg)] hrd (fun E' h' => IxOk.op (h E' h') hg) k
theorem e_add {g s : Nat} {b : Bool} (rd : List (Nat × T)) (k : DK P Γ pn ops id hs E0 Q os (E.app wr chg) (⟨rd,[(wr,chg)]⟩ :: acc)) (hrd : E.Has rd := by repeat (first | exact trivial | refine ⟨rfl,?_⟩)) (hg : o.guard = some (g,b) := by rfl) (hgo : (ops[g]?).bind (·.dst) = some s := by rfl) (hb : envL rd s = some (.lit (.bool b)) := by rfl) (h : ∀ E' : Env,E'.Has rd → Ok P Γ o E' (E'.app wr chg) := by intro E' h;exact x_add (by assumption) (hO h rfl) (hO h rfl) rfl) : DK P Γ pn ops id hs E0 Q (o :: os) E acc := dG rd [(wr,chg)] hrd (fun E' h' => IxOk.guard g b s (h E' h') hg hgo (hE h' hb)) k
theorem d_lss (rd : List (Nat × T)) (k : DK P Γ pn ops id hs E0 Q os (E.app wr chg) (⟨rd,[(wr,chg)]⟩ :: acc)) (hrd : E.Has rd := by repeat (first | exact trivial | refine ⟨rfl,?_⟩)) (h : ∀ E' : Env,E'.Has rd → Ok P Γ o E' (E'.app wr chg) := by intro E' h;exact x_lss (hO h rfl) (hO h rfl) rfl) (hg : o.guard = none := by rfl) : DK P Γ pn ops id hs E0 Q (o :: os) E acc := dG rd [(wr,chg)] hrd (fun E' h' => IxOk.op (h E' h') hg) k
theorem e_lss {g s : Nat} {b : Bool} (rd : List (Nat × T)) (k : DK P Γ pn ops id hs E0 Q os (E.app wr chg) (⟨rd,[(wr,chg)]⟩ :: acc)) (hrd : E.Has rd := by repeat (first | exact trivial | refine ⟨rfl,?_⟩)) (hg : o.guard = some (g,b) := by rfl) (hgo : (ops[g]?).bind (·.dst) = some s := by rfl) (hb : envL rd s = some (.lit (.bool b)) := by rfl) (h : ∀ E' : Env,E'.Has rd → Ok P Γ o E' (E'.app wr chg) := by intro E' h;exact x_lss (hO h rfl) (hO h rfl) rfl) : DK P Γ pn ops id hs E0 Q (o :: os) E acc := dG rd [(wr,chg)] hrd (fun E' h' => IxOk.guard g b s (h E' h') hg hgo (hE h' hb)) k
theorem d_pick (rd : List (Nat × T)) (k : DK P Γ pn ops id hs E0 Q os (E.app wr chg) (⟨rd,[(wr,chg)]⟩ :: acc)) (hrd : E.Has rd := by repeat (first | exact trivial | refine ⟨rfl,?_⟩)) (h : ∀ E' : Env,E'.Has rd → Ok P Γ o E' (E'.app wr chg) := by intro E' h;exact x_pick (hO h rfl) (hO h rfl) rfl) (hg : o.guard = none := by rfl) : DK P Γ pn ops id hs E0 Q (o :: os) E acc := dG rd [(wr,chg)] hrd (fun E' h' => IxOk.op (h E' h') hg) k
theorem d_fa (rd : List (Nat × T)) (k : DK P Γ pn ops id hs E0 Q os (E.app wr chg) (⟨rd,[(wr,chg)]⟩ :: acc)) (hrd : E.Has rd := by repeat (first | exact trivial | refine ⟨rfl,?_⟩)) (h : ∀ E' : Env,E'.Has rd → Ok P Γ o E' (E'.app wr chg) := by intro E' h;exact x_fa inferInstance (by first | exact locB (hE h rfl) rfl | exact locA (hE h rfl) (hE h rfl) (by first | rfl | exact getc (by assumption) rfl | exact getc (by assumption) (getc (by assumption) rfl) | exact geta rfl (getc (by assumption) rfl) | exact getp (getc (by assumption) rfl) | exact getp (geta rfl (getc (by assumption) rfl)) | exact getp (geta rfl (getc (by assumption) (getc (by assumption) rfl)))) rfl) rfl rfl rfl) (hg : o.guard = none := by rfl) : DK P Γ pn ops id hs E0 Q (o :: os) E acc := dG rd [(wr,chg)] hrd (fun E' h' => IxOk.op (h E' h') hg) k
theorem e_fa {g s : Nat} {b : Bool} (rd : List (Nat × T)) (k : DK P Γ pn ops id hs E0 Q os (E.app wr chg) (⟨rd,[(wr,chg)]⟩ :: acc)) (hrd : E.Has rd := by repeat (first | exact trivial | refine ⟨rfl,?_⟩)) (hg : o.guard = some (g,b) := by rfl) (hgo : (ops[g]?).bind (·.dst) = some s := by rfl) (hb : envL rd s = some (.lit (.bool b)) := by rfl) (h : ∀ E' : Env,E'.Has rd → Ok P Γ o E' (E'.app wr chg) := by intro E' h;exact x_fa inferInstance (by first | exact locB (hE h rfl) rfl | exact locA (hE h rfl) (hE h rfl) (by first | rfl | exact getc (by assumption) rfl | exact getc (by assumption) (getc (by assumption) rfl) | exact geta rfl (getc (by assumption) rfl) | exact getp (getc (by assumption) rfl) | exact getp (geta rfl (getc (by assumption) rfl)) | exact getp (geta rfl (getc (by assumption) (getc (by assumption) rfl)))) rfl) rfl rfl rfl) : DK P Γ pn ops id hs E0 Q (o :: os) E acc := dG rd [(wr,chg)] hrd (fun E' h' => IxOk.guard g b s (h E' h') hg hgo (hE h' hb)) k
theorem d_ld (rd : List (Nat × T)) (k : DK P Γ pn ops id hs E0 Q os (E.app wr chg) (⟨rd,[(wr,chg)]⟩ :: acc)) (hrd : E.Has rd := by repeat (first | exact trivial | refine ⟨rfl,?_⟩)) (h : ∀ E' : Env,E'.Has rd → Ok P Γ o E' (E'.app wr chg) := by intro E' h;first | exact y_ld (hO h rfl) (hE h rfl) rfl rfl rfl rfl | exact y_ld (hO h rfl) (hE h rfl) (by first | rfl | exact getc (by assumption) rfl | exact getc (by assumption) (getc (by assumption) rfl) | exact geta rfl (getc (by assumption) rfl) | exact getp (getc (by assumption) rfl) | exact getp (geta rfl (getc (by assumption) rfl)) | exact getp (geta rfl (getc (by assumption) (getc (by assumption) rfl)))) (by rfl) (by rfl) (by rfl)) (hg : o.guard = none := by rfl) : DK P Γ pn ops id hs E0 Q (o :: os) E acc := dG rd [(wr,chg)] hrd (fun E' h' => IxOk.op (h E' h') hg) k
theorem e_ld {g s : Nat} {b : Bool} (rd : List (Nat × T)) (k : DK P Γ pn ops id hs E0 Q os (E.app wr chg) (⟨rd,[(wr,chg)]⟩ :: acc)) (hrd : E.Has rd := by repeat (first | exact trivial | refine ⟨rfl,?_⟩)) (hg : o.guard = some (g,b) := by rfl) (hgo : (ops[g]?).bind (·.dst) = some s := by rfl) (hb : envL rd s = some (.lit (.bool b)) := by rfl) (h : ∀ E' : Env,E'.Has rd → Ok P Γ o E' (E'.app wr chg) := by intro E' h;first | exact y_ld (hO h rfl) (hE h rfl) rfl rfl rfl rfl | exact y_ld (hO h rfl) (hE h rfl) (by first | rfl | exact getc (by assumption) rfl | exact getc (by assumption) (getc (by assumption) rfl) | exact geta rfl (getc (by assumption) rfl) | exact getp (getc (by assumption) rfl) | exact getp (geta rfl (getc (by assumption) rfl)) | exact getp (geta rfl (getc (by assumption) (getc (by assumption) rfl)))) (by rfl) (by rfl) (by rfl)) : DK P Γ pn ops id hs E0 Q (o :: os) E acc := dG rd [(wr,chg)] hrd (fun E' h' => IxOk.guard g b s (h E' h') hg hgo (hE h' hb)) k
theorem d_ldp (rd : List (Nat × T)) (k : DK P Γ pn ops id hs E0 Q os (E.app wr chg) (⟨rd,[(wr,chg)]⟩ :: acc)) (hrd : E.Has rd := by repeat (first | exact trivial | refine ⟨rfl,?_⟩)) (h : ∀ E' : Env,E'.Has rd → Ok P Γ o E' (E'.app wr chg) := by intro E' h;first | exact y_ldp (by first | exact locB (hE h rfl) rfl | exact locA (hE h rfl) (hE h rfl) (by first | rfl | exact getc (by assumption) rfl | exact getc (by assumption) (getc (by assumption) rfl) | exact geta rfl (getc (by assumption) rfl) | exact getp (getc (by assumption) rfl) | exact getp (geta rfl (getc (by assumption) rfl)) | exact getp (geta rfl (getc (by assumption) (getc (by assumption) rfl)))) rfl) (hE h rfl) rfl rfl rfl rfl | exact y_ldp (by first | exact locB (hE h rfl) rfl | exact locA (hE h rfl) (hE h rfl) (by first | rfl | exact getc (by assumption) rfl | exact getc (by assumption) (getc (by assumption) rfl) | exact geta rfl (getc (by assumption) rfl) | exact getp (getc (by assumption) rfl) | exact getp (geta rfl (getc (by assumption) rfl)) | exact getp (geta rfl (getc (by assumption) (getc (by assumption) rfl)))) rfl) (hE h rfl) (by first | rfl | exact getc (by assumption) rfl | exact getc (by assumption) (getc (by assumption) rfl) | exact geta rfl (getc (by assumption) rfl) | exact getp (getc (by assumption) rfl) | exact getp (geta rfl (getc (by assumption) rfl)) | exact getp (geta rfl (getc (by assumption) (getc (by assumption) rfl)))) (by rfl) (by rfl) (by rfl)) (hg : o.guard = none := by rfl) : DK P Γ pn ops id hs E0 Q (o :: os) E acc := dG rd [(wr,chg)] hrd (fun E' h' => IxOk.op (h E' h') hg) k
theorem e_ldp {g s : Nat} {b : Bool} (rd : List (Nat × T)) (k : DK P Γ pn ops id hs E0 Q os (E.app wr chg) (⟨rd,[(wr,chg)]⟩ :: acc)) (hrd : E.Has rd := by repeat (first | exact trivial | refine ⟨rfl,?_⟩)) (hg : o.guard = some (g,b) := by rfl) (hgo : (ops[g]?).bind (·.dst) = some s := by rfl) (hb : envL rd s = some (.lit (.bool b)) := by rfl) (h : ∀ E' : Env,E'.Has rd → Ok P Γ o E' (E'.app wr chg) := by intro E' h;first | exact y_ldp (by first | exact locB (hE h rfl) rfl | exact locA (hE h rfl) (hE h rfl) (by first | rfl | exact getc (by assumption) rfl | exact getc (by assumption) (getc (by assumption) rfl) | exact geta rfl (getc (by assumption) rfl) | exact getp (getc (by assumption) rfl) | exact getp (geta rfl (getc (by assumption) rfl)) | exact getp (geta rfl (getc (by assumption) (getc (by assumption) rfl)))) rfl) (hE h rfl) rfl rfl rfl rfl | exact y_ldp (by first | exact locB (hE h rfl) rfl | exact locA (hE h rfl) (hE h rfl) (by first | rfl | exact getc (by assumption) rfl | exact getc (by assumption) (getc (by assumption) rfl) | exact geta rfl (getc (by assumption) rfl) | exact getp (getc (by assumption) rfl) | exact getp (geta rfl (getc (by assumption) rfl)) | exact getp (geta rfl (getc (by assumption) (getc (by assumption) rfl)))) rfl) (hE h rfl) (by first | rfl | exact getc (by assumption) rfl | exact getc (by assumption) (getc (by assumption) rfl) | exact geta rfl (getc (by assumption) rfl) | exact getp (getc (by assumption) rfl) | exact getp (geta rfl (getc (by assumption) rfl)) | exact getp (geta rfl (getc (by assumption) (getc (by assumption) rfl)))) (by rfl) (by rfl) (by rfl)) : DK P Γ pn ops id hs E0 Q (o :: os) E acc := dG rd [(wr,chg)] hrd (fun E' h' => IxOk.guard g b s (h E' h') hg hgo (hE h' hb)) k
theorem d_sub (rd : List (Nat × T)) (k : DK P Γ pn ops id hs E0 Q os (E.app wr chg) (⟨rd,[(wr,chg)]⟩ :: acc)) (hrd : E.Has rd := by repeat (first | exact trivial | refine ⟨rfl,?_⟩)) (h : ∀ E' : Env,E'.Has rd → Ok P Γ o E' (E'.app wr chg) := by intro E' h;exact x_sub (by assumption) (hO h rfl) (hO h rfl) rfl) (hg : o.guard = none := by rfl) : DK P Γ pn ops id hs E0 Q (o :: os) E acc := dG rd [(wr,chg)] hrd (fun E' h' => IxOk.op (h E' h') hg) k
theorem e_sub {g s : Nat} {b : Bool} (rd : List (Nat × T)) (k : DK P Γ pn ops id hs E0 Q os (E.app wr chg) (⟨rd,[(wr,chg)]⟩ :: acc)) (hrd : E.Has rd := by repeat (first | exact trivial | refine ⟨rfl,?_⟩)) (hg : o.guard = some (g,b) := by rfl) (hgo : (ops[g]?).bind (·.dst) = some s := by rfl) (hb : envL rd s = some (.lit (.bool b)) := by rfl) (h : ∀ E' : Env,E'.Has rd → Ok P Γ o E' (E'.app wr chg) := by intro E' h;exact x_sub (by assumption) (hO h rfl) (hO h rfl) rfl) : DK P Γ pn ops id hs E0 Q (o :: os) E acc := dG rd [(wr,chg)] hrd (fun E' h' => IxOk.guard g b s (h E' h') hg hgo (hE h' hb)) k
theorem d_not (rd : List (Nat × T)) (k : DK P Γ pn ops id hs E0 Q os (E.app wr chg) (⟨rd,[(wr,chg)]⟩ :: acc)) (hrd : E.Has rd := by repeat (first | exact trivial | refine ⟨rfl,?_⟩)) (h : ∀ E' : Env,E'.Has rd → Ok P Γ o E' (E'.app wr chg) := by intro E' h;exact x_not (hO h rfl) rfl) (hg : o.guard = none := by rfl) : DK P Γ pn ops id hs E0 Q (o :: os) E acc := dG rd [(wr,chg)] hrd (fun E' h' => IxOk.op (h E' h') hg) k
theorem e_not {g s : Nat} {b : Bool} (rd : List (Nat × T)) (k : DK P Γ pn ops id hs E0 Q os (E.app wr chg) (⟨rd,[(wr,chg)]⟩ :: acc)) (hrd : E.Has rd := by repeat (first | exact trivial | refine ⟨rfl,?_⟩)) (hg : o.guard = some (g,b) := by rfl) (hgo : (ops[g]?).bind (·.dst) = some s := by rfl) (hb : envL rd s = some (.lit (.bool b)) := by rfl) (h : ∀ E' : Env,E'.Has rd → Ok P Γ o E' (E'.app wr chg) := by intro E' h;exact x_not (hO h rfl) rfl) : DK P Γ pn ops id hs E0 Q (o :: os) E acc := dG rd [(wr,chg)] hrd (fun E' h' => IxOk.guard g b s (h E' h') hg hgo (hE h' hb)) k
theorem d_neq (rd : List (Nat × T)) (k : DK P Γ pn ops id hs E0 Q os (E.app wr chg) (⟨rd,[(wr,chg)]⟩ :: acc)) (hrd : E.Has rd := by repeat (first | exact trivial | refine ⟨rfl,?_⟩)) (h : ∀ E' : Env,E'.Has rd → Ok P Γ o E' (E'.app wr chg) := by intro E' h;exact x_neq (hO h rfl) (hO h rfl) rfl) (hg : o.guard = none := by rfl) : DK P Γ pn ops id hs E0 Q (o :: os) E acc := dG rd [(wr,chg)] hrd (fun E' h' => IxOk.op (h E' h') hg) k
theorem e_neq {g s : Nat} {b : Bool} (rd : List (Nat × T)) (k : DK P Γ pn ops id hs E0 Q os (E.app wr chg) (⟨rd,[(wr,chg)]⟩ :: acc)) (hrd : E.Has rd := by repeat (first | exact trivial | refine ⟨rfl,?_⟩)) (hg : o.guard = some (g,b) := by rfl) (hgo : (ops[g]?).bind (·.dst) = some s := by rfl) (hb : envL rd s = some (.lit (.bool b)) := by rfl) (h : ∀ E' : Env,E'.Has rd → Ok P Γ o E' (E'.app wr chg) := by intro E' h;exact x_neq (hO h rfl) (hO h rfl) rfl) : DK P Γ pn ops id hs E0 Q (o :: os) E acc := dG rd [(wr,chg)] hrd (fun E' h' => IxOk.guard g b s (h E' h') hg hgo (hE h' hb)) k
theorem d_eql (rd : List (Nat × T)) (k : DK P Γ pn ops id hs E0 Q os (E.app wr chg) (⟨rd,[(wr,chg)]⟩ :: acc)) (hrd : E.Has rd := by repeat (first | exact trivial | refine ⟨rfl,?_⟩)) (h : ∀ E' : Env,E'.Has rd → Ok P Γ o E' (E'.app wr chg) := by intro E' h;exact x_eql (hO h rfl) (hO h rfl) rfl) (hg : o.guard = none := by rfl) : DK P Γ pn ops id hs E0 Q (o :: os) E acc := dG rd [(wr,chg)] hrd (fun E' h' => IxOk.op (h E' h') hg) k
theorem e_eql {g s : Nat} {b : Bool} (rd : List (Nat × T)) (k : DK P Γ pn ops id hs E0 Q os (E.app wr chg) (⟨rd,[(wr,chg)]⟩ :: acc)) (hrd : E.Has rd := by repeat (first | exact trivial | refine ⟨rfl,?_⟩)) (hg : o.guard = some (g,b) := by rfl) (hgo : (ops[g]?).bind (·.dst) = some s := by rfl) (hb : envL rd s = some (.lit (.bool b)) := by rfl) (h : ∀ E' : Env,E'.Has rd → Ok P Γ o E' (E'.app wr chg) := by intro E' h;exact x_eql (hO h rfl) (hO h rfl) rfl) : DK P Γ pn ops id hs E0 Q (o :: os) E acc := dG rd [(wr,chg)] hrd (fun E' h' => IxOk.guard g b s (h E' h') hg hgo (hE h' hb)) k
theorem d_gtr (rd : List (Nat × T)) (k : DK P Γ pn ops id hs E0 Q os (E.app wr chg) (⟨rd,[(wr,chg)]⟩ :: acc)) (hrd : E.Has rd := by repeat (first | exact trivial | refine ⟨rfl,?_⟩)) (h : ∀ E' : Env,E'.Has rd → Ok P Γ o E' (E'.app wr chg) := by intro E' h;exact x_gtr (hO h rfl) (hO h rfl) rfl) (hg : o.guard = none := by rfl) : DK P Γ pn ops id hs E0 Q (o :: os) E acc := dG rd [(wr,chg)] hrd (fun E' h' => IxOk.op (h E' h') hg) k
theorem e_gtr {g s : Nat} {b : Bool} (rd : List (Nat × T)) (k : DK P Γ pn ops id hs E0 Q os (E.app wr chg) (⟨rd,[(wr,chg)]⟩ :: acc)) (hrd : E.Has rd := by repeat (first | exact trivial | refine ⟨rfl,?_⟩)) (hg : o.guard = some (g,b) := by rfl) (hgo : (ops[g]?).bind (·.dst) = some s := by rfl) (hb : envL rd s = some (.lit (.bool b)) := by rfl) (h : ∀ E' : Env,E'.Has rd → Ok P Γ o E' (E'.app wr chg) := by intro E' h;exact x_gtr (hO h rfl) (hO h rfl) rfl) : DK P Γ pn ops id hs E0 Q (o :: os) E acc := dG rd [(wr,chg)] hrd (fun E' h' => IxOk.guard g b s (h E' h') hg hgo (hE h' hb)) k
theorem d_geq (rd : List (Nat × T)) (k : DK P Γ pn ops id hs E0 Q os (E.app wr chg) (⟨rd,[(wr,chg)]⟩ :: acc)) (hrd : E.Has rd := by repeat (first | exact trivial | refine ⟨rfl,?_⟩)) (h : ∀ E' : Env,E'.Has rd → Ok P Γ o E' (E'.app wr chg) := by intro E' h;exact x_geq (hO h rfl) (hO h rfl) rfl) (hg : o.guard = none := by rfl) : DK P Γ pn ops id hs E0 Q (o :: os) E acc := dG rd [(wr,chg)] hrd (fun E' h' => IxOk.op (h E' h') hg) k
theorem e_geq {g s : Nat} {b : Bool} (rd : List (Nat × T)) (k : DK P Γ pn ops id hs E0 Q os (E.app wr chg) (⟨rd,[(wr,chg)]⟩ :: acc)) (hrd : E.Has rd := by repeat (first | exact trivial | refine ⟨rfl,?_⟩)) (hg : o.guard = some (g,b) := by rfl) (hgo : (ops[g]?).bind (·.dst) = some s := by rfl) (hb : envL rd s = some (.lit (.bool b)) := by rfl) (h : ∀ E' : Env,E'.Has rd → Ok P Γ o E' (E'.app wr chg) := by intro E' h;exact x_geq (hO h rfl) (hO h rfl) rfl) : DK P Γ pn ops id hs E0 Q (o :: os) E acc := dG rd [(wr,chg)] hrd (fun E' h' => IxOk.guard g b s (h E' h') hg hgo (hE h' hb)) k
theorem d_leq (rd : List (Nat × T)) (k : DK P Γ pn ops id hs E0 Q os (E.app wr chg) (⟨rd,[(wr,chg)]⟩ :: acc)) (hrd : E.Has rd := by repeat (first | exact trivial | refine ⟨rfl,?_⟩)) (h : ∀ E' : Env,E'.Has rd → Ok P Γ o E' (E'.app wr chg) := by intro E' h;exact x_leq (hO h rfl) (hO h rfl) rfl) (hg : o.guard = none := by rfl) : DK P Γ pn ops id hs E0 Q (o :: os) E acc := dG rd [(wr,chg)] hrd (fun E' h' => IxOk.op (h E' h') hg) k
theorem e_leq {g s : Nat} {b : Bool} (rd : List (Nat × T)) (k : DK P Γ pn ops id hs E0 Q os (E.app wr chg) (⟨rd,[(wr,chg)]⟩ :: acc)) (hrd : E.Has rd := by repeat (first | exact trivial | refine ⟨rfl,?_⟩)) (hg : o.guard = some (g,b) := by rfl) (hgo : (ops[g]?).bind (·.dst) = some s := by rfl) (hb : envL rd s = some (.lit (.bool b)) := by rfl) (h : ∀ E' : Env,E'.Has rd → Ok P Γ o E' (E'.app wr chg) := by intro E' h;exact x_leq (hO h rfl) (hO h rfl) rfl) : DK P Γ pn ops id hs E0 Q (o :: os) E acc := dG rd [(wr,chg)] hrd (fun E' h' => IxOk.guard g b s (h E' h') hg hgo (hE h' hb)) k
theorem d_far (rd : List (Nat × T)) (k : DK P Γ pn ops id hs E0 Q os (E.app wr chg) (⟨rd,[(wr,chg)]⟩ :: acc)) (hrd : E.Has rd := by repeat (first | exact trivial | refine ⟨rfl,?_⟩)) (h : ∀ E' : Env,E'.Has rd → Ok P Γ o E' (E'.app wr chg) := by intro E' h;exact x_far inferInstance (hO h rfl) rfl rfl rfl) (hg : o.guard = none := by rfl) : DK P Γ pn ops id hs E0 Q (o :: os) E acc := dG rd [(wr,chg)] hrd (fun E' h' => IxOk.op (h E' h') hg) k
theorem e_far {g s : Nat} {b : Bool} (rd : List (Nat × T)) (k : DK P Γ pn ops id hs E0 Q os (E.app wr chg) (⟨rd,[(wr,chg)]⟩ :: acc)) (hrd : E.Has rd := by repeat (first | exact trivial | refine ⟨rfl,?_⟩)) (hg : o.guard = some (g,b) := by rfl) (hgo : (ops[g]?).bind (·.dst) = some s := by rfl) (hb : envL rd s = some (.lit (.bool b)) := by rfl) (h : ∀ E' : Env,E'.Has rd → Ok P Γ o E' (E'.app wr chg) := by intro E' h;exact x_far inferInstance (hO h rfl) rfl rfl rfl) : DK P Γ pn ops id hs E0 Q (o :: os) E acc := dG rd [(wr,chg)] hrd (fun E' h' => IxOk.guard g b s (h E' h') hg hgo (hE h' hb)) k
theorem d_nilc (rd : List (Nat × T)) (k : DK P Γ pn ops id hs E0 Q os (E.app wr chg) (⟨rd,[(wr,chg)]⟩ :: acc)) (hrd : E.Has rd := by repeat (first | exact trivial | refine ⟨rfl,?_⟩)) (h : ∀ E' : Env,E'.Has rd → Ok P Γ o E' (E'.app wr chg) := by intro E' h;first | exact x_nilc (hO h rfl) (isPtr_ro (hO h rfl)) rfl | exact x_nilc (hO h rfl) (isPtr_addr (hO h rfl)) rfl | exact x_nilc (hO h rfl) (isPtr_own (by first | exact locB (hE h rfl) rfl | exact locA (hE h rfl) (hE h rfl) (by first | rfl | exact getc (by assumption) rfl | exact getc (by assumption) (getc (by assumption) rfl) | exact geta rfl (getc (by assumption) rfl) | exact getp (getc (by assumption) rfl) | exact getp (geta rfl (getc (by assumption) rfl)) | exact getp (geta rfl (getc (by assumption) (getc (by assumption) rfl)))) rfl)) rfl) (hg : o.guard = none := by rfl) : DK P Γ pn ops id hs E0 Q (o :: os) E acc := dG rd [(wr,chg)] hrd (fun E' h' => IxOk.op (h E' h') hg) k
theorem e_nilc {g s : Nat} {b : Bool} (rd : List (Nat × T)) (k : DK P Γ pn ops id hs E0 Q os (E.app wr chg) (⟨rd,[(wr,chg)]⟩ :: acc)) (hrd : E.Has rd := by repeat (first | exact trivial | refine ⟨rfl,?_⟩)) (hg : o.guard = some (g,b) := by rfl) (hgo : (ops[g]?).bind (·.dst) = some s := by rfl) (hb : envL rd s = some (.lit (.bool b)) := by rfl) (h : ∀ E' : Env,E'.Has rd → Ok P Γ o E' (E'.app wr chg) := by intro E' h;first | exact x_nilc (hO h rfl) (isPtr_ro (hO h rfl)) rfl | exact x_nilc (hO h rfl) (isPtr_addr (hO h rfl)) rfl | exact x_nilc (hO h rfl) (isPtr_own (by first | exact locB (hE h rfl) rfl | exact locA (hE h rfl) (hE h rfl) (by first | rfl | exact getc (by assumption) rfl | exact getc (by assumption) (getc (by assumption) rfl) | exact geta rfl (getc (by assumption) rfl) | exact getp (getc (by assumption) rfl) | exact getp (geta rfl (getc (by assumption) rfl)) | exact getp (geta rfl (getc (by assumption) (getc (by assumption) rfl)))) rfl)) rfl) : DK P Γ pn ops id hs E0 Q (o :: os) E acc := dG rd [(wr,chg)] hrd (fun E' h' => IxOk.guard g b s (h E' h') hg hgo (hE h' hb)) k
theorem d_ix (rd : List (Nat × T)) (k : DK P Γ pn ops id hs E0 Q os (E.app wr chg) (⟨rd,[(wr,chg)]⟩ :: acc)) (hrd : E.Has rd := by repeat (first | exact trivial | refine ⟨rfl,?_⟩)) (h : ∀ E' : Env,E'.Has rd → Ok P Γ o E' (E'.app wr chg) := by intro E' h;exact y_ix (by first | exact locB (hE h rfl) rfl | exact locA (hE h rfl) (hE h rfl) (by first | rfl | exact getc (by assumption) rfl | exact getc (by assumption) (getc (by assumption) rfl) | exact geta rfl (getc (by assumption) rfl) | exact getp (getc (by assumption) rfl) | exact getp (geta rfl (getc (by assumption) rfl)) | exact getp (geta rfl (getc (by assumption) (getc (by assumption) rfl)))) rfl) (hO h rfl) (by assumption) rfl) (hg : o.guard = none := by rfl) : DK P Γ pn ops id hs E0 Q (o :: os) E acc := dG rd [(wr,chg)] hrd (fun E' h' => IxOk.op (h E' h') hg) k
theorem e_ix {g s : Nat} {b : Bool} (rd : List (Nat × T)) (k : DK P Γ pn ops id hs E0 Q os (E.app wr chg) (⟨rd,[(wr,chg)]⟩ :: acc)) (hrd : E.Has rd := by repeat (first | exact trivial | refine ⟨rfl,?_⟩)) (hg : o.guard = some (g,b) := by rfl) (hgo : (ops[g]?).bind (·.dst) = some s := by rfl) (hb : envL rd s = some (.lit (.bool b)) := by rfl) (h : ∀ E' : Env,E'.Has rd → Ok P Γ o E' (E'.app wr chg) := by intro E' h;exact y_ix (by first | exact locB (hE h rfl) rfl | exact locA (hE h rfl) (hE h rfl) (by first | rfl | exact getc (by assumption) rfl | exact getc (by assumption) (getc (by assumption) rfl) | exact geta rfl (getc (by assumption) rfl) | exact getp (getc (by assumption) rfl) | exact getp (geta rfl (getc (by assumption) rfl)) | exact getp (geta rfl (getc (by assumption) (getc (by assumption) rfl)))) rfl) (hO h rfl) (by assumption) rfl) : DK P Γ pn ops id hs E0 Q (o :: os) E acc := dG rd [(wr,chg)] hrd (fun E' h' => IxOk.guard g b s (h E' h') hg hgo (hE h' hb)) k
theorem d_len (rd : List (Nat × T)) (k : DK P Γ pn ops id hs E0 Q os (E.app wr chg) (⟨rd,[(wr,chg)]⟩ :: acc)) (hrd : E.Has rd := by repeat (first | exact trivial | refine ⟨rfl,?_⟩)) (h : ∀ E' : Env,E'.Has rd → Ok P Γ o E' (E'.app wr chg) := by intro E' h;exact y_len (by first | exact locB (hE h rfl) rfl | exact locA (hE h rfl) (hE h rfl) (by first | rfl | exact getc (by assumption) rfl | exact getc (by assumption) (getc (by assumption) rfl) | exact geta rfl (getc (by assumption) rfl) | exact getp (getc (by assumption) rfl) | exact getp (geta rfl (getc (by assumption) rfl)) | exact getp (geta rfl (getc (by assumption) (getc (by assumption) rfl)))) rfl) rfl) (hg : o.guard = none := by rfl) : DK P Γ pn ops id hs E0 Q (o :: os) E acc := dG rd [(wr,chg)] hrd (fun E' h' => IxOk.op (h E' h') hg) k
theorem e_len {g s : Nat} {b : Bool} (rd : List (Nat × T)) (k : DK P Γ pn ops id hs E0 Q os (E.app wr chg) (⟨rd,[(wr,chg)]⟩ :: acc)) (hrd : E.Has rd := by repeat (first | exact trivial | refine ⟨rfl,?_⟩)) (hg : o.guard = some (g,b) := by rfl) (hgo : (ops[g]?).bind (·.dst) = some s := by rfl) (hb : envL rd s = some (.lit (.bool b)) := by rfl) (h : ∀ E' : Env,E'.Has rd → Ok P Γ o E' (E'.app wr chg) := by intro E' h;exact y_len (by first | exact locB (hE h rfl) rfl | exact locA (hE h rfl) (hE h rfl) (by first | rfl | exact getc (by assumption) rfl | exact getc (by assumption) (getc (by assumption) rfl) | exact geta rfl (getc (by assumption) rfl) | exact getp (getc (by assumption) rfl) | exact getp (geta rfl (getc (by assumption) rfl)) | exact getp (geta rfl (getc (by assumption) (getc (by assumption) rfl)))) rfl) rfl) : DK P Γ pn ops id hs E0 Q (o :: os) E acc := dG rd [(wr,chg)] hrd (fun E' h' => IxOk.guard g b s (h E' h') hg hgo (hE h' hb)) k
theorem d_mul (rd : List (Nat × T)) (k : DK P Γ pn ops id hs E0 Q os (E.app wr chg) (⟨rd,[(wr,chg)]⟩ :: acc)) (hrd : E.Has rd := by repeat (first | exact trivial | refine ⟨rfl,?_⟩)) (h : ∀ E' : Env,E'.Has rd → Ok P Γ o E' (E'.app wr chg) := by intro E' h;exact x_mul (by assumption) (hO h rfl) (hO h rfl) rfl) (hg : o.guard = none := by rfl) : DK P Γ pn ops id hs E0 Q (o :: os) E acc := dG rd [(wr,chg)] hrd (fun E' h' => IxOk.op (h E' h') hg) k
theorem d_rem (rd : List (Nat × T)) (k : DK P Γ pn ops id hs E0 Q os (E.app wr chg) (⟨rd,[(wr,chg)]⟩ :: acc)) (hrd : E.Has rd := by repeat (first | exact trivial | refine ⟨rfl,?_⟩)) (h : ∀ E' : Env,E'.Has rd → Ok P Γ o E' (E'.app wr chg) := by intro E' h;exact x_rem (by assumption) (hO h rfl) (hO h rfl) rfl) (hg : o.guard = none := by rfl) : DK P Γ pn ops id hs E0 Q (o :: os) E acc := dG rd [(wr,chg)] hrd (fun E' h' => IxOk.op (h E' h') hg) k
theorem d_quo (rd : List (Nat × T)) (k : DK P Γ pn ops id hs E0 Q os (E.app wr chg) (⟨rd,[(wr,chg)]⟩ :: acc)) (hrd : E.Has rd := by repeat (first | exact trivial | refine ⟨rfl,?_⟩)) (h : ∀ E' : Env,E'.Has rd → Ok P Γ o E' (E'.app wr chg) := by intro E' h;exact x_quo (by assumption) (hO h rfl) (hO h rfl) rfl) (hg : o.guard = none := by rfl) : DK P Γ pn ops id hs E0 Q (o :: os) E acc := dG rd [(wr,chg)] hrd (fun E' h' => IxOk.op (h E' h') hg) k
theorem d_neg (rd : List (Nat × T)) (k : DK P Γ pn ops id hs E0 Q os (E.app wr chg) (⟨rd,[(wr,chg)]⟩ :: acc)) (hrd : E.Has rd := by repeat (first | exact trivial | refine ⟨rfl,?_⟩)) (h : ∀ E' : Env,E'.Has rd → Ok P Γ o E' (E'.app wr chg) := by intro E' h;exact x_neg (by assumption) (hO h rfl) rfl) (hg : o.guard = none := by rfl) : DK P Γ pn ops id hs E0 Q (o :: os) E acc := dG rd [(wr,chg)] hrd (fun E' h' => IxOk.op (h E' h') hg) k
theorem d_alloc (rd : List (Nat × T)) (k : DK P Γ pn ops id hs E0 Q os (E.app wr chg) (⟨rd,[(wr,chg)]⟩ :: acc)) (hrd : E.Has rd := by repeat (first | exact trivial | refine ⟨rfl,?_⟩)) (h : ∀ E' : Env,E'.Has rd → Ok P Γ o E' (E'.app wr chg) := by intro E' h;exact x_alloc inferInstance rfl) (hg : o.guard = none := by rfl) : DK P Γ pn ops id hs E0 Q (o :: os) E acc := dG rd [(wr,chg)] hrd (fun E' h' => IxOk.op (h E' h') hg) k
theorem d_ext (rd : List (Nat × T)) (k : DK P Γ pn ops id hs E0 Q os (E.app wr chg) (⟨rd,[(wr,chg)]⟩ :: acc)) (hrd : E.Has rd := by repeat (first | exact trivial | refine ⟨rfl,?_⟩)) (h : ∀ E' : Env,E'.Has rd → Ok P Γ o E' (E'.app wr chg) := by intro E' h;exact x_ext (hE h rfl) rfl rfl) (hg : o.guard = none := by rfl) : DK P Γ pn ops id hs E0 Q (o :: os) E acc := dG rd [(wr,chg)] hrd (fun E' h' => IxOk.op (h E' h') hg) k
theorem d_box (rd : List (Nat × T)) (k : DK P Γ pn ops id hs E0 Q os (E.app wr chg) (⟨rd,[(wr,chg)]⟩ :: acc)) (hrd : E.Has rd := by repeat (first | exact trivial | refine ⟨rfl,?_⟩)) (h : ∀ E' : Env,E'.Has rd → Ok P Γ o E' (E'.app wr chg) := by intro E' h;exact x_box (hE h rfl) (cleanB_ok rfl) rfl) (hg : o.guard = none := by rfl) : DK P Γ pn ops id hs E0 Q (o :: os) E acc := dG rd [(wr,chg)] hrd (fun E' h' => IxOk.op (h E' h') hg) k
theorem d_mvT (rd : List (Nat × T)) (k : DK P Γ pn ops id hs E0 Q os (E.app wr chg) (⟨rd,[(wr,chg)]⟩ :: acc)) (hrd : E.Has rd := by repeat (first | exact trivial | refine ⟨rfl,?_⟩)) (h : ∀ E' : Env,E'.Has rd → Ok P Γ o E' (E'.app wr chg) := by intro E' h;exact x_mvT (hE h rfl) rfl) (hg : o.guard = none := by rfl) : DK P Γ pn ops id hs E0 Q (o :: os) E acc := dG rd [(wr,chg)] hrd (fun E' h' => IxOk.op (h E' h') hg) k
theorem cA {f : FuncId} {xs : List Operand} {ats : Array TypeId} {us res : List T} (hcall : CallsF P f) (hc : FnC P f us res []) (k : RW P Γ pn ops os (E.app (cWr d res []) (cChg d [])) Q) (hargs : ArgsOk E [] 0 xs us := by repeat (first | exact trivial | refine ⟨agC _ rfl (by first | rfl | exact cloO inferInstance | exact cloS rfl (by first | rfl | exact getc (by assumption) rfl | exact getc (by assumption) (getc (by assumption) rfl) | exact geta rfl (getc (by assumption) rfl) | exact getp (getc (by assumption) rfl) | exact getp (geta rfl (getc (by assumption) rfl)) | exact getp (geta rfl (getc (by assumption) (getc (by assumption) rfl)))) inferInstance | exact cloSR rfl (by first | rfl | exact getc (by assumption) rfl | exact getc (by assumption) (getc (by assumption) rfl) | exact geta rfl (getc (by assumption) rfl) | exact getp (getc (by assumption) rfl) | exact getp (geta rfl (getc (by assumption) rfl)) | exact getp (geta rfl (getc (by assumption) (getc (by assumption) rfl))))) rfl,?_⟩)) (hres : ResOk res := by repeat (first | exact resN | refine resC inferInstance ?_)) (sd : Nat.blt d Γ.N = true := by rfl) (hg : gd = none := by rfl) (hp : pn.ok (some d) = true := by rfl) :
  RW P Γ pn ops (⟨some d,.call { callee := .value (.func f),args := xs.toArray,argTypes := ats },ty,ps,af,gd⟩ :: os) E Q := oP (x_call hcall hc hargs hres sd) k hg hp
theorem dC {f : FuncId} {xs : List Operand} {ats : Array TypeId} {us res : List T} (rd : List (Nat × T)) (hcall : CallsF P f) (hc : FnC P f us res []) (k : DK P Γ pn ops id hs E0 Q os (E.app (cWr d res []) (cChg d [])) (⟨rd,[(cWr d res [],cChg d [])]⟩ :: acc)) (hrd : E.Has rd := by repeat (first | exact trivial | refine ⟨rfl,?_⟩)) (hargs : ∀ E' : Env,E'.Has rd → ArgsOk E' [] 0 xs us := by intro E' h;repeat (first | exact trivial | refine ⟨agC _ (hO h rfl) (by first | rfl | exact cloO inferInstance | exact cloS (hE h rfl) (by first | rfl | exact getc (by assumption) rfl | exact getc (by assumption) (getc (by assumption) rfl) | exact geta rfl (getc (by assumption) rfl) | exact getp (getc (by assumption) rfl) | exact getp (geta rfl (getc (by assumption) rfl)) | exact getp (geta rfl (getc (by assumption) (getc (by assumption) rfl)))) inferInstance | exact cloSR (hE h rfl) (by first | rfl | exact getc (by assumption) rfl | exact getc (by assumption) (getc (by assumption) rfl) | exact geta rfl (getc (by assumption) rfl) | exact getp (getc (by assumption) rfl) | exact getp (geta rfl (getc (by assumption) rfl)) | exact getp (geta rfl (getc (by assumption) (getc (by assumption) rfl))))) rfl,?_⟩)) (hres : ResOk res := by repeat (first | exact resN | refine resC inferInstance ?_)) (sd : Nat.blt d Γ.N = true := by rfl) (hg : gd = none := by rfl) :
  DK P Γ pn ops id hs E0 Q (⟨some d,.call { callee := .value (.func f),args := xs.toArray,argTypes := ats },ty,ps,af,gd⟩ :: os) E acc :=
 dG rd [(cWr d res [],cChg d [])] hrd (fun E' h' => IxOk.op (x_call hcall hc (hargs E' h') hres sd) hg) k
theorem sk2 {g s : Nat} {b b' : Bool} (k : RW P Γ pn ops os (E.app [(d,some (.tup []))] [(d,0)]) Q) (hd : o.dst = some d := by rfl) (hg : o.guard = some (g,b) := by rfl) (hgo : (ops[g]?).bind (·.dst) = some s := by rfl) (hb : E s = some (.lit (.bool b')) := by rfl) (hbb : (b == b') = false := by rfl) (sd : Nat.blt d Γ.N = true := by rfl) (hp : pn.ok o.dst = true := by rfl) :
  RW P Γ pn ops (o :: os) E Q := RW.cons (IxOk.skip2 g b b' s hd sd hbb hg hgo hb) k hp
theorem sk3 {g s : Nat} {b : Bool} (k : RW P Γ pn ops os (E.app [(d,some (.tup []))] [(d,0)]) Q) (hd : o.dst = some d := by rfl) (hg : o.guard = some (g,b) := by rfl) (hgo : (ops[g]?).bind (·.dst) = some s := by rfl) (hb : E s = some (.tup []) := by rfl) (sd : Nat.blt d Γ.N = true := by rfl) (hp : pn.ok o.dst = true := by rfl) :
  RW P Γ pn ops (o :: os) E Q := RW.cons (IxOk.skip3 g b s hd sd hg hgo hb) k hp
theorem dsk2 {g s : Nat} {b b' : Bool} (k : DK P Γ pn ops id hs E0 Q os (E.app [(d,some (.tup []))] [(d,0)]) (⟨[(s,.lit (.bool b'))],[([(d,some (.tup []))],[(d,0)])]⟩ :: acc)) (hd : o.dst = some d := by rfl) (hg : o.guard = some (g,b) := by rfl) (hgo : (ops[g]?).bind (·.dst) = some s := by rfl) (hb : E s = some (.lit (.bool b')) := by rfl) (hbb : (b == b') = false := by rfl) (sd : Nat.blt d Γ.N = true := by rfl) :
  DK P Γ pn ops id hs E0 Q (o :: os) E acc := dG [(s,.lit (.bool b'))] [([(d,some (.tup []))],[(d,0)])] ⟨hb,trivial⟩ (fun _E' h => IxOk.skip2 g b b' s hd sd hbb hg hgo h.1) k
theorem dsk3 {g s : Nat} {b : Bool} (k : DK P Γ pn ops id hs E0 Q os (E.app [(d,some (.tup []))] [(d,0)]) (⟨[(s,.tup [])],[([(d,some (.tup []))],[(d,0)])]⟩ :: acc)) (hd : o.dst = some d := by rfl) (hg : o.guard = some (g,b) := by rfl) (hgo : (ops[g]?).bind (·.dst) = some s := by rfl) (hb : E s = some (.tup []) := by rfl) (sd : Nat.blt d Γ.N = true := by rfl) :
  DK P Γ pn ops id hs E0 Q (o :: os) E acc := dG [(s,.tup [])] [([(d,some (.tup []))],[(d,0)])] ⟨hb,trivial⟩ (fun _E' h => IxOk.skip3 g b s hd sd hg hgo h.1) k
theorem dNA (hm : P.follows .mixedOrders = true) (hQ : Q .normal E) (hf : fwdFrom 0 ops.toList = true := by rfl) (ha : ancFrom (ancs ops.toList) (ancs ops.toList) ops.toList = true := by rfl) (hp : pairsFrom acc.reverse 0 (ancs ops.toList) acc.reverse = true := by rfl)
  (hpn : ops.toList.all (fun o => pn.ok o.dst) = true := by rfl) (hh0 : holdB hs E0 = true := by rfl) (hw : acc.reverse.all (wrS hs) = true := by rfl) : DK P Γ pn ops id hs E0 Q [] E acc := dN _ hm hQ hf ha hp hpn hh0 hw
theorem cn {c1 c2 : Code} {α : Type} {b : Bool} {u v z : α} (h : cond b u v = z) (ht : b = true → u = z → CW P Γ pn c1 E Q) (hf : b = false → v = z → CW P Γ pn c2 E Q) (hb : opT E x = some (.lit (.bool b)) := by rfl) : CW P Γ pn (.cond x c1 c2) E Q :=
 CW.cond b hb (fun hc => ht hc (cT hc h)) fun hc => hf hc (cF hc h)
theorem fB {f : FuncId} {fn : Func} {c : Code} {us res : List T} {rws : List (Nat × T)} (hf : P.funcs[f]? = some fn) (h : ∀ (St : Stb) (W : Nat → Prop) (w0 : World) (v : Nat → Value),CW P ⟨St,W,w0,fn.ntmps⟩ (pinsOf v (rws.map (·.1))) c (envL (argE 0 us)) (RetG ⟨St,W,w0,fn.ntmps⟩ P fn.results us res rws)) (hb : fn.body = some c := by rfl) (hn : us.length ≤ fn.ntmps := by exact Nat.le_of_ble_eq_true rfl)
  (ht : Tops us := by repeat (first | exact trivial | refine ⟨by first | exact Top.of_clean _ (Enc.clean _) | simp [Top,Tops],?_⟩)) (hr : rws.all (fun x => decide (x.1 < us.length)) = true := by rfl) : FnC P f us res rws :=
 FnC.of_bodyG hf hb hn ht hr (by rintro ⟨St,W,w0,N⟩ v hN;subst hN;exact h St W w0 v)
def tmpsOf : List ResultVar → Option (List Nat)
 | [] => some []
 | .tmp s :: l => (tmpsOf l).map (s :: ·)
 | .cell _ _ :: _ => none
theorem tmpsOf_ok : ∀ (rs : List ResultVar) (ss : List Nat) (res : List T),tmpsOf rs = some ss → ss.map E = res.map some → res.all T.okTup = true → ∃ nd : Nds,RsOk P E rs nd ∧ nd.map (·.2.2) = res ∧ nd.map (·.1) = ss
 | [],ss,res,h,hE,_ => by
  simp [tmpsOf] at h;subst h
  cases res with
  | nil => exact ⟨[],trivial,rfl,rfl⟩
  | cons _ _ => simp at hE
 | .tmp s :: rs,ss,res,h,hE,ht => by
  simp only [tmpsOf,Option.map_eq_some_iff] at h
  obtain ⟨ss',h,rfl⟩ := h
  cases res with
  | nil => simp at hE
  | cons t res =>
   simp only [List.map_cons,List.cons.injEq] at hE
   simp only [List.all_cons,Bool.and_eq_true] at ht
   obtain ⟨nd,h1,h2,h3⟩ := tmpsOf_ok rs ss' res h hE.2 ht.2
   exact ⟨(s,[],t) :: nd,⟨⟨rfl,rfl,hE.1,ht.1⟩,h1⟩,by simp [h2],by simp [h3]⟩
 | .cell _ _ :: _,_,_,h,_,_ => by simp [tmpsOf] at h
theorem rT {rs : Array ResultVar} {us res : List T} {rws : List (Nat × T)} {e : Exit} {ss : List Nat} (hs : tmpsOf rs.toList = some ss := by rfl) (hE : ss.map E = res.map some := by rfl) (ht : res.all T.okTup = true := by rfl) (hl : ss.all (fun s => Nat.ble us.length s) = true := by rfl) (hn : nodupB ss = true := by rfl)
  (hw : LOk E us rws := by repeat (first | exact trivial | refine ⟨⟨rfl,_,rfl⟩,?_⟩)) (he : e = .ret ∨ e = .normal := by first | exact .inl rfl | exact .inr rfl) : RetG Γ P rs us res rws e E := by
 obtain ⟨nd,h1,h2,h3⟩ := tmpsOf_ok (P := P) rs.toList ss res hs hE ht
 refine ⟨E,Ghost.refl,he,nd,h1,h2,fun x hx => ?_,by rw [h3];exact nodupB_ok hn,hw⟩
 have : x.1 ∈ ss := by rw [← h3];exact List.mem_map.2 ⟨x,hx,rfl⟩
 exact Nat.le_of_ble_eq_true (List.all_eq_true.1 hl _ this)
theorem eN {σ ρ : Type} {en : σ → Env} {Q1 : ρ → Exit → Env → Prop} {y : σ} {x : σ ⊕ ρ} (h : some (Sum.inl y) = some x) (q : Ghost Γ E (en y) := by exact .has (by repeat (first | exact trivial | refine ⟨rfl,?_⟩))) : Round Γ en Q1 x .normal E := by
 obtain rfl := sI h;exact ⟨rfl,q⟩
theorem rTg {rs : Array ResultVar} {us res : List T} {rws : List (Nat × T)} {e : Exit} (hg : Ghost Γ E E') (h : RetG Γ P rs us res rws e E') : RetG Γ P rs us res rws e E := by
 obtain ⟨E2,h1,h2⟩ := h;exact ⟨E2,hg.trans h1,h2⟩
theorem eNg {σ ρ : Type} {en : σ → Env} {Q1 : ρ → Exit → Env → Prop} {y : σ} {x : σ ⊕ ρ} (hg : Ghost Γ E E') (h : some (Sum.inl y) = some x) (q : Ghost Γ E' (en y) := by exact .has (by repeat (first | exact trivial | refine ⟨rfl,?_⟩))) : Round Γ en Q1 x .normal E := eN h (hg.trans q)
theorem eX {σ ρ : Type} {en : σ → Env} {Q1 : ρ → Exit → Env → Prop} {y : ρ} {x : σ ⊕ ρ} {e : Exit} (h : some (Sum.inr y) = some x) (q : Q1 y e E := by first | exact ⟨rfl,.has (by repeat (first | exact trivial | refine ⟨rfl,?_⟩))⟩ | exact ⟨rfl,rT⟩) (hne : e ≠ .normal := by first | exact neX | exact neR) : Round Γ en Q1 x e E := by
 obtain rfl := sI h;exact ⟨hne,q⟩
theorem eXg {σ ρ : Type} {en : σ → Env} {Q1 : ρ → Exit → Env → Prop} {y : ρ} {x : σ ⊕ ρ} {e : Exit} (_hg : Ghost Γ E E') (h : some (Sum.inr y) = some x) (q : Q1 y e E := by first | exact ⟨rfl,.hasG (by assumption) (by repeat (first | exact trivial | refine ⟨rfl,?_⟩))⟩ | exact ⟨rfl,rTg (by assumption) rT⟩) (hne : e ≠ .normal := by first | exact neX | exact neR) : Round Γ en Q1 x e E := by
 obtain rfl := sI h;exact ⟨hne,q⟩
end
end Go.Ab

namespace Go.Ab
open Go
section
variable {Γ : Ctx} {E : Env}
theorem Ghost.frzG (s : Nat) (t : T) {t' : T} (hs : E s = some t) (h : frzT t = t') : Ghost Γ E (E.app [(s,some t')] [(s,1)]) := h ▸ Ghost.freeze s t hs
theorem fzO {α : Type} {k : Nat} {f g : α → T} {xs : List α} (h : StripTo f g) : frzT (L k f xs) = .ro (L k g xs) := by
 simp only [frzT,strip,strips_of h.h xs]
theorem fzP {t u : T} (h : strip t = u) : frzT (.ptr t) = .ro (.ptr u) := by simp only [frzT,strip,h]
theorem fzA {xs ys : List T} (h : frzTs xs = ys) : frzT (.agg xs) = .agg ys := by simp only [frzT,h]
theorem fzN : frzTs [] = [] := rfl
theorem fzC {x y : T} {xs ys : List T} (h : frzT x = y) (h2 : frzTs xs = ys) : frzTs (x :: xs) = y :: ys := by simp only [frzTs,h,h2]
end
end Go.Ab
namespace Go.Ab
open Go
theorem getHole {α : Type} {k : Nat} {f : α → T} {xs : List α} {i j : Int} {a b : α} {X : T} (hi : ixO xs i = some a) (hj : ixO xs j = some b) (hne : (i != j) = true) :
  (if [i.toNat] = [] then X else (L k f xs).set [i.toNat].reverse T.any).get [j.toNat].reverse = some (f b) := by
 have h1 := (ixO_some hi)
 have h2 := (ixO_some hj)
 have h3 : i ≠ j := by simpa using hne
 have h4 : i.toNat ≠ j.toNat := by omega
 simp only [List.cons_ne_nil,if_false,List.reverse_cons,List.reverse_nil,List.nil_append]
 simp [L,T.set,T.get,h1.2,h2.2,List.getElem?_set_ne h4]
theorem keepO {E : Env} {wr : Wr} {chg : Chg} {s : Nat} {t : T} (h : E s = some t) (hf : wr.find s = none := by rfl) (hb : t.okB chg = true := by rfl) : opT (E.app wr chg) (.tmp s) = some t := keepE h hf hb
theorem argClS {E : Env} {rs : List Nat} {s r : Nat} {q : List Nat} {tr u : T} (hr : E r = some tr) (hg : tr.get q.reverse = some u) (h4 : notSame u = true) (hn : rs.contains r = false) : argCl E rs (.tmp s) (.same r q) = true := by
 simp only [argCl,cloOk,follow_at hr hg h4,hn,Bool.not_false]
end Go.Ab

namespace Go.Ab
open Go
section
variable {P : Program} {Γ : Ctx} {pn : Pins} {E E' E0 : Env} {Q : Exit → Env → Prop} {ops : Array Oper} {o : Oper} {os : List Oper} {id d : Nat} {hs : List Nat} {acc : List Stp} {x y : Operand} {ty : TypeId} {ps : String} {af : Array Edge} {gd : Option (Nat × Bool)}
theorem dGk {rd : List (Nat × T)} {l : Apps} (k : DK P Γ pn ops id hs E0 Q os (E.apps l) (⟨rd,l⟩ :: acc)) (hrd : E.Has rd) (hst : ∀ E' : Env,E'.Has rd → IxOk P Γ ops o E' (E'.apps l)) : DK P Γ pn ops id hs E0 Q (o :: os) E acc := dG rd l hrd hst k
theorem d_mvS (s : Nat) (k : DK P Γ pn ops id hs E0 Q os (E.app [(d,some (.same s []))] [(d,0)]) (⟨[],[([(d,some (.same s []))],[(d,0)])]⟩ :: acc)) (hs' : hs.contains s = true := by rfl) (sd : (Nat.blt d Γ.N && s != d) = true := by rfl) (hg : gd = none := by rfl) :
  DK P Γ pn ops id hs E0 Q (⟨some d,.move (.tmp s),ty,ps,af,gd⟩ :: os) E acc :=
 dGS [] [([(d,some (.same s []))],[(d,0)])] trivial (fun E' _ hh => by
  obtain ⟨k,xs,he⟩ := hh s hs'
  simp only [Bool.and_eq_true] at sd
  have h1 := x_mv (P := P) (Γ := Γ) (d := d) (ty := ty) (ps := ps) (af := af) (gd := gd) (x := .tmp s) (t := .sl k xs) (E := E') he (by
   simp only [mvB,sd.1,T.okTup,neD,opCp,cpT,T.okB,Bool.true_and,Bool.and_true]
   have : s ≠ d := by simpa using sd.2
   simp [this,Ne.symm this,refOk])
  exact IxOk.op h1 hg) k
theorem y_ixG {t e : TypeId} {ti : TypeInfo} {r k : Nat} {q : List Nat} {ys : List T} {i : Int} [ht : RowT P t e ti k] (hx : locT E x = some (r,q,.sl k ys)) (hy : opT E y = some (I i)) (h : 0 ≤ i ∧ i.toNat < ys.length) (sd : Nat.blt d Γ.N = true) :
  Ok P Γ ⟨some d,.indexAddr t x y,ty,ps,af,gd⟩ E (E.app [(d,some (.addr r (i.toNat :: q)))] [(d,0)]) :=
 fun _ => ok_ix x y t e ti r q k ys .i64 i rfl rfl (blt_lt sd) ht.un ht.info ht.size hx hy h.1 h.2
theorem Ghost.red (d1 d2 r : Nat) (q q' : List Nat) (h1 : E d1 = some (.same r q)) (h2 : E d2 = some (.same r q')) (hq : q = q') : Ghost Γ E (E.app [(d2,some (.same d1 []))] []) := by
 subst hq
 rintro a w ⟨S,hS,hdf,G,hrep⟩
 refine ⟨S,hS,hdf,G,?_⟩
 have hk : Keep [] G w G w := ⟨fun _ _ _ => rfl,fun _ _ _ => rfl,fun _ _ _ _ _ _ h _ => ⟨h,rfl⟩,fun _ _ _ h _ => h,fun b cs e h => ⟨cs,h,rfl⟩⟩
 refine rep_step hrep rfl hk hrep.mem (fun s _ => ⟨fun n hn => by simp at hn,rfl⟩) fun s t hs => ?_
 simp only [Wr.find] at hs
 split at hs
 ·rename_i e;subst e
  simp at hs;subst hs
  obtain ⟨g1,g2,_⟩ := hrep.ent d2 _ h2
  obtain ⟨_,g4,_⟩ := hrep.ent d1 _ h1
  simp only [R] at g2 g4
  exact ⟨by rw [g1];rfl,by simp only [R];rw [g2,g4],by simp [Top]⟩
 ·cases hs
theorem Ghost.red2 (d1 d2 r : Nat) (q : List Nat) (h1 : E d1 = some (.same r q)) (h2 : E d2 = some (.same d1 [])) : Ghost Γ E (E.app [(d2,some (.same r q))] []) := by
 rintro a w ⟨S,hS,hdf,G,hrep⟩
 refine ⟨S,hS,hdf,G,?_⟩
 have hk : Keep [] G w G w := ⟨fun _ _ _ => rfl,fun _ _ _ => rfl,fun _ _ _ _ _ _ h _ => ⟨h,rfl⟩,fun _ _ _ h _ => h,fun b cs e h => ⟨cs,h,rfl⟩⟩
 refine rep_step hrep rfl hk hrep.mem (fun s _ => ⟨fun n hn => by simp at hn,rfl⟩) fun s t hs => ?_
 simp only [Wr.find] at hs
 split at hs
 ·rename_i e;subst e
  simp at hs;subst hs
  obtain ⟨g1,g2,_⟩ := hrep.ent d2 _ h2
  obtain ⟨_,g4,_⟩ := hrep.ent d1 _ h1
  simp only [R] at g2 g4
  exact ⟨by rw [g1];rfl,by simp only [R];rw [g2,g4],by simp [Top]⟩
 ·cases hs
theorem slG {k n : Nat} {ys : List T} {u : T} (h : ys[n]? = some u) : (T.sl k ys).get [n] = some u := by simp [T.get,h]
theorem slS {k n : Nat} {ys : List T} {u v : T} (h : ys[n]? = some u) : (T.sl k ys).set [n] v = .sl k (ys.set n v) := by simp [T.set,h]
theorem mpG {α : Type} {f : α → T} {xs : List α} {i : Int} {a : α} (h : ixO xs i = some a) : (xs.map f)[i.toNat]? = some (f a) := by simp [(ixO_some h).2]
theorem stE {ys : List T} {n : Nat} {u v : T} (h : ys[n]? = some u) : (ys.set n v)[n]? = some v := by
 have := (List.getElem?_eq_some_iff.1 h).1
 simp [this]
theorem stN {ys : List T} {n m : Nat} {u v : T} (h : ys[m]? = some u) (hne : n ≠ m) : (ys.set n v)[m]? = some u := by
 rw [List.getElem?_set_ne hne];exact h
theorem toNat_ne {α : Type} {xs : List α} {i j : Int} {a b : α} (ha : ixO xs i = some a) (hb : ixO xs j = some b) (h : (i == j) = false) : i.toNat ≠ j.toNat := by
 have h1 := (ixO_some ha).1
 have h2 := (ixO_some hb).1
 have : i ≠ j := by simpa using h
 omega
theorem ixLen {α : Type} {xs : List α} {i : Int} {a : α} (h : ixO xs i = some a) {ys : List T} (hl : ys.length = xs.length) : 0 ≤ i ∧ i.toNat < ys.length := by
 obtain ⟨h1,h2⟩ := ixO_some h
 exact ⟨h1,by rw [hl];exact (List.getElem?_eq_some_iff.1 h2).1⟩
def swapL {α : Type} (xs : List α) (j i : Int) (a b : α) : List α := (xs.set j.toNat a).set i.toNat b
theorem sw_ne {α : Type} {f : α → T} {xs : List α} {i j : Int} {a b : α} (hne : i.toNat ≠ j.toNat) :
  ((((xs.map f).set i.toNat .any).set j.toNat .any).set j.toNat (f a)).set i.toNat (f b) = (swapL xs j i a b).map f := by
 rw [List.set_set,List.set_comm _ _ hne,List.set_set]
 simp [swapL,List.map_set]
theorem sw_eq {α : Type} {f : α → T} {xs : List α} {i j : Int} {a b : α} (ha : ixO xs i = some a) (hb : ixO xs j = some b) (h : i = j) :
  ((((xs.map f).set i.toNat .any).set j.toNat (f a)).set j.toNat .any).set i.toNat (f a) = (swapL xs j i a b).map f := by
 subst h
 have : a = b := by rw [ha] at hb;exact Option.some.inj hb
 subst this
 simp [swapL,List.map_set]
theorem CW.mid {c1 c2 : Code} (l : List (Nat × T)) (h1 : CW P Γ pn c1 E fun e E' => e = .normal ∧ Ghost Γ E' (envL l)) (h2 : CW P Γ pn c2 (envL l) Q) : CW P Γ pn (.seq c1 c2) E Q :=
 CW.seq (CW.mono h1 fun e E' h => by
  obtain ⟨rfl,hg⟩ := h
  exact CW.ghost hg h2)
theorem CW.midA {c1 c2 : Code} (l : List (Nat × T)) (h1 : CW P Γ pn c1 E fun e E' => e = .normal ∧ Ghost Γ E' (envL l)) (h2 : CW P Γ pn c2 (envL l) Q) : CW P Γ pn c1 E (Andthen P Γ pn c2 Q) :=
 CW.mono h1 fun e E' h => by
  obtain ⟨rfl,hg⟩ := h
  exact CW.ghost hg h2
section
variable {β : Type} {g : β → T} {k2 k : Nat} {xs : List (List β)} {i j : Int} {a b : List β} {t : TypeId} {ti : TypeInfo} {A U V r : Nat}
abbrev neB (A U V r : Nat) : Bool := U != r && V != r && U != V && A != r && A != U && A != V
theorem neB_spec (h : neB A U V r = true) : U ≠ r ∧ V ≠ r ∧ U ≠ V ∧ A ≠ r ∧ A ≠ U ∧ A ≠ V := by
 simp only [neB,Bool.and_eq_true,bne_iff_ne] at h
 exact ⟨h.1.1.1.1.1,h.1.1.1.1.2,h.1.1.1.2,h.1.1.2,h.1.2,h.2⟩
theorem sw1n [he : Enc g] (hi : P.info? t = some ti) (hsz : (ti.size == 1 && Nat.blt 0 ti.size) = true) (ha : ixO xs i = some a) (hb : ixO xs j = some b) (hn : i.toNat ≠ j.toNat)
  (kk : DK P Γ pn ops id hs E0 Q os (E.apps [([(U,some (L k2 g a)),(r,some (.sl k ((xs.map (L k2 g)).set i.toNat .any)))],[(U,1),(r,2)]),([(V,some (L k2 g b)),(r,some (.sl k (((xs.map (L k2 g)).set i.toNat .any).set j.toNat .any)))],[(V,1),(r,2)]),([(r,some (.sl k ((((xs.map (L k2 g)).set i.toNat .any).set j.toNat .any).set j.toNat (L k2 g a)))),(U,some (.same r [j.toNat]))],[(r,1),(U,1)])])
   (⟨[(A,.addr r [j.toNat]),(U,.same r [i.toNat]),(V,.same r [j.toNat]),(r,L k (L k2 g) xs)],[([(U,some (L k2 g a)),(r,some (.sl k ((xs.map (L k2 g)).set i.toNat .any)))],[(U,1),(r,2)]),([(V,some (L k2 g b)),(r,some (.sl k (((xs.map (L k2 g)).set i.toNat .any).set j.toNat .any)))],[(V,1),(r,2)]),([(r,some (.sl k ((((xs.map (L k2 g)).set i.toNat .any).set j.toNat .any).set j.toNat (L k2 g a)))),(U,some (.same r [j.toNat]))],[(r,1),(U,1)])]⟩ :: acc))
  (hA : E A = some (.addr r [j.toNat]) := by rfl) (hU : E U = some (.same r [i.toNat]) := by rfl) (hV : E V = some (.same r [j.toNat]) := by rfl) (hr : E r = some (L k (L k2 g) xs) := by rfl) (hne : neB A U V r = true := by rfl) (hg : gd = none := by rfl) :
  DK P Γ pn ops id hs E0 Q (⟨none,.store t (.tmp A) (.tmp U),ty,ps,af,gd⟩ :: os) E acc := by
 obtain ⟨n1,n2,n3,n4,n5,n6⟩ := neB_spec hne
 refine dGk kk ⟨hA,hU,hV,hr,trivial⟩ (fun E' h => ?_)
 obtain ⟨h1,h2,h3,h4,_⟩ := h
 refine IxOk.gh (Ghost.trq (u := L k2 g a) U r [i.toNat] h2 h4 (slG (mpG ha)) (cleanL he.clean) (by simp [T.single,okTups1,T.okB,n1]) (slS (mpG ha))) ?_
 refine IxOk.gh (Ghost.trq (u := L k2 g b) V r [j.toNat] (tr := .sl k ((xs.map (L k2 g)).set i.toNat .any)) (by simp [Env.app,Wr.find,n1,n2,n3,h3,T.okB,refOk,Ne.symm n2]) (by simp [Env.app,Wr.find,n1]) (slG (stN (mpG hb) hn)) (cleanL he.clean) (by simp [T.single,okTups1,T.okB,n2]) (slS (stN (mpG hb) hn))) ?_
 refine IxOk.opE (E1 := _) (x_st (tr := .sl k (((xs.map (L k2 g)).set i.toNat .any).set j.toNat .any)) (u := L k2 g a) (u0 := .any) (r := r) (q := [j.toNat]) hi (by simpa [T.size] using hsz) ?_ ?_ (slG (stE (stN (mpG hb) hn))) (slS (stE (stN (mpG hb) hn))) ?_ (cleanL he.clean) ?_) rfl hg
 ·simp [opT,Env.app,Wr.find,h1,n1,n2,n3,n4,n5,n6,Ne.symm n4,Ne.symm n5,Ne.symm n6,T.okB,refOk]
 ·simp [Env.app,Wr.find,n2]
 ·simp [Env.app,Wr.find,n1,Ne.symm n1,Ne.symm n3,T.okB]
 ·simp [T.single,T.locd,sameFl,T.okTup,Ne.symm n1]
theorem sw2n [he : Enc g] (hi : P.info? t = some ti) (hsz : (ti.size == 1 && Nat.blt 0 ti.size) = true) (ha : ixO xs i = some a) (hb : ixO xs j = some b) (hn : i.toNat ≠ j.toNat)
  (kk : DK P Γ pn ops id hs E0 Q os (E.apps [([(r,some (L k (L k2 g) (swapL xs j i a b))),(V,some (.same r [i.toNat]))],[(r,1),(V,1)])]) (⟨[(A,.addr r [i.toNat]),(V,L k2 g b),(r,.sl k ((((xs.map (L k2 g)).set i.toNat .any).set j.toNat .any).set j.toNat (L k2 g a)))],[([(r,some (L k (L k2 g) (swapL xs j i a b))),(V,some (.same r [i.toNat]))],[(r,1),(V,1)])]⟩ :: acc))
  (hA : E A = some (.addr r [i.toNat]) := by rfl) (hV : E V = some (L k2 g b) := by rfl) (hr : E r = some (.sl k ((((xs.map (L k2 g)).set i.toNat .any).set j.toNat .any).set j.toNat (L k2 g a))) := by rfl) (hne : (r != V) = true := by rfl) (hg : gd = none := by rfl) :
  DK P Γ pn ops id hs E0 Q (⟨none,.store t (.tmp A) (.tmp V),ty,ps,af,gd⟩ :: os) E acc := by
 refine dGk kk ⟨hA,hV,hr,trivial⟩ (fun E' h => ?_)
 obtain ⟨h1,h3,h4,_⟩ := h
 have hh : ((((xs.map (L k2 g)).set i.toNat .any).set j.toNat .any).set j.toNat (L k2 g a))[i.toNat]? = some .any := stN (stN (stE (mpG ha)) (Ne.symm hn)) (Ne.symm hn)
 refine IxOk.opE (x_st (u := L k2 g b) (q := [i.toNat]) (E := E') hi (by simpa [T.size] using hsz) h1 h4 (slG hh) ((slS hh).trans (congrArg (T.sl k) (sw_ne hn))) h3 (cleanL he.clean) ?_) rfl hg
 simp only [T.single,T.locd,sameFl,T.okTup,hne,List.reverse_cons,List.reverse_nil,List.nil_append,Bool.and_self]
theorem sw1e [he : Enc g] (hi : P.info? t = some ti) (hsz : (ti.size == 1 && Nat.blt 0 ti.size) = true) (ha : ixO xs i = some a) (hij : i = j)
  (kk : DK P Γ pn ops id hs E0 Q os (E.apps [([(V,some (.same U []))],[]),([(U,some (L k2 g a)),(r,some (.sl k ((xs.map (L k2 g)).set i.toNat .any)))],[(U,1),(r,2)]),([(r,some (.sl k (((xs.map (L k2 g)).set i.toNat .any).set j.toNat (L k2 g a)))),(U,some (.same r [j.toNat]))],[(r,1),(U,1)])])
   (⟨[(A,.addr r [j.toNat]),(U,.same r [i.toNat]),(V,.same r [j.toNat]),(r,L k (L k2 g) xs)],[([(V,some (.same U []))],[]),([(U,some (L k2 g a)),(r,some (.sl k ((xs.map (L k2 g)).set i.toNat .any)))],[(U,1),(r,2)]),([(r,some (.sl k (((xs.map (L k2 g)).set i.toNat .any).set j.toNat (L k2 g a)))),(U,some (.same r [j.toNat]))],[(r,1),(U,1)])]⟩ :: acc))
  (hA : E A = some (.addr r [j.toNat]) := by rfl) (hU : E U = some (.same r [i.toNat]) := by rfl) (hV : E V = some (.same r [j.toNat]) := by rfl) (hr : E r = some (L k (L k2 g) xs) := by rfl) (hne : neB A U V r = true := by rfl) (hg : gd = none := by rfl) :
  DK P Γ pn ops id hs E0 Q (⟨none,.store t (.tmp A) (.tmp U),ty,ps,af,gd⟩ :: os) E acc := by
 obtain ⟨n1,n2,n3,n4,n5,n6⟩ := neB_spec hne
 refine dGk kk ⟨hA,hU,hV,hr,trivial⟩ (fun E' h => ?_)
 subst hij
 obtain ⟨h1,h2,h3,h4,_⟩ := h
 refine IxOk.gh (Ghost.red U V r _ _ h2 h3 rfl) ?_
 refine IxOk.gh (Ghost.trq (u := L k2 g a) U r [i.toNat] (tr := L k (L k2 g) xs) (by simp [Env.app,Wr.find,Ne.symm n3,h2,T.okB,refOk]) (by simp [Env.app,Wr.find,n2,h4,T.okB]) (slG (mpG ha)) (cleanL he.clean) (by simp [T.single,okTups1,T.okB,n1]) (slS (mpG ha))) ?_
 refine IxOk.opE (x_st (tr := .sl k ((xs.map (L k2 g)).set i.toNat .any)) (u := L k2 g a) (u0 := .any) (r := r) (q := [i.toNat]) hi (by simpa [T.size] using hsz) ?_ ?_ (slG (stE (mpG ha))) (slS (stE (mpG ha))) ?_ (cleanL he.clean) ?_) rfl hg
 ·simp [opT,Env.app,Wr.find,h1,n1,Ne.symm n4,Ne.symm n5,Ne.symm n6,T.okB,refOk]
 ·simp [Env.app,Wr.find,n1]
 ·simp [Env.app,Wr.find]
 ·simp [T.single,T.locd,sameFl,T.okTup,Ne.symm n1]
theorem sw2e [he : Enc g] (hi : P.info? t = some ti) (hsz : (ti.size == 1 && Nat.blt 0 ti.size) = true) (ha : ixO xs i = some a) (hb : ixO xs j = some b) (hij : i = j)
  (kk : DK P Γ pn ops id hs E0 Q os (E.apps [([(V,some (.same r [j.toNat]))],[]),([(V,some (L k2 g a)),(r,some (.sl k ((((xs.map (L k2 g)).set i.toNat .any).set j.toNat (L k2 g a)).set j.toNat .any)))],[(V,1),(r,2)]),([(r,some (L k (L k2 g) (swapL xs j i a b))),(V,some (.same r [i.toNat]))],[(r,1),(V,1)])])
   (⟨[(A,.addr r [i.toNat]),(V,.same U []),(U,.same r [j.toNat]),(r,.sl k (((xs.map (L k2 g)).set i.toNat .any).set j.toNat (L k2 g a)))],[([(V,some (.same r [j.toNat]))],[]),([(V,some (L k2 g a)),(r,some (.sl k ((((xs.map (L k2 g)).set i.toNat .any).set j.toNat (L k2 g a)).set j.toNat .any)))],[(V,1),(r,2)]),([(r,some (L k (L k2 g) (swapL xs j i a b))),(V,some (.same r [i.toNat]))],[(r,1),(V,1)])]⟩ :: acc))
  (hA : E A = some (.addr r [i.toNat]) := by rfl) (hV : E V = some (.same U []) := by rfl) (hU : E U = some (.same r [j.toNat]) := by rfl) (hr : E r = some (.sl k (((xs.map (L k2 g)).set i.toNat .any).set j.toNat (L k2 g a))) := by rfl) (hne : neB A U V r = true := by rfl) (hg : gd = none := by rfl) :
  DK P Γ pn ops id hs E0 Q (⟨none,.store t (.tmp A) (.tmp V),ty,ps,af,gd⟩ :: os) E acc := by
 obtain ⟨n1,n2,n3,n4,n5,n6⟩ := neB_spec hne
 refine dGk kk ⟨hA,hV,hU,hr,trivial⟩ (fun E' h => ?_)
 obtain ⟨h1,h3,h2,h4,_⟩ := h
 have hsw := sw_eq (f := L k2 g) ha hb hij
 subst hij
 have g1 : (((xs.map (L k2 g)).set i.toNat .any).set i.toNat (L k2 g a))[i.toNat]? = some (L k2 g a) := stE (stE (mpG ha))
 refine IxOk.gh (Ghost.red2 U V r _ h2 h3) ?_
 refine IxOk.gh (Ghost.trq (u := L k2 g a) V r [i.toNat] (tr := .sl k (((xs.map (L k2 g)).set i.toNat .any).set i.toNat (L k2 g a))) (by simp [Env.app,Wr.find]) (by simp [Env.app,Wr.find,n2,h4,T.okB]) (slG g1) (cleanL he.clean) (by simp [T.single,okTups1,T.okB,n2]) (slS g1)) ?_
 refine IxOk.opE (x_st (tr := .sl k ((((xs.map (L k2 g)).set i.toNat .any).set i.toNat (L k2 g a)).set i.toNat .any)) (u := L k2 g a) (u0 := .any) (r := r) (q := [i.toNat]) hi (by simpa [T.size] using hsz) ?_ ?_ (slG (stE g1)) ((slS (stE g1)).trans (congrArg (T.sl k) hsw)) ?_ (cleanL he.clean) ?_) rfl hg
 ·simp [opT,Env.app,Wr.find,h1,n2,Ne.symm n4,Ne.symm n6,T.okB,refOk]
 ·simp [Env.app,Wr.find,n2]
 ·simp [Env.app,Wr.find]
 ·simp [T.single,T.locd,sameFl,T.okTup,Ne.symm n2]
end
end
theorem keepLE {E : Env} {ds r s : Nat} {q : List Nat} {tr u t : T} (h : E s = some t) (hne : (Nat.beq ds s || Nat.beq r s) = false := by rfl) (hb : t.okB [(ds,1),(r,q.length + 1)] = true := by rfl) : lendE E ds r q tr u s = some t := keepL h hne hb
end Go.Ab

namespace Go.Ab
open Go Go.ChangeShapes
section
variable {P : Program}
theorem ra_L {α : Type} {f : α → T} {V : α → Prop} {t e : TypeId} {k : Nat} (hu : P.underlying t = some (.slice e)) (hk : P.cellsOf e = k) (hk0 : 0 < k) (h : RdT P e k f V) : RdA P t (fun xs => T.ro (L k f xs)) (fun xs => xs.length ≤ maxLen ∧ ∀ x ∈ xs,V x) :=
 ra_cell (fun _ => ⟨rfl,fun _ _ => rfl⟩) (rc_L hu hk hk0 h) fun {w base v} hok => by
  cases v <;> first | rfl | (simp [Value.okWide,Cell.okWide,Cell.ok,hu] at hok)
theorem ra_I {t : TypeId} {q : IntKind} (hu : P.underlying t = some (.int q)) : RdA P t (IK q) (fun n => (Lit.int q n).wf = true) :=
 ra_cell (fun _ => ⟨rfl,fun _ _ => rfl⟩) (rc_int hu) fun {w base v} hok => by
  cases v <;> first | rfl | (simp [Value.okWide,Cell.okWide,Cell.ok,hu] at hok)
end
section
variable {H : Type} {enc : TypeId × Value → H} {P : Program} {w : World} {base : Nat} {spare : Nat → Bool} {held : Bool}
theorem trodAll_four {t1 t2 t3 t4 : TypeId} {args : Array Value} {ds : List (DataW H)} {ps : List MemPlace} (h : DataW.TrodAll enc P w base spare held [t1,t2,t3,t4] args.toList ds ps) :
  ∃ v1 v2 v3 v4 d1 d2 d3 d4 p1 p2 p3 p4,args = #[v1,v2,v3,v4] ∧ ds = [d1,d2,d3,d4] ∧ ps = p1 ++ p2 ++ p3 ++ p4 ∧ DataW.Trod enc P w base spare held t1 v1 d1 p1 ∧ DataW.Trod enc P w base spare held t2 v2 d2 p2 ∧ DataW.Trod enc P w base spare held t3 v3 d3 p3 ∧ DataW.Trod enc P w base spare held t4 v4 d4 p4 := by
 obtain ⟨v,vs,d,ds',p,q,hargs,rfl,rfl,hd,hrest⟩ := trodAll_cons h
 obtain ⟨v',vs',d',ds'',p',q',rfl,rfl,rfl,hd',hrest'⟩ := trodAll_cons hrest
 obtain ⟨v'',vs'',d'',ds''',p'',q'',rfl,rfl,rfl,hd'',hrest''⟩ := trodAll_cons hrest'
 obtain ⟨v3,vs3,d3,ds3,p3,q3,rfl,rfl,rfl,hd3,hrest3⟩ := trodAll_cons hrest''
 obtain ⟨rfl,rfl,rfl⟩ := trodAll_nil hrest3
 exact ⟨v,v',v'',v3,d,d',d'',d3,p,p',p'',p3,by cases args;simp_all,rfl,by simp,hd,hd',hd'',hd3⟩
end
end Go.Ab
