/- x -/
import Derived.Test.YtbemegmelmannaaGreatDoorPlA
import Derived.Lib.IndexLaws
namespace Go.Pl
open Go Go.Ab Go.Wk Go.Pc
noncomputable def gsI:List SlibraryGroup:=f_aF.getD []
noncomputable def gsS:List Sl30Row:=f_a1.getD []
noncomputable def nms:List Bs:=gsI.map (·.name.data.toList)
theorem nms_spec:gsS.map (·.name.data.toList) = nms:=by
 have h:(gsS.map (·.name.data.toList) == nms) = true:=by decide +kernel
 simpa using h
theorem gsI_len:(gsI.length == 82) = true:=by decide +kernel
theorem gsS_len:(gsS.length == 82) = true:=by decide +kernel
theorem gsI_txt:(gsI.all fun g => decide (g.text.size ≤ 1000)) = true:=by decide +kernel
theorem nm_get {nm:Bs} {g:ByteArray}:seqB g (ba nm) = decide (g.data.toList = nm):=by
 obtain ⟨l,rfl,_⟩:=ba_ex g
 rw [seqB_ba,ba_l]
 rw [Bool.eq_iff_iff];simp
theorem named_impl (nm:Bs):∃ r,f_av (ba nm) = some r ∧ ((r.2 = 0 ∧ nm ∈ nms) ∨ (r.2 = 4 ∧ nm ∉ nms)):=by
 have hl:gsI.length = 82:=by simpa using gsI_len
 have hp:∀ v ∈ gsI,∃ r,f_a2 v = some r:=fun v hv => by
  obtain ⟨t,ht,htl⟩:=ba_ex v.text
  have h1:=of_decide_eq_true (List.all_eq_true.1 gsI_txt v hv)
  obtain ⟨b,h2,_⟩:=read_tot (t:=t) (by omega)
  unfold f_a2
  rw [ht,h2,bs]
  exact ⟨_,rfl⟩
 unfold f_av
 rw [show f_aF = some gsI from rfl,bs]
 obtain ⟨r,h1,h2⟩:=loopO_tot (body:=l1_av (ba nm) gsI) (Q:=fun r => match r with | .inl _ => nm ∉ nms | .inr x => x.2 = 0 ∧ nm ∈ nms)
  (fun i s => s = (i:Int) ∧ ∀ j (h:j < gsI.length),j < i → gsI[j].name.data.toList ≠ nm) gsI.length (fun i s hi ⟨e1,e2⟩ => by
   subst e1
   unfold l1_av
   rw [lt_t hi,cnd_t,ixO_get hi,bs,nm_get]
   by_cases c:gsI[i].name.data.toList = nm
   ·obtain ⟨q,hq⟩:=hp _ (List.getElem_mem hi)
    rw [decide_eq_true c,cnd_t,hq,bs]
    exact .inr ⟨_,rfl,rfl,List.mem_map.2 ⟨_,List.getElem_mem hi,c⟩⟩
   ·rw [decide_eq_false c,cnd_f,rng_of (by omega) (by omega),bs,cs]
    refine .inl ⟨_,rfl,rfl,fun j h hj => ?_⟩
    by_cases e:j = i
    ·subst e;exact c
    ·exact e2 j h (by omega)) (fun s ⟨e1,e2⟩ => by
   subst e1
   unfold l1_av
   rw [lt_f,cnd_f]
   refine ⟨_,rfl,fun hm => ?_⟩
   obtain ⟨g,hg,he⟩:=List.mem_map.1 hm
   obtain ⟨j,hj,rfl⟩:=List.mem_iff_getElem.1 hg
   exact e2 j hj hj he) (s:=0) ⟨rfl,fun j _ h => by omega⟩
 rw [h1,bs]
 cases r with
 | inl _ => exact ⟨_,rfl,.inr ⟨rfl,h2⟩⟩
 | inr x => exact ⟨_,rfl,.inl h2⟩
theorem named_spec (nm:Bs):∃ r,f_aw (ba nm) = some r ∧ ((r.2.2 = 0 ∧ nm ∈ nms) ∨ (r.2.2 = 4 ∧ nm ∉ nms)):=by
 have hl:gsS.length = 82:=by simpa using gsS_len
 unfold f_aw
 rw [show f_a1 = some gsS from rfl,bs]
 obtain ⟨r,h1,h2⟩:=loopO_tot (body:=l1_aw (ba nm) gsS) (Q:=fun r => match r with | .inl _ => nm ∉ nms | .inr x => x.2.2 = 0 ∧ nm ∈ nms)
  (fun i s => s.2 = (i:Int) ∧ 0 ≤ s.1 ∧ s.1 ≤ i ∧ ∀ j (h:j < gsS.length),j < i → gsS[j].name.data.toList ≠ nm) gsS.length (fun i s hi ⟨e1,e3,e4,e2⟩ => by
   obtain ⟨k,j⟩:=s
   simp only at e1 e3 e4
   subst e1
   have fin:∀ k':Int,0 ≤ k' → k' ≤ i → ((∃ s',((ixO gsS (i:Int)).bind fun v9 => cond (seqB v9.name (ba nm)) ((ixO gsS (i:Int)).bind fun v10 => some (.inr (.inr (v10.order,k',0)))) ((rng (k' + 1)).bind fun v11 => (rng ((i:Int) + 1)).bind fun v12 => some (.inl (v11,v12))):Option ((Int × Int) ⊕ (Unit ⊕ (Int × Int × Int)))) = some (.inl s') ∧ s'.2 = ((i + 1:Nat):Int) ∧ 0 ≤ s'.1 ∧ s'.1 ≤ ((i + 1:Nat):Int) ∧ ∀ j (h:j < gsS.length),j < i + 1 → gsS[j].name.data.toList ≠ nm) ∨
     ∃ r,((ixO gsS (i:Int)).bind fun v9 => cond (seqB v9.name (ba nm)) ((ixO gsS (i:Int)).bind fun v10 => some (.inr (.inr (v10.order,k',0)))) ((rng (k' + 1)).bind fun v11 => (rng ((i:Int) + 1)).bind fun v12 => some (.inl (v11,v12))):Option ((Int × Int) ⊕ (Unit ⊕ (Int × Int × Int)))) = some (.inr r) ∧ (match r with | .inl _ => nm ∉ nms | .inr x => x.2.2 = 0 ∧ nm ∈ nms)):=by
    intro k' hk1 hk2
    rw [ixO_get hi,bs,nm_get]
    by_cases c:gsS[i].name.data.toList = nm
    ·rw [decide_eq_true c,cnd_t,bs]
     refine .inr ⟨_,rfl,rfl,?_⟩
     rw [← nms_spec]
     exact List.mem_map.2 ⟨_,List.getElem_mem hi,c⟩
    ·rw [decide_eq_false c,cnd_f,rng_of (by omega) (by omega),bs,rng_of (by omega) (by omega),bs,cs]
     refine .inl ⟨_,rfl,rfl,by simp only;omega,by simp only;omega,fun j h hj => ?_⟩
     by_cases e:j = i
     ·subst e;exact c
     ·exact e2 j h (by omega)
   unfold l1_aw
   simp only
   rw [lt_t hi,cnd_t]
   by_cases c0:(i:Int) > 0
   ·rw [decide_eq_true c0,cnd_t,ixO_get hi,bs,rng_of (by omega) (by omega),bs,show (i:Int) - 1 = ((i - 1:Nat):Int) by omega,ixO_get (by omega:i - 1 < gsS.length),bs,← ixO_get hi]
    cases hc:decide (gsS[i].order > gsS[i - 1].order) with
    | true => rw [cnd_t];exact fin 0 (by omega) (by omega)
    | false => rw [cnd_f];exact fin k e3 e4
   ·rw [decide_eq_false c0,cnd_f];exact fin k e3 e4) (fun s ⟨e1,e3,e4,e2⟩ => by
   obtain ⟨k,j⟩:=s
   simp only at e1
   subst e1
   unfold l1_aw
   simp only
   rw [lt_f,cnd_f]
   refine ⟨_,rfl,fun hm => ?_⟩
   rw [← nms_spec] at hm
   obtain ⟨g,hg,he⟩:=List.mem_map.1 hm
   obtain ⟨j,hj,rfl⟩:=List.mem_iff_getElem.1 hg
   exact e2 j hj hj he) (s:=(0,0)) ⟨rfl,by simp,by simp,fun j _ h => by omega⟩
 rw [h1,bs]
 cases r with
 | inl _ => exact ⟨_,rfl,.inr ⟨rfl,h2⟩⟩
 | inr x => exact ⟨_,rfl,.inl h2⟩
theorem letter_both (s:ByteArray):f_ax s = f_aj s:=rfl
theorem mark_both (s:ByteArray):f_aI s = f_aG s:=rfl
theorem mark_tot (s:ByteArray):∃ b,f_aG s = some b:=by
 unfold f_aG
 cases seqB s (ByteArray.mk #[90]) with
 | true => exact ⟨_,rfl⟩
 | false =>
  rw [cnd_f]
  cases seqB s (ByteArray.mk #[68]) <;> exact ⟨_,rfl⟩
theorem letter_tot (s:ByteArray):∃ b,f_aj s = some b:=by
 obtain ⟨l,rfl,_⟩:=ba_ex s
 unfold f_aj
 rw [ba_size]
 by_cases c:l.length = 1
 ·obtain ⟨b,rfl⟩:=List.length_eq_one_iff.1 c
  rw [show (([b].length:Int) == 1) = true from rfl,cnd_t,show sixO (ba [b]) 0 = some ((b.toNat:Nat):Int) from sixO_get (i:=0) (by simp),bs]
  cases decide (((b.toNat:Nat):Int) ≥ 97) with
  | true => rw [cnd_t,bs];exact ⟨_,rfl⟩
  | false => exact ⟨_,rfl⟩
 ·rw [show ((l.length:Int) == 1) = false from beq_eq_false_iff_ne.2 (by omega),cnd_f];exact ⟨_,rfl⟩
theorem once {ρ:Type} {body:Unit → Option (Unit ⊕ ρ)} {r:ρ} (h:body () = some (.inr r)):loopO body () = some r:=by rw [loopO_eq,h]
theorem kinds (n:Int):((n == 0) = true ∧ (n == 1) = false ∧ (n == 2) = false ∧ (n == 3) = false ∧ (n == 4) = false ∧ (n == 5) = false) ∨
  ((n == 0) = false ∧ (n == 1) = true ∧ (n == 2) = false ∧ (n == 3) = false ∧ (n == 4) = false ∧ (n == 5) = false) ∨
  ((n == 0) = false ∧ (n == 1) = false ∧ (n == 2) = true ∧ (n == 3) = false ∧ (n == 4) = false ∧ (n == 5) = false) ∨
  ((n == 0) = false ∧ (n == 1) = false ∧ (n == 2) = false ∧ (n == 3) = true ∧ (n == 4) = false ∧ (n == 5) = false) ∨
  ((n == 0) = false ∧ (n == 1) = false ∧ (n == 2) = false ∧ (n == 3) = false ∧ (n == 4) = true ∧ (n == 5) = false) ∨
  ((n == 0) = false ∧ (n == 1) = false ∧ (n == 2) = false ∧ (n == 3) = false ∧ (n == 4) = false ∧ (n == 5) = true) ∨
  ((n == 0) = false ∧ (n == 1) = false ∧ (n == 2) = false ∧ (n == 3) = false ∧ (n == 4) = false ∧ (n == 5) = false):=by
 simp only [beq_iff_eq,beq_eq_false_iff_ne]
 omega
def kndB (n:Int) (z g l te m me:Bool):Int :=
 cond (n == 0) (cond (z && me) 0 (-1)) (cond (n == 1) (cond (g && me) 0 (-1)) (cond (n == 2) (cond (l && me) 0 (-1)) (cond (n == 3) (cond (te && me) 2 (-1)) (cond (n == 4) (cond (te && m) 1 (-1)) (cond (n == 5) (cond (te && m) 1 (-1)) (-1))))))
theorem node_both {x:SNode} (hx:x.Text.size ≤ 2000000):∃ k:Int,f_q x = some k ∧ f_D x = some k ∧ (k = -1 ∨ (k = 0 ∧ (x.Kind = 0 ∨ x.Kind = 1 ∨ x.Kind = 2)) ∨ (k = 1 ∧ (x.Kind = 4 ∨ x.Kind = 5)) ∨ (k = 2 ∧ x.Kind = 3)):=by
 obtain ⟨t,ht,htl⟩:=ba_ex x.Text
 obtain ⟨r,h1,h2⟩:=named_impl t
 obtain ⟨r',h3,h4⟩:=named_spec t
 rw [← ht] at h1 h3
 obtain ⟨g,h5,h6⟩:∃ g,f_aV x.Text = some g ∧ f_aW x.Text = some g:=by
  rw [ht]
  have e:=(groupText_impl (t:=t) (by omega)).eq (groupText_spec (by omega))
  rcases groupText_impl (t:=t) (by omega) with ⟨k,_⟩ | ⟨k,_⟩ <;> exact ⟨_,k,by rw [← e];exact k⟩
 obtain ⟨l,h7⟩:=letter_tot x.Text
 obtain ⟨m,h8⟩:=mark_tot x.Mark
 have hr:(r.2 == 0) = (r'.2.2 == 0):=by
  rcases h2 with ⟨a,b⟩ | ⟨a,b⟩ <;> rcases h4 with ⟨c,d⟩ | ⟨c,d⟩
  ·rw [a,c]
  ·exact absurd b d
  ·exact absurd d b
  ·rw [a,c]
 have b1:=h1
 generalize hz:(r.2 == 0) = z at hr
 generalize hme:seqB x.Mark (ByteArray.mk #[]) = me
 generalize hte:seqB x.Text (ByteArray.mk #[]) = te
 generalize hn:x.Kind = n
 have hI:f_q x = some (kndB n z g l te m me):=by
  have e1:l1_q x r () = some (.inr ((n == 0) && z && me)):=by
   unfold l1_q
   rw [hn,hz,hme]
   cases (n == 0) <;> cases z <;> rfl
  have e2:l2_q x () = some (.inr ((n == 1) && g && me)):=by
   unfold l2_q
   rw [hn,h5,hme]
   cases (n == 1) <;> cases g <;> rfl
  have e3:l3_q x () = some (.inr ((n == 2) && l && me)):=by
   unfold l3_q
   rw [hn,h7,hme]
   cases (n == 2) <;> cases l <;> rfl
  have e4:l4_q x () = some (.inr ((n == 3) && te && me)):=by
   unfold l4_q
   rw [hn,hte,hme]
   cases (n == 3) <;> cases te <;> rfl
  unfold f_q kndB
  rw [h1,bs,once e1,bs,once e2,once e3,once e4,hte,h8,hn]
  rcases kinds n with ⟨k0,k1,k2,k3,k4,k5⟩ | ⟨k0,k1,k2,k3,k4,k5⟩ | ⟨k0,k1,k2,k3,k4,k5⟩ | ⟨k0,k1,k2,k3,k4,k5⟩ | ⟨k0,k1,k2,k3,k4,k5⟩ | ⟨k0,k1,k2,k3,k4,k5⟩ | ⟨k0,k1,k2,k3,k4,k5⟩ <;>
   rw [k0,k1,k2,k3,k4,k5] <;> clear k0 k1 k2 k3 k4 k5 hz hme hte hn hr h1 b1 h2 h3 h4 h5 h6 h7 h8 e1 e2 e3 e4
  ·cases z <;> cases me <;> rfl
  ·cases g <;> cases me <;> rfl
  ·cases l <;> cases me <;> rfl
  ·cases te <;> cases me <;> rfl
  ·cases te <;> cases m <;> rfl
  ·cases te <;> cases m <;> rfl
  ·rfl
 have hS:f_D x = some (kndB n z g l te m me):=by
  have e1:l1_D x () = some (.inr ((n == 4) || (n == 5))):=by
   unfold l1_D
   rw [hn]
   cases (n == 4) <;> rfl
  unfold f_D kndB
  rw [once e1,mark_both,h8,letter_both,h7,h6,hme,hte,h3,hn,bs,← hr]
  rcases kinds n with ⟨k0,k1,k2,k3,k4,k5⟩ | ⟨k0,k1,k2,k3,k4,k5⟩ | ⟨k0,k1,k2,k3,k4,k5⟩ | ⟨k0,k1,k2,k3,k4,k5⟩ | ⟨k0,k1,k2,k3,k4,k5⟩ | ⟨k0,k1,k2,k3,k4,k5⟩ | ⟨k0,k1,k2,k3,k4,k5⟩ <;>
   rw [k0,k1,k2,k3,k4,k5] <;> clear k0 k1 k2 k3 k4 k5 hz hme hte hn hr h1 b1 h2 h3 h4 h5 h6 h7 h8 e1 hI
  ·cases z <;> cases me <;> rfl
  ·cases g <;> cases me <;> rfl
  ·cases l <;> cases me <;> rfl
  ·cases te <;> cases me <;> rfl
  ·cases te <;> cases m <;> rfl
  ·cases te <;> cases m <;> rfl
  ·rfl
 refine ⟨_,hI,hS,?_⟩
 unfold kndB
 rcases kinds n with ⟨k0,k1,k2,k3,k4,k5⟩ | ⟨k0,k1,k2,k3,k4,k5⟩ | ⟨k0,k1,k2,k3,k4,k5⟩ | ⟨k0,k1,k2,k3,k4,k5⟩ | ⟨k0,k1,k2,k3,k4,k5⟩ | ⟨k0,k1,k2,k3,k4,k5⟩ | ⟨k0,k1,k2,k3,k4,k5⟩ <;>
   rw [k0,k1,k2,k3,k4,k5] <;> clear hz hme hte hr h1 b1 h2 h3 h4 h5 h6 h7 h8 hI hS
 ·have e:=beq_iff_eq.1 k0
  cases z <;> cases me <;> simp [e]
 ·have e:=beq_iff_eq.1 k1
  cases g <;> cases me <;> simp [e]
 ·have e:=beq_iff_eq.1 k2
  cases l <;> cases me <;> simp [e]
 ·have e:=beq_iff_eq.1 k3
  cases te <;> cases me <;> simp [e]
 ·have e:=beq_iff_eq.1 k4
  cases te <;> cases m <;> simp [e]
 ·have e:=beq_iff_eq.1 k5
  cases te <;> cases m <;> simp [e]
 ·simp
end Go.Pl

namespace Go.Pl
open Go Go.Ab Go.Wk Go.Pc
abbrev VN (x:SNode):Prop:=VI x.Kind ∧ x.Text.size ≤ maxLen ∧ x.Mark.size ≤ maxLen
abbrev cN (x:SNode):Nat:=x.Text.size + x.Mark.size
abbrev cNs (x:List SNode):Nat:=x.length + sm cN x
abbrev SNs (x:List SNode):Prop:=cNs x ≤ 1048576
theorem szNode {x:SNode} {b:Int} (h:VN x) (b0:0 ≤ b) (b1:b ≤ 1048576):f_a3 x b = some (szR (cN x) b):=by
 obtain ⟨_,h1,h2⟩:=h
 have h3:maxLen ≤ 9223372036854775807:=by decide
 have h4:cN x = x.Text.size + x.Mark.size:=rfl
 unfold f_a3 szR
 rw [rng_of (by omega) (by omega),bs]
 by_cases c:b - (x.Text.size:Int) < 0
 ·rw [decide_eq_true c,cnd_t,if_neg (by omega)]
 ·rw [decide_eq_false c,cnd_f,rng_of (by omega) (by omega),bs]
  by_cases c2:b - (x.Text.size:Int) - (x.Mark.size:Int) < 0
  ·rw [decide_eq_true c2,cnd_t,if_neg (by omega)]
  ·rw [decide_eq_false c2,cnd_f,if_pos (by omega)]
   congr 1;omega
theorem szNodeS {x:List SNode} {b:Int} (h:VL VN x) (b0:0 ≤ b) (b1:b ≤ 1048576):f_aH x b = some (szR (cNs x) b) :=
 sz_fn (c:=cN) rfl (fun _ => rfl) (Nat.le_trans h.1 (by decide)) b0 b1 fun y hy _ h1 h2 => szNode (h.2 y hy) h1 h2
theorem SNs.len {x:List SNode} (h:SNs x):x.length ≤ 1048576:=by unfold SNs cNs at h;omega
theorem SNs.mem {x:List SNode} (h:SNs x) {y:SNode} (hy:y ∈ x):y.Text.size ≤ 2000000:=by
 have:=sm_mem cN hy
 have h4:cN y = y.Text.size + y.Mark.size:=rfl
 unfold SNs cNs at h
 omega
theorem toNodeS {x:List SNode} (h:SNs x):f_x x = some x:=by
 unfold f_x
 rw [lenOk_nat (Nat.le_trans h.len (by decide)),bs,to_loop (body:=l1_x x) (f:=f_a4) (fun _ => rfl) (Nat.le_trans h.len (by decide)) (fun _ _ => rfl),bs]
theorem seqB_self (s:ByteArray):seqB s s = true:=by
 obtain ⟨l,rfl,_⟩:=ba_ex s
 rw [seqB_ba];simp
theorem eqNode_self (x:SNode):f_a5 x x = some true:=by
 unfold f_a5
 rw [show (x.Kind != x.Kind) = false by simp,cnd_f,seqB_self,seqB_self];rfl
theorem eqNodeS_self {x:List SNode} (h:x.length ≤ 68719476736):f_A x x = some true:=by
 unfold f_A
 rw [show ((x.length:Int) != (x.length:Int)) = false by simp,cnd_f]
 have:=loopO_seq (body:=l1_A x x) (r:=.inl ()) (fun i => (i:Int)) x.length (fun i hi => by
  unfold l1_A
  rw [lt_t hi,cnd_t,ixO_get hi,bs,bs,eqNode_self,bs]
  rw [show (!true) = false from rfl,cnd_f,rng_of (by omega) (by omega),bs,cs]) (by
  unfold l1_A
  rw [lt_f,cnd_f])
 rw [show ((0:Int)) = ((0:Nat):Int) from rfl,this];rfl
noncomputable def op (x:SNode):Int:=(f_q x).getD (-1)
theorem op_ok {x:SNode} (hx:x.Text.size ≤ 2000000):f_q x = some (op x) ∧ f_D x = some (op x) ∧ (op x = -1 ∨ op x = 0 ∨ op x = 1 ∨ op x = 2):=by
 obtain ⟨k,h1,h2,h3⟩:=node_both hx
 have:op x = k:=by unfold op;rw [h1];rfl
 rw [this];exact ⟨h1,h2,by omega⟩
theorem op_kind {x:SNode} (hx:x.Text.size ≤ 2000000):op x = -1 ∨ (op x = 0 ∧ (x.Kind = 0 ∨ x.Kind = 1 ∨ x.Kind = 2)) ∨ (op x = 1 ∧ (x.Kind = 4 ∨ x.Kind = 5)) ∨ (op x = 2 ∧ x.Kind = 3):=by
 obtain ⟨k,h1,h2,h3⟩:=node_both hx
 have:op x = k:=by unfold op;rw [h1];rfl
 rw [this];exact h3
noncomputable def need:Int → List SNode → Option Int
 | o,[] => some o
 | o,x :: xs => if op x < 0 ∨ o = 0 then none else need (o - 1 + op x) xs
noncomputable def isx (x:List SNode):Bool:=decide (x.length ≤ 30 ∧ need 1 x = some 0)
theorem isx_loop {x:List SNode} {body:Int × Int → Option ((Int × Int) ⊕ (Int ⊕ Bool))} (hx:SNs x) (hl:x.length ≤ 30)
  (hb:∀ (i:Nat) (o:Int) (h:i < x.length),0 ≤ o → o ≤ 1 + i → body (o,(i:Int)) = some (if op x[i] < 0 ∨ o = 0 then .inr (.inr false) else .inl (o - 1 + op x[i],((i + 1:Nat):Int))))
  (he:∀ o:Int,body (o,(x.length:Int)) = some (.inr (.inl o))):∃ r,loopO body (1,0) = some r ∧ (match r with | .inl o => need 1 x = some o | .inr b => b = false ∧ need 1 x = none) :=
 loopO_tot (body:=body) (Q:=fun r => match r with | .inl o => need 1 x = some o | .inr b => b = false ∧ need 1 x = none)
  (fun i s => s.2 = (i:Int) ∧ 0 ≤ s.1 ∧ s.1 ≤ 1 + i ∧ need 1 x = need s.1 (x.drop i)) x.length (fun i s hi ⟨e1,e2,e3,e4⟩ => by
   obtain ⟨o,j⟩:=s
   simp only at e1 e2 e3 e4
   subst e1
   rw [hb i o hi e2 e3]
   rw [List.drop_eq_getElem_cons hi,need] at e4
   have:=(op_ok (hx.mem (List.getElem_mem hi))).2.2
   by_cases c:op x[i] < 0 ∨ o = 0
   ·rw [if_pos c] at e4 ⊢
    exact .inr ⟨_,rfl,rfl,e4⟩
   ·rw [if_neg c] at e4 ⊢
    exact .inl ⟨_,rfl,rfl,by simp only;omega,by simp only;omega,e4⟩) (fun s ⟨e1,e2,e3,e4⟩ => by
   obtain ⟨o,j⟩:=s
   simp only at e1 e4
   subst e1
   rw [List.drop_length,need] at e4
   exact ⟨_,he o,e4⟩) (s:=(1,0)) ⟨rfl,by simp,by simp,by simp⟩
theorem isx_fin {x:List SNode} (hl:x.length ≤ 30) {r:Int ⊕ Bool}:(match r with | .inl o => need 1 x = some o | .inr b => b = false ∧ need 1 x = none) → (match r with | .inl r6 => some (r6 == 0) | .inr r6 => some r6:Option Bool) = some (isx x):=by
 intro h
 unfold isx
 cases r with
 | inl o =>
  simp only at h ⊢
  rw [h]
  congr 1
  rw [Bool.eq_iff_iff];simp [hl]
 | inr b =>
  simp only at h ⊢
  rw [h.2,h.1]
  congr 1
  rw [Bool.eq_iff_iff];simp
theorem isx_spec {x:List SNode} (hx:SNs x):f_Z x = some (isx x):=by
 unfold f_Z
 by_cases c:(x.length:Int) > 30
 ·rw [decide_eq_true c,cnd_t]
  congr 1
  unfold isx
  exact (decide_eq_false fun h => by omega).symm
 ·rw [decide_eq_false c,cnd_f]
  obtain ⟨r,h1,h2⟩:=isx_loop (body:=l1_Z x) hx (by omega) (fun i o h e1 e2 => by
   have ho:=op_ok (hx.mem (List.getElem_mem h))
   unfold l1_Z
   simp only
   rw [lt_t h,cnd_t,ixO_get h,bs,ho.2.1,bs]
   by_cases c1:op x[i] < 0
   ·rw [decide_eq_true c1,cnd_t,if_pos (.inl c1)]
   ·rw [decide_eq_false c1,cnd_f]
    by_cases c2:o = 0
    ·rw [show (o == 0) = true by simp [c2],cnd_t,if_pos (.inr c2)]
    ·rw [show (o == 0) = false by simp [c2],cnd_f,if_neg (by rintro (h | h) <;> contradiction),rng_of (by omega) (by omega),bs,rng_of (by omega) (by omega),bs,rng_of (by omega) (by omega),bs,cs]) (fun o => by
   unfold l1_Z
   simp only
   rw [lt_f,cnd_f])
  rw [h1,bs]
  exact isx_fin (by omega) h2
theorem isx_impl {x:List SNode} (hx:SNs x):f_aa x = some (isx x):=by
 unfold f_aa
 by_cases c0:(x.length:Int) < 1
 ·rw [decide_eq_true c0,cnd_t]
  congr 1
  unfold isx
  refine (decide_eq_false fun h => ?_).symm
  rw [List.length_eq_zero_iff.1 (by omega:x.length = 0)] at h
  exact absurd h.2 (by simp [need])
 rw [decide_eq_false c0,cnd_f]
 by_cases c:(x.length:Int) > 30
 ·rw [decide_eq_true c,cnd_t]
  congr 1
  unfold isx
  exact (decide_eq_false fun h => by omega).symm
 ·rw [decide_eq_false c,cnd_f]
  obtain ⟨r,h1,h2⟩:=isx_loop (body:=l1_aa x) hx (by omega) (fun i o h e1 e2 => by
   have ho:=op_ok (hx.mem (List.getElem_mem h))
   unfold l1_aa
   simp only
   rw [lt_t h,cnd_t,ixO_get h,bs,ho.1,bs]
   by_cases c2:o = 0
   ·rw [show (o == 0) = true by simp [c2],cnd_t,if_pos (.inr c2)]
   ·rw [show (o == 0) = false by simp [c2],cnd_f]
    by_cases c1:op x[i] < 0
    ·rw [decide_eq_true c1,cnd_t,if_pos (.inl c1)]
    ·rw [decide_eq_false c1,cnd_f,if_neg (by rintro (h | h) <;> contradiction),rng_of (by omega) (by omega),bs,rng_of (by omega) (by omega),bs,rng_of (by omega) (by omega),bs,cs,show o + (op x[i] - 1) = o - 1 + op x[i] by omega]) (fun o => by
   unfold l1_aa
   simp only
   rw [lt_f,cnd_f])
  rw [h1,bs]
  exact isx_fin (by omega) h2
theorem IsExpression_plain (x0:List SNode) (v0:VL VN x0):f_a6 x0 = some true:=by
 unfold f_a6
 rw [szNodeS v0 (by omega) (by omega),bs]
 rcases sz_case (c:=cNs x0) (b:=1048576) (by omega) (by omega) with h | ⟨h,_,_,h3⟩
 ·rw [h,cnd_t]
 ·have hs:SNs x0:=h3
  rw [h,cnd_f,toNodeS hs,bs,isx_spec hs,bs,bs]
  unfold f_bd
  rw [isx_impl hs,bs,bs,show (isx x0 != isx x0) = false by simp,cnd_f,bs,eqNodeS_self (Nat.le_trans hs.len (by decide)),bs,show (!true) = false from rfl,cnd_f]
end Go.Pl

namespace Go.Pl
open Go Go.Ab Go.Wk Go.Pc
abbrev c4 (x:SNode):Nat:=x.Text.size + x.Mark.size + 4
def grp (x:SNode) (s:Bs):Bs:=cond (x.Kind == 3) (40 :: (s ++ [41])) s
theorem grp_len (x:SNode) (s:Bs):(grp x s).length ≤ s.length + 2:=by
 unfold grp;cases (x.Kind == 3) <;> simp
theorem et_step {m:Nat} {x:SNode} {t:List SNode}:fN_d (m + 1) (x :: t) =
 cond (x.Kind == 0) (
  (scatO (ba [123]) x.Text).bind fun v3 =>
  (scatO v3 (ba [125])).bind fun v4 =>
  some (v4,t)) (
  cond (x.Kind == 1) (
   (scatO (ba [91]) x.Text).bind fun v5 =>
   (scatO v5 (ba [93])).bind fun v6 =>
   some (v6,t)) (
   cond (x.Kind == 2) (
    some (x.Text,t)) (
    cond (x.Kind == 3) (
     (fN_d m t).bind fun r7 =>
     (fN_t m r7.2).bind fun r8 =>
     (scatO r7.1 (ba [43])).bind fun v9 =>
     (scatO v9 r8.1).bind fun v10 =>
     some (v10,r8.2)) (
     cond (x.Kind == 4) (
      (fN_t m t).bind fun r11 =>
      (scatO r11.1 (ba [47])).bind fun v12 =>
      (scatO v12 x.Mark).bind fun v13 =>
      some (v13,r11.2)) (
      (fN_d m t).bind fun r14 =>
      (scatO x.Mark (ba [40])).bind fun v15 =>
      (scatO v15 r14.1).bind fun v16 =>
      (scatO v16 (ba [41])).bind fun v17 =>
      some (v17,r14.2)))))):=by
 show b_d (fN_d m) (fN_t m) (x :: t) = _
 unfold b_d
 have h1:ixO (x :: t) 0 = some x:=rfl
 have h2:sliceO (x :: t) 1 (((x :: t).length:Nat):Int) = some t:=by
  unfold sliceO
  rw [if_pos (by simp;omega)]
  simp
 rw [h1,bs,h2,bs]
 rfl
theorem gt_step {m:Nat} {x:SNode} {t:List SNode} {s:Bs} {ys:List SNode} (h:fN_d m (x :: t) = some (ba s,ys)) (hs:s.length ≤ 1000000000):fN_t (m + 1) (x :: t) = some (ba (grp x s),ys):=by
 show b_t (fN_d m) (x :: t) = _
 unfold b_t
 rw [h,bs,show ixO (x :: t) 0 = some x from rfl,bs]
 unfold grp
 cases x.Kind == 3 with
 | false => rfl
 | true =>
  rw [cnd_t,cnd_t,show ByteArray.mk #[40] = ba [40] from rfl,show ByteArray.mk #[41] = ba [41] from rfl,scatO_ba (by simp;omega),bs,scatO_ba (by simp;omega),bs]
  rfl
theorem drop_at {X t:List SNode} {x:SNode} {i:Nat} (h:X.drop i = x :: t):∃ hi:i < X.length,X[i] = x ∧ X.drop (i + 1) = t:=by
 have hi:i < X.length:=by
  rcases Nat.lt_or_ge i X.length with c | c
  ·exact c
  ·rw [List.drop_eq_nil_of_le c] at h;cases h
 rw [List.drop_eq_getElem_cons hi] at h
 injection h with h1 h2
 exact ⟨hi,h1,h2⟩
theorem print_both:∀ (n:Nat) (xs:List SNode) (o:Int),xs.length ≤ n → (∀ x ∈ xs,x.Text.size ≤ 2000000) → sm c4 xs ≤ 100000000 → 0 ≤ o → need (o + 1) xs = some 0 →
  ∃ (s:Bs) (k:Nat),1 ≤ k ∧ k ≤ xs.length ∧ need o (xs.drop k) = some 0 ∧ s.length + sm c4 (xs.drop k) ≤ sm c4 xs ∧
   (∀ m,2 * xs.length ≤ m → fN_d m xs = some (ba s,xs.drop k)) ∧
   (∀ m X (i:Nat),xs.length ≤ m → X.length ≤ 1000000 → X.drop i = xs → fN_e m X (i:Int) = some (ba s,((i + k:Nat):Int))):=by
 intro n
 induction n with
 | zero =>
  intro xs o hn _ _ h0 h
  rw [List.length_eq_zero_iff.1 (Nat.le_zero.1 hn),need] at h
  injection h with h
  omega
 | succ n ih =>
  intro xs o hn hx hc h0 h
  cases xs with
  | nil =>
   rw [need] at h
   injection h with h
   omega
  | cons x t =>
   rw [need] at h
   split at h
   ·cases h
   rename_i hcc
   have hk:=op_kind (hx x (by simp))
   have hsm:sm c4 (x :: t) = x.Text.size + x.Mark.size + 4 + sm c4 t:=rfl
   obtain ⟨tx,etx,ltx⟩:=ba_ex x.Text
   obtain ⟨mx,emx,lmx⟩:=ba_ex x.Mark
   have hxt:∀ y ∈ t,y.Text.size ≤ 2000000:=fun y hy => hx y (List.mem_cons_of_mem _ hy)
   have hnt:t.length ≤ n:=by simpa using hn
   rcases hk with hk | ⟨hk,hK⟩ | ⟨hk,hK⟩ | ⟨hk,hK⟩
   ·omega
   ·
    have h':need o t = some 0:=by rw [hk] at h;rw [show o + 1 - 1 + 0 = o by omega] at h;exact h
    have leaf:∀ s:Bs,s.length ≤ tx.length + 2 → (∀ m,fN_d (m + 1) (x :: t) = some (ba s,t)) → (∀ m X (i:Nat),X.length ≤ 1000000 → X.drop i = x :: t → fN_e (m + 1) X (i:Int) = some (ba s,((i + 1:Nat):Int))) →
      ∃ (s:Bs) (k:Nat),1 ≤ k ∧ k ≤ (x :: t).length ∧ need o ((x :: t).drop k) = some 0 ∧ s.length + sm c4 ((x :: t).drop k) ≤ sm c4 (x :: t) ∧
       (∀ m,2 * (x :: t).length ≤ m → fN_d m (x :: t) = some (ba s,(x :: t).drop k)) ∧
       (∀ m X (i:Nat),(x :: t).length ≤ m → X.length ≤ 1000000 → X.drop i = x :: t → fN_e m X (i:Int) = some (ba s,((i + k:Nat):Int))):=by
     intro s hs h1 h2
     refine ⟨s,1,by omega,by simp,h',?_,fun m hm => ?_,fun m X i hm hX hd => ?_⟩
     ·show s.length + sm c4 t ≤ _
      omega
     ·obtain ⟨m,rfl⟩:∃ m',m = m' + 1:=⟨m - 1,by simp at hm;omega⟩
      exact h1 m
     ·obtain ⟨m,rfl⟩:∃ m',m = m' + 1:=⟨m - 1,by simp at hm;omega⟩
      exact h2 m X i hX hd
    rcases hK with e | e | e
    ·refine leaf (123 :: (tx ++ [125])) (by simp) (fun m => ?_) (fun m X i hX hd => ?_)
     ·rw [et_step,e,etx,show ((0:Int) == 0) = true from rfl,cnd_t,scatO_ba (by simp;omega),bs,scatO_ba (by simp;omega),bs];rfl
     ·obtain ⟨hi,e1,e2⟩:=drop_at hd
      show b_e (fN_e m) X (i:Int) = _
      unfold b_e
      rw [ixO_get hi,bs,e1,e,etx,show ((0:Int) == 0) = true from rfl,cnd_t,show ByteArray.mk #[123] = ba [123] from rfl,scatO_ba (by simp;omega),bs,show ByteArray.mk #[125] = ba [125] from rfl,scatO_ba (by simp;omega),bs,rng_of (by omega) (by omega),bs,cs];rfl
    ·refine leaf (91 :: (tx ++ [93])) (by simp) (fun m => ?_) (fun m X i hX hd => ?_)
     ·rw [et_step,e,etx,show ((1:Int) == 0) = false from rfl,cnd_f,show ((1:Int) == 1) = true from rfl,cnd_t,scatO_ba (by simp;omega),bs,scatO_ba (by simp;omega),bs];rfl
     ·obtain ⟨hi,e1,e2⟩:=drop_at hd
      show b_e (fN_e m) X (i:Int) = _
      unfold b_e
      rw [ixO_get hi,bs,e1,e,etx,show ((1:Int) == 0) = false from rfl,cnd_f,show ((1:Int) == 1) = true from rfl,cnd_t,show ByteArray.mk #[91] = ba [91] from rfl,scatO_ba (by simp;omega),bs,show ByteArray.mk #[93] = ba [93] from rfl,scatO_ba (by simp;omega),bs,rng_of (by omega) (by omega),bs,cs];rfl
    ·refine leaf tx (by simp) (fun m => ?_) (fun m X i hX hd => ?_)
     ·rw [et_step,e,etx,show ((2:Int) == 0) = false from rfl,cnd_f,show ((2:Int) == 1) = false from rfl,cnd_f,show ((2:Int) == 2) = true from rfl,cnd_t]
     ·obtain ⟨hi,e1,e2⟩:=drop_at hd
      show b_e (fN_e m) X (i:Int) = _
      unfold b_e
      rw [ixO_get hi,bs,e1,e,etx,show ((2:Int) == 0) = false from rfl,cnd_f,show ((2:Int) == 1) = false from rfl,cnd_f,show ((2:Int) == 2) = true from rfl,cnd_t,rng_of (by omega) (by omega),bs,cs]
   ·
    have h':need (o + 1) t = some 0:=by rw [hk] at h;rw [show o + 1 - 1 + 1 = o + 1 by omega] at h;exact h
    obtain ⟨s,k,k1,k2,hne,hlen,hI,hS⟩:=ih t o hnt hxt (by omega) h0 h'
    cases t with
    | nil => simp at k2;omega
    | cons y u =>
    have key:∀ s':Bs,s'.length ≤ s.length + mx.length + 4 → (∀ m,2 * (y :: u).length ≤ m → fN_d (m + 2) (x :: y :: u) = some (ba s',(y :: u).drop k)) → (∀ m X (i:Nat),(y :: u).length ≤ m → X.length ≤ 1000000 → X.drop i = x :: y :: u → fN_e (m + 1) X (i:Int) = some (ba s',((i + 1 + k:Nat):Int))) →
      ∃ (s:Bs) (k:Nat),1 ≤ k ∧ k ≤ (x :: y :: u).length ∧ need o ((x :: y :: u).drop k) = some 0 ∧ s.length + sm c4 ((x :: y :: u).drop k) ≤ sm c4 (x :: y :: u) ∧
       (∀ m,2 * (x :: y :: u).length ≤ m → fN_d m (x :: y :: u) = some (ba s,(x :: y :: u).drop k)) ∧
       (∀ m X (i:Nat),(x :: y :: u).length ≤ m → X.length ≤ 1000000 → X.drop i = x :: y :: u → fN_e m X (i:Int) = some (ba s,((i + k:Nat):Int))):=by
     intro s' hs h1 h2
     refine ⟨s',k + 1,by omega,by simp at k2 ⊢;omega,hne,?_,fun m hm => ?_,fun m X i hm hX hd => ?_⟩
     ·show s'.length + sm c4 ((y :: u).drop k) ≤ _
      omega
     ·obtain ⟨m,rfl⟩:∃ m',m = m' + 2:=⟨m - 2,by simp at hm;omega⟩
      exact h1 m (by simp at hm ⊢;omega)
     ·obtain ⟨m,rfl⟩:∃ m',m = m' + 1:=⟨m - 1,by simp at hm;omega⟩
      rw [h2 m X i (by simp at hm ⊢;omega) hX hd]
      congr 3;omega
    rcases hK with e | e
    ·refine key (grp y s ++ (47 :: mx)) (by have:=grp_len y s;simp;omega) (fun m hm => ?_) (fun m X i hm hX hd => ?_)
     ·have hg:=grp_len y s
      rw [et_step,e,emx,show ((4:Int) == 0) = false from rfl,cnd_f,show ((4:Int) == 1) = false from rfl,cnd_f,show ((4:Int) == 2) = false from rfl,cnd_f,show ((4:Int) == 3) = false from rfl,cnd_f,show ((4:Int) == 4) = true from rfl,cnd_t,gt_step (hI m hm) (by omega),bs]
      rw [scatO_ba (by simp;omega),bs,scatO_ba (by simp;omega),bs]
      simp
     ·have hg:=grp_len y s
      obtain ⟨hi,e1,e2⟩:=drop_at hd
      obtain ⟨hi',e1',e2'⟩:=drop_at e2
      show b_e (fN_e m) X (i:Int) = _
      unfold b_e
      rw [ixO_get hi,bs,e1,e,emx,show ((4:Int) == 0) = false from rfl,cnd_f,show ((4:Int) == 1) = false from rfl,cnd_f,show ((4:Int) == 2) = false from rfl,cnd_f,show ((4:Int) == 3) = false from rfl,cnd_f,rng_of (by omega) (by omega),bs,cs,hS m X (i + 1) hm hX e2,bs,show ((4:Int) == 5) = false from rfl,cnd_f,bs,ixO_get hi',bs,e1']
      unfold grp at hg ⊢
      cases hy:y.Kind == 3 with
      | true =>
       rw [cnd_t,show ByteArray.mk #[40] = ba [40] from rfl,show ByteArray.mk #[41] = ba [41] from rfl,show ByteArray.mk #[47] = ba [47] from rfl,scatO_ba (by simp;omega),bs,scatO_ba (by simp;omega),bs,scatO_ba (by simp;omega),bs,scatO_ba (by simp;omega),bs]
       simp
      | false =>
       rw [cnd_f,show ByteArray.mk #[47] = ba [47] from rfl,scatO_ba (by simp;omega),bs,scatO_ba (by simp;omega),bs]
       simp
    ·refine key (mx ++ (40 :: (s ++ [41]))) (by simp;omega) (fun m hm => ?_) (fun m X i hm hX hd => ?_)
     ·rw [et_step,e,emx,show ((5:Int) == 0) = false from rfl,cnd_f,show ((5:Int) == 1) = false from rfl,cnd_f,show ((5:Int) == 2) = false from rfl,cnd_f,show ((5:Int) == 3) = false from rfl,cnd_f,show ((5:Int) == 4) = false from rfl,cnd_f,hI (m + 1) (by omega),bs]
      rw [scatO_ba (by simp;omega),bs,scatO_ba (by simp;omega),bs,scatO_ba (by simp;omega),bs]
      simp
     ·obtain ⟨hi,e1,e2⟩:=drop_at hd
      show b_e (fN_e m) X (i:Int) = _
      unfold b_e
      rw [ixO_get hi,bs,e1,e,emx,show ((5:Int) == 0) = false from rfl,cnd_f,show ((5:Int) == 1) = false from rfl,cnd_f,show ((5:Int) == 2) = false from rfl,cnd_f,show ((5:Int) == 3) = false from rfl,cnd_f,rng_of (by omega) (by omega),bs,cs,hS m X (i + 1) hm hX e2,bs,show ((5:Int) == 5) = true from rfl,cnd_t]
      rw [show ByteArray.mk #[40] = ba [40] from rfl,show ByteArray.mk #[41] = ba [41] from rfl,scatO_ba (by simp;omega),bs,scatO_ba (by simp;omega),bs,scatO_ba (by simp;omega),bs]
      simp
   ·
    have h':need (o + 1 + 1) t = some 0:=by rw [hk] at h;rw [show o + 1 - 1 + 2 = o + 1 + 1 by omega] at h;exact h
    obtain ⟨s,k,k1,k2,hne,hlen,hI,hS⟩:=ih t (o + 1) hnt hxt (by omega) (by omega) h'
    have hxt':∀ y ∈ t.drop k,y.Text.size ≤ 2000000:=fun y hy => hxt y (List.mem_of_mem_drop hy)
    obtain ⟨s',k',k1',k2',hne',hlen',hI',hS'⟩:=ih (t.drop k) o (by simp;omega) hxt' (by omega) h0 hne
    cases hu:t.drop k with
    | nil => rw [hu] at k2';simp at k2';omega
    | cons y u =>
    rw [hu] at hlen hI hI' hlen' hne' k2' hS'
    have hul:(y :: u).length + k = t.length:=by rw [← hu];simp;omega
    have hdd:(x :: t).drop (1 + k + k') = (y :: u).drop k':=by
     rw [← hu,List.drop_drop,show 1 + k + k' = (k + k') + 1 by omega,List.drop_succ_cons]
    have hg:=grp_len y s'
    refine ⟨s ++ (43 :: grp y s'),1 + k + k',by omega,by simp only [List.length_cons] at k2' hul ⊢;omega,by rw [hdd];exact hne',?_,fun m hm => ?_,fun m X i hm hX hd => ?_⟩
    ·rw [hdd]
     simp only [List.length_append,List.length_cons]
     omega
    ·obtain ⟨m,rfl⟩:∃ m',m = m' + 2:=⟨m - 2,by simp at hm;omega⟩
     simp only [List.length_cons] at hm hul
     rw [et_step,hK,show ((3:Int) == 0) = false from rfl,cnd_f,show ((3:Int) == 1) = false from rfl,cnd_f,show ((3:Int) == 2) = false from rfl,cnd_f,show ((3:Int) == 3) = true from rfl,cnd_t,hI (m + 1) (by omega),bs,gt_step (hI' m (by simp only [List.length_cons];omega)) (by omega),bs]
     rw [scatO_ba (by simp;omega),bs,scatO_ba (by simp;omega),bs,hdd]
     simp
    ·obtain ⟨m,rfl⟩:∃ m',m = m' + 1:=⟨m - 1,by simp at hm;omega⟩
     obtain ⟨hi,e1,e2⟩:=drop_at hd
     have e3:X.drop (i + 1 + k) = y :: u:=by rw [← hu,← e2,List.drop_drop]
     obtain ⟨hi',e1',e2'⟩:=drop_at e3
     simp only [List.length_cons] at hm hul
     show b_e (fN_e m) X (i:Int) = _
     unfold b_e
     rw [ixO_get hi,bs,e1,hK,show ((3:Int) == 0) = false from rfl,cnd_f,show ((3:Int) == 1) = false from rfl,cnd_f,show ((3:Int) == 2) = false from rfl,cnd_f,show ((3:Int) == 3) = true from rfl,cnd_t,rng_of (by omega) (by omega),bs,cs,hS m X (i + 1) (by omega) hX e2,bs]
     simp only
     rw [hS' m X (i + 1 + k) (by simp only [List.length_cons];omega) hX e3,bs,ixO_get hi',bs,e1',show i + 1 + k + k' = i + (1 + k + k') by omega]
     unfold grp at hg ⊢
     cases hy:y.Kind == 3 with
     | true =>
      rw [cnd_t,show ByteArray.mk #[40] = ba [40] from rfl,show ByteArray.mk #[41] = ba [41] from rfl,show ByteArray.mk #[43] = ba [43] from rfl,scatO_ba (by simp;omega),bs,scatO_ba (by simp;omega),bs,scatO_ba (by simp;omega),bs,scatO_ba (by simp;omega),bs]
      simp
     | false =>
      rw [cnd_f,show ByteArray.mk #[43] = ba [43] from rfl,scatO_ba (by simp;omega),bs,scatO_ba (by simp;omega),bs]
      simp
theorem sm_c4:∀ x:List SNode,sm c4 x = sm cN x + 4 * x.length
 | [] => rfl
 | x :: xs => by
  have:=sm_c4 xs
  have e1:sm c4 (x :: xs) = x.Text.size + x.Mark.size + 4 + sm c4 xs:=rfl
  have e2:sm cN (x :: xs) = x.Text.size + x.Mark.size + sm cN xs:=rfl
  simp only [List.length_cons]
  omega
theorem text_both {x:List SNode} (hx:SNs x):∃ s e,f_a7 x = some (ba s,e) ∧ f_a8 x = some (ba s,e):=by
 unfold f_a7 f_a8
 rw [isx_impl hx,isx_spec hx,bs,bs]
 cases h:isx x with
 | false => exact ⟨[],1,rfl,rfl⟩
 | true =>
  obtain ⟨h1,h2⟩:=of_decide_eq_true (show decide (x.length ≤ 30 ∧ need 1 x = some 0) = true from h)
  have h3:cNs x = x.length + sm cN x:=rfl
  have h4:cNs x ≤ 1048576:=hx
  obtain ⟨s,k,_,_,_,_,hI,hS⟩:=print_both x.length x 0 (Nat.le_refl _) (fun y hy => hx.mem hy) (by rw [sm_c4];omega) (by omega) h2
  have e1:f_d x = some (ba s,x.drop k):=fuelO_of _ hI
  have e2:f_e x ((0:Nat):Int) = some (ba s,((0 + k:Nat):Int)):=fuelO_of _ fun m hm => hS m x 0 hm (by omega) rfl
  rw [show (!true) = false from rfl,cnd_f,cnd_f,e1,bs,show (0:Int) = ((0:Nat):Int) from rfl,e2,bs]
  exact ⟨_,_,rfl,rfl⟩
theorem ExpressionText_plain (x0:List SNode) (v0:VL VN x0):f_a9 x0 = some true:=by
 unfold f_a9
 rw [szNodeS v0 (by omega) (by omega),bs]
 rcases sz_case (c:=cNs x0) (b:=1048576) (by omega) (by omega) with h | ⟨h,_,_,h3⟩
 ·rw [h,cnd_t]
 ·have hs:SNs x0:=h3
  obtain ⟨s,e,h1,h2⟩:=text_both hs
  rw [h,cnd_f,toNodeS hs,bs,h2,bs,bs,h1,bs,seqB_self,show (!true) = false from rfl,cnd_f,show (e != e) = false by simp,cnd_f,bs,eqNodeS_self (Nat.le_trans hs.len (by decide)),bs]
  rfl
end Go.Pl

namespace Go.Pl
open Go Go.Ab Go.Wk Go.Pc
theorem markText_tot {k:Int} (h0:0 ≤ k) (h1:k ≤ 1000000000000):∃ t,f_T k = some t:=by
 unfold f_T
 by_cases c:k ≤ 0
 ·rw [decide_eq_true c,cnd_t];exact ⟨_,rfl⟩
 ·rw [decide_eq_false c,cnd_f]
  obtain ⟨r,h2,h3⟩:=loopO_meas (body:=l1_T) (Q:=fun r => ∃ l,r = ba l ∧ (l.length:Int) ≤ k) (fun s => 0 ≤ s.1 ∧ ∃ l,s.2 = ba l ∧ (l.length:Int) + s.1 ≤ k) (fun s => s.1.toNat) (fun s hs => by
   obtain ⟨n,b⟩:=s
   obtain ⟨e1,l,e2,e3⟩:=hs
   simp only at e1 e2 e3
   subst e2
   unfold l1_T
   simp only
   by_cases c2:n > 0
   ·rw [decide_eq_true c2,cnd_t]
    have q1:remO n 10 = some (n.tmod 10):=rfl
    have q2:0 ≤ n.tmod 10:=Int.tmod_nonneg _ e1
    have q3:n.tmod 10 < 10:=Int.tmod_lt_of_pos _ (by omega)
    have q5:n.tdiv 10 = n / 10:=Int.tdiv_eq_ediv_of_nonneg e1
    have q4:quoO n 10 = rng (n.tdiv 10):=rfl
    rw [q1,bs,rng_of (by omega) (by omega),bs,b2s_ba,scatO_ba (by simp;omega),bs,q4,q5,rng_of (by omega) (by omega),bs]
    refine .inl ⟨_,rfl,⟨by simp only;omega,_,rfl,by simp;omega⟩,by simp only;omega⟩
   ·rw [decide_eq_false c2,cnd_f]
    exact .inr ⟨_,rfl,l,rfl,by omega⟩) k.toNat (k,ba []) (Nat.le_refl _) ⟨by simp only;omega,[],rfl,by simp⟩
  obtain ⟨l,rfl,h4⟩:=h3
  rw [show ByteArray.mk #[] = ba [] from rfl,h2,bs,show ByteArray.mk #[109] = ba [109] from rfl,scatO_ba (by simp;omega),bs]
  exact ⟨_,rfl⟩
noncomputable def mt (k:Int):ByteArray:=(f_T k).getD ByteArray.empty
theorem mt_ok {k:Int} (h0:0 ≤ k) (h1:k ≤ 1000000000000):f_T k = some (mt k):=by
 obtain ⟨t,h⟩:=markText_tot h0 h1
 unfold mt;rw [h];rfl
noncomputable def mN (k:Int):SNode:=SNode.mk k (mt (k + 1)) (mt (k + 2))
noncomputable def mNs (k:Int) (n:Nat):List SNode:=(List.range n).map fun (j:Nat) => mN (k + 3 * ((j:Nat):Int))
theorem mNs_len (k:Int) (n:Nat):(mNs k n).length = n:=by simp [mNs]
theorem mNs_succ (k:Int) (n:Nat):mNs k (n + 1) = mNs k n ++ [mN (k + 3 * (n:Int))]:=by simp [mNs,List.range_succ]
theorem ixO_mid {α:Type} {a b:List α} {v:α} {i:Nat} (h:a.length = i):ixO (a ++ v :: b) (i:Int) = some v:=by
 rw [ixO_nat];subst h;simp
theorem set_mid {α:Type} {a b:List α} {v w:α} {i:Nat} (h:a.length = i):(a ++ v :: b).set i w = a ++ w :: b:=by
 subst h;simp
theorem markNodeS_ok {x:List SNode} {k:Int} (hl:x.length ≤ 10000000) (k0:0 ≤ k) (k1:k ≤ 1000000000):f_U x k = some (k + 3 * (x.length:Int),mNs k x.length):=by
 unfold f_U
 have:=loopO_seq (body:=l1_U) (r:=(mNs k x.length,k + 3 * (x.length:Int))) (fun i => (mNs k i ++ x.drop i,k + 3 * (i:Int),(i:Int))) x.length (fun i hi => by
  have hn:=mNs_len k i
  unfold l1_U
  simp only
  rw [show ((mNs k i ++ x.drop i).length:Int) = (x.length:Int) by simp [hn];omega,lt_t hi,cnd_t,List.drop_eq_getElem_cons hi,ixO_mid hn,bs,rng_of (by omega) (by omega),bs,mt_ok (by omega) (by omega),bs,Int.toNat_natCast,set_mid hn,ixO_mid hn,bs,rng_of (by omega) (by omega),bs,mt_ok (by omega) (by omega),bs,set_mid hn,ixO_mid hn,bs,rng_of (by omega) (by omega),bs,rng_of (by omega) (by omega),bs,set_mid hn,cs,mNs_succ]
  congr 3
  ·rw [List.append_assoc]
   unfold mN
   simp only [List.singleton_append]
   rw [show k + 3 * (i:Int) + 1 + 1 = k + 3 * (i:Int) + 2 by omega]
  ·congr 1
   omega) (by
  unfold l1_U
  simp only
  rw [List.drop_length,List.append_nil,mNs_len,lt_f,cnd_f])
 simp only [show mNs k 0 = [] from rfl,List.nil_append,List.drop_zero] at this
 rw [show (k + 3 * ((0:Nat):Int)) = k by omega] at this
 rw [show ((0:Int)) = ((0:Nat):Int) from rfl,this,bs]
theorem heldNodeS_ok {n:Nat} {k:Int} (hl:n ≤ 10000000) (k0:0 ≤ k) (k1:k ≤ 1000000000):f_ag (mNs k n) k = some (k + 3 * (n:Int)):=by
 unfold f_ag
 have:=loopO_seq (body:=l1_ag (mNs k n)) (r:=.inl (k + 3 * (n:Int))) (fun i => (k + 3 * (i:Int),(i:Int))) n (fun i hi => by
  have hg:(mNs k n)[i]'(by rw [mNs_len];exact hi) = mN (k + 3 * (i:Int)):=by simp [mNs]
  unfold l1_ag
  simp only
  rw [mNs_len,lt_t hi,cnd_t,ixO_get (by rw [mNs_len];exact hi),bs,hg,show ((mN (k + 3 * (i:Int))).Kind != k + 3 * (i:Int)) = false by simp [mN],cnd_f,rng_of (by omega) (by omega),bs,bs,mt_ok (by omega) (by omega),bs,show (mN (k + 3 * (i:Int))).Text = mt (k + 3 * (i:Int) + 1) from rfl,seqB_self,show (!true) = false from rfl,cnd_f,rng_of (by omega) (by omega),bs,bs,mt_ok (by omega) (by omega),bs,show (mN (k + 3 * (i:Int))).Mark = mt (k + 3 * (i:Int) + 1 + 1) from (by unfold mN;simp only;congr 1;omega),seqB_self,show (!true) = false from rfl,cnd_f,rng_of (by omega) (by omega),bs,rng_of (by omega) (by omega),bs,cs]
  congr 3
  omega) (by
  unfold l1_ag
  simp only
  rw [mNs_len,lt_f,cnd_f])
 rw [show (k + 3 * ((0:Nat):Int)) = k by omega] at this
 rw [show ((0:Int)) = ((0:Nat):Int) from rfl,this,bs]
noncomputable def rep (y:ByteArray) (z:List SNode) (v:SNode):List SNode:=cond (v.Kind == 2) (cond (seqB v.Text y) z [v]) [v]
theorem rep_len (y:ByteArray) {z:List SNode} (hz:z.length ≤ 30) (v:SNode):(rep y z v).length ≤ 30:=by
 unfold rep
 cases v.Kind == 2
 ·simp
 ·cases seqB v.Text y <;> simp [hz]
theorem reps_len (y:ByteArray) {z:List SNode} (hz:z.length ≤ 30):∀ x:List SNode,(x.flatMap (rep y z)).length ≤ 30 * x.length
 | [] => by simp
 | v :: x => by
  have:=reps_len y hz x
  have:=rep_len y hz v
  simp only [List.flatMap_cons,List.length_append,List.length_cons]
  omega
theorem reps_at {y:ByteArray} {z x:List SNode} {i:Nat} (hi:i < x.length):(x.take (i + 1)).flatMap (rep y z) = (x.take i).flatMap (rep y z) ++ rep y z x[i]:=by
 rw [List.take_succ_eq_append_getElem hi,List.flatMap_append];simp
theorem rv_impl {x z:List SNode} {y:ByteArray} (hx:x.length ≤ 30) (hz:z.length ≤ 30):loopO (l1_ab x y z) ([],0) = some (x.flatMap (rep y z)):=by
 have:=loopO_seq (body:=l1_ab x y z) (r:=x.flatMap (rep y z)) (fun i => ((x.take i).flatMap (rep y z),(i:Int))) x.length (fun i hi => by
  have h1:=reps_len y hz (x.take i)
  have h2:(x.take i).length ≤ 30:=by simp;omega
  have h3:=reps_at (y:=y) (z:=z) hi
  have h4:=rep_len y hz x[i]
  unfold l1_ab
  simp only
  rw [lt_t hi,cnd_t,ixO_get hi,bs,h3]
  unfold rep at h4 ⊢
  cases hk:x[i].Kind == 2 with
  | false => rw [cnd_f,appO_of (by simp only [List.length_singleton];unfold rep at h1;omega),bs,rng_of (by omega) (by omega),bs,cs];try simp only [cnd_f]
  | true =>
   rw [cnd_t]
   cases hs:seqB x[i].Text y with
   | false => rw [cnd_f,appO_of (by simp only [List.length_singleton];unfold rep at h1;omega),bs,rng_of (by omega) (by omega),bs,cs];try simp only [cnd_t,cnd_f]
   | true => rw [cnd_t,appO_of (by unfold rep at h1;omega),bs,rng_of (by omega) (by omega),bs,cs];try simp only [cnd_t]) (by
  unfold l1_ab
  simp only
  rw [lt_f,cnd_f,List.take_length])
 exact this
theorem rv_spec {x z:List SNode} {y:ByteArray} (hx:x.length ≤ 30) (hz:z.length ≤ 30):loopO (l1_ac x y z) ([],0) = some (x.flatMap (rep y z)):=by
 have:=loopO_seq (body:=l1_ac x y z) (r:=x.flatMap (rep y z)) (fun i => ((x.take i).flatMap (rep y z),(i:Int))) x.length (fun i hi => by
  have h1:=reps_len y hz (x.take i)
  have h2:(x.take i).length ≤ 30:=by simp;omega
  have h3:=reps_at (y:=y) (z:=z) hi
  have h4:=rep_len y hz x[i]
  unfold l1_ac
  simp only
  rw [lt_t hi,cnd_t,ixO_get hi,h3]
  simp only [bs]
  unfold rep at h4 ⊢
  cases hk:x[i].Kind == 2 with
  | false => rw [cnd_f,appO_of (by simp only [List.length_singleton];unfold rep at h1;omega),bs,rng_of (by omega) (by omega),bs,cs];try simp only [cnd_f]
  | true =>
   rw [cnd_t]
   cases hs:seqB x[i].Text y with
   | false => rw [cnd_f,appO_of (by simp only [List.length_singleton];unfold rep at h1;omega),bs,rng_of (by omega) (by omega),bs,cs];try simp only [cnd_t,cnd_f]
   | true => rw [cnd_t,appO_of (by unfold rep at h1;omega),bs,rng_of (by omega) (by omega),bs,cs];try simp only [cnd_t]) (by
  unfold l1_ac
  simp only
  rw [lt_f,cnd_f,List.take_length])
 exact this
theorem isx_len {x:List SNode} (h:isx x = true):x.length ≤ 30:=(of_decide_eq_true (show decide (x.length ≤ 30 ∧ need 1 x = some 0) = true from h)).1
theorem rv_both {x z:List SNode} {y:ByteArray} (hx:SNs x) (hz:SNs z):∃ l e,f_ab x y z = some (l,e) ∧ f_ac x y z = some (l,e) ∧ l.length ≤ 30:=by
 unfold f_ab f_ac
 rw [isx_impl hx,isx_spec hx,isx_impl hz,isx_spec hz]
 simp only [bs]
 cases h1:isx x with
 | false => exact ⟨[],1,rfl,rfl,by simp⟩
 | true =>
  rw [show (!true) = false from rfl,cnd_f,cnd_f]
  cases h2:isx z with
  | false => exact ⟨[],1,rfl,rfl,by simp⟩
  | true =>
   rw [show (!true) = false from rfl,cnd_f,cnd_f]
   obtain ⟨l,h3⟩:=letter_tot y
   rw [letter_both,h3]
   simp only [bs]
   cases l with
   | false => exact ⟨[],2,rfl,rfl,by simp⟩
   | true =>
    rw [show (!true) = false from rfl,cnd_f,cnd_f,rv_impl (isx_len h1) (isx_len h2),rv_spec (isx_len h1) (isx_len h2)]
    simp only [bs]
    by_cases c:((x.flatMap (rep y z)).length:Int) > 30
    ·rw [decide_eq_true c];exact ⟨[],3,rfl,rfl,by simp⟩
    ·rw [decide_eq_false c];exact ⟨_,0,rfl,rfl,by omega⟩
theorem ReplaceVariable_plain (x0:List SNode) (x1:ByteArray) (x2:List SNode) (v0:VL VN x0) (_v1:x1.size ≤ maxLen) (v2:VL VN x2):f_ba x0 x1 x2 = some true:=by
 unfold f_ba
 cases decide ((x1.size:Int) > 1048576) with
 | true => rfl
 | false =>
 rw [cnd_f,szNodeS v0 (by omega) (by omega),bs]
 rcases sz_case (c:=cNs x0) (b:=1048576) (by omega) (by omega) with h | ⟨h,hb0,hb1,h3⟩
 ·rw [h,cnd_t]
 rw [h,cnd_f,szNodeS v2 hb0 hb1,bs]
 rcases sz_case (c:=cNs x2) hb0 hb1 with h' | ⟨h',_,_,h4⟩
 ·rw [h',cnd_t]
 have hs:SNs x0:=h3
 have hs2:SNs x2:=h4
 obtain ⟨l,e,e1,e2,e3⟩:=rv_both (y:=x1) hs hs2
 have w0:=hs.len
 have w2:=hs2.len
 have q0:f_A x0 x0 = some true:=eqNodeS_self (by omega)
 have q2:f_A x2 x2 = some true:=eqNodeS_self (by omega)
 have ql:f_A l l = some true:=eqNodeS_self (by omega)
 have m0:=markNodeS_ok (x:=x0) (k:=1) (by omega) (by omega) (by omega)
 have m2:=markNodeS_ok (x:=x2) (k:=1 + 3 * (x0.length:Int)) (by omega) (by omega) (by omega)
 have ml:=markNodeS_ok (x:=l) (k:=1) (by omega) (by omega) (by omega)
 have hl:=heldNodeS_ok (n:=l.length) (k:=1) (by omega) (by omega) (by omega)
 have d1:decide (1 + 3 * (x0.length:Int) + 3 * (x2.length:Int) < 0) = false:=decide_eq_false (by omega)
 have d2:decide (1 + 3 * (l.length:Int) < 0) = false:=decide_eq_false (by omega)
 rw [h',cnd_f,toNodeS hs,toNodeS hs2]
 simp only [bs,e1,e2,ql,q0,q2,m0,m2,ml,hl,d1,d2,Bool.not_true,cnd_f,bne_self_eq_false]
end Go.Pl

namespace Go.Pl
open Go Go.Ab Go.Wk Go.Pc
theorem nflat_take {xs:List (List SNode)} {i:Nat} (h:i < xs.length):(xs.take (i + 1)).flatten = (xs.take i).flatten ++ xs.getD i []:=by
 grind[List.take_succ_eq_append_getElem]
theorem nflat_le {xs:List (List SNode)} (i:Nat):(xs.take i).flatten.length ≤ xs.flatten.length:=by
 grind[List.take_append_drop]
theorem ngrow {k:Nat} (hk:k ≤ 1000000):f_aL (k:Int) = some []:=by
 unfold f_aL
 rw [decide_eq_false (by omega),cnd_f,rng_of (by decide) (by decide),bs,rng_of (by omega) (by omega),bs]
 by_cases h:(k:Int) - (0 - 0) > 0
 ·rw [decide_eq_true h,cnd_t]
  have e:appzO ([]:List SNode) ((k:Int) - (0 - 0)) (SNode.mk 0 ByteArray.empty ByteArray.empty) = some (List.replicate k (SNode.mk 0 ByteArray.empty ByteArray.empty)):=by
   unfold appzO
   grind
  rw [e,bs]
  rfl
 grind
theorem nconcat {xs:List (List SNode)} (hx:xs.length ≤ 1000) (hf:xs.flatten.length ≤ 1000000):f_y xs = some xs.flatten:=by
 unfold f_y
 have l1:=loopO_seq (body:=l1_y xs) (r:=((xs.flatten.length:Nat):Int)) (fun i => ((((xs.take i).flatten.length:Nat):Int),(i:Int))) xs.length (fun i hi => by
  have h1:=nflat_take hi
  have h2:=nflat_le (xs:=xs) (i + 1)
  have h3:=congrArg List.length h1
  rw [List.length_append] at h3
  unfold l1_y
  simp only
  rw [lt_t hi,cnd_t,ixO_d [] hi,bs,rng_of (by omega) (by omega),bs,decide_eq_false (by omega),cnd_f,rng_of (by omega) (by omega),bs,cs,h3]
  congr 3) (by
  unfold l1_y
  simp)
 rw [show ((0:Nat):Int) = 0 from rfl] at l1
 simp only [List.take_zero,List.flatten_nil,List.length_nil] at l1
 rw [show ((0:Nat):Int) = 0 from rfl] at l1
 rw [l1,bs,ngrow hf,bs]
 have l2:=loopO_seq (body:=l2_y xs) (r:=xs.flatten) (fun i => ((xs.take i).flatten,(i:Int))) xs.length (fun i hi => by
  have h1:=nflat_take hi
  have h2:=nflat_le (xs:=xs) (i + 1)
  have h3:=congrArg List.length h1
  rw [List.length_append] at h3
  unfold l2_y
  simp only
  rw [lt_t hi,cnd_t,ixO_d [] hi,bs,appO_of (by omega),bs,rng_of (by omega) (by omega),bs,cs,h1]) (by
  unfold l2_y
  simp)
 grind
section
variable {T:Bs} {i:Nat} {c:UInt8} {n:Int}
theorem six_at (hi:i < T.length):sixO (ba T) (i:Int) = some ((T[i].toNat:Nat):Int):=sixO_get hi
theorem cnat (a b:UInt8):(((a.toNat:Nat):Int) == ((b.toNat:Nat):Int)) = decide (a = b):=by
 rw [Bool.eq_iff_iff]
 simp only [beq_iff_eq,decide_eq_true_eq]
 exact ⟨fun h => UInt8.toNat_inj.1 (by omega),fun h => by rw [h]⟩
theorem at_dec (hi:i < T.length):decide (T[i] = c) = decide (T[i]? = some c):=by
 rw [List.getElem?_eq_getElem hi];simp
theorem take_impl (hT:T.length ≤ 300) (hi:i ≤ T.length) (hn:n = ((c.toNat:Nat):Int)) :
  f_aq ⟨ba T,(i:Int)⟩ n = some (decide (T[i]? = some c),⟨ba T,((if T[i]? = some c then i + 1 else i:Nat):Int)⟩):=by
 subst hn
 unfold f_aq
 simp only
 rw [ba_size]
 by_cases h:i = T.length
 ·subst h
  rw [show ((T.length:Int) == (T.length:Int)) = true by simp,cnd_t,List.getElem?_eq_none (Nat.le_refl _)]
  simp
 ·have hi':i < T.length:=by omega
  rw [show ((i:Int) == (T.length:Int)) = false from beq_eq_false_iff_ne.2 (by omega),cnd_f,six_at hi',bs,bne,cnat,at_dec hi']
  by_cases h2:T[i]? = some c
  ·rw [decide_eq_true h2,Bool.not_true,cnd_f,rng_of (by omega) (by omega),bs,if_pos h2];rfl
  ·rw [decide_eq_false h2,Bool.not_false,cnd_t,if_neg h2]
theorem is_spec {f:Bool} (hn:n = ((c.toNat:Nat):Int)):f_aJ ⟨ba T,(i:Int),f⟩ n = some (decide (T[i]? = some c)):=by
 subst hn
 unfold f_aJ
 simp only
 rw [ba_size]
 by_cases h:i < T.length
 ·rw [lt_t h,cnd_t,six_at h,bs,cnat,at_dec h]
 ·rw [decide_eq_false (by omega),cnd_f,List.getElem?_eq_none (by omega)]
  simp
theorem take_spec (hT:T.length ≤ 300) (hn:n = ((c.toNat:Nat):Int)):f_ak ⟨ba T,(i:Int),false⟩ n = some ⟨ba T,((if T[i]? = some c then i + 1 else i:Nat):Int),!decide (T[i]? = some c)⟩:=by
 unfold f_ak
 simp only
 rw [cnd_f,is_spec hn,bs]
 by_cases h2:T[i]? = some c
 ·have hi:i < T.length:=by
   rcases Nat.lt_or_ge i T.length with h | h
   ·exact h
   ·rw [List.getElem?_eq_none h] at h2;cases h2
  rw [decide_eq_true h2,Bool.not_true,cnd_f,rng_of (by omega) (by omega),bs,if_pos h2];rfl
 ·rw [decide_eq_false h2,Bool.not_false,cnd_t,if_neg h2]
theorem take_failed {x:ByteArray} {k:Int}:f_ak ⟨x,k,true⟩ n = some ⟨x,k,true⟩:=rfl
theorem next_at (hi:i < T.length):f_aK ⟨ba T,(i:Int)⟩ = some ((T[i].toNat:Nat):Int):=by
 unfold f_aK
 simp only
 rw [ba_size,show ((i:Int) == (T.length:Int)) = false from beq_eq_false_iff_ne.2 (by omega),cnd_f,six_at hi,bs]
theorem next_end:f_aK ⟨ba T,(T.length:Int)⟩ = some 0:=by
 unfold f_aK
 simp only
 rw [ba_size,show ((T.length:Int) == (T.length:Int)) = true by simp,cnd_t]
def isM (b:UInt8):Bool:=b == 90 || (b == 68 || b == 70)
theorem isM_impl (b:UInt8):f_aG (ba [b]) = some (isM b):=by
 unfold f_aG
 rw [show ByteArray.mk #[90] = ba [90] from rfl,show ByteArray.mk #[68] = ba [68] from rfl,show ByteArray.mk #[70] = ba [70] from rfl,seqB_ba,seqB_ba,seqB_ba]
 unfold isM
 rw [show ([b] == [90]) = (b == 90) by simp,show ([b] == [68]) = (b == 68) by simp,show ([b] == [70]) = (b == 70) by simp]
 cases b == 90
 ·rw [cnd_f]
  cases b == 68 <;> rfl
 ·rfl
theorem b2s_one (b:UInt8):b2s [((b.toNat:Nat):Int)] = ba [b]:=by
 rw [b2s_ba];simp
theorem mark_at (hT:T.length ≤ 300) (hi:i < T.length):f_ah ⟨ba T,(i:Int)⟩ = some (if isM T[i] then (ba [T[i]],true,⟨ba T,((i + 1:Nat):Int)⟩) else (ba [],false,⟨ba T,(i:Int)⟩)):=by
 unfold f_ah
 rw [next_at hi,bs,b2s_one,isM_impl,bs]
 cases isM T[i] with
 | true => rw [Bool.not_true,cnd_f,rng_of (by simp only;omega) (by simp only;omega),bs];rfl
 | false => rfl
theorem mark_end:f_ah ⟨ba T,(T.length:Int)⟩ = some (ba [],false,⟨ba T,(T.length:Int)⟩):=by
 unfold f_ah
 rw [next_end,bs,show b2s [0] = ba [0] from rfl,isM_impl,bs]
 rfl
def isL (b:UInt8):Bool:=decide (97 ≤ b.toNat ∧ b.toNat ≤ 122)
theorem isL_impl (b:UInt8):f_aj (ba [b]) = some (isL b):=by
 unfold f_aj isL
 rw [ba_size,show (([b].length:Int) == 1) = true from rfl,cnd_t,show sixO (ba [b]) 0 = some ((b.toNat:Nat):Int) from sixO_get (i:=0) (by simp),bs]
 by_cases c1:97 ≤ b.toNat
 ·rw [decide_eq_true (by omega),cnd_t,bs]
  congr 1
  by_cases c2:b.toNat ≤ 122
  ·rw [decide_eq_true (by omega),decide_eq_true (by omega)]
  ·rw [decide_eq_false (by omega),decide_eq_false (by omega)]
 ·rw [decide_eq_false (by omega),cnd_f,decide_eq_false (by omega)]
theorem ssl_one (hi:i < T.length):sslO (ba T) (i:Int) ((i + 1:Nat):Int) = some (ba [T[i]]):=by
 rw [sslO_ba (by omega) (by omega)]
 congr 2
 rw [List.take_succ_eq_append_getElem hi,List.drop_left' (by simp;omega)]
theorem between_loop (hn:n = ((c.toNat:Nat):Int)) (hT:T.length ≤ 300) {f:Bool} (k:Nat) (hk:i + 1 + k ≤ T.length) (h:∀ j,j < k → T[i + 1 + j]? ≠ some c) (he:i + 1 + k = T.length ∨ T[i + 1 + k]? = some c) :
  loopO (l1_K ⟨ba T,(i:Int),f⟩ n) ((i + 1:Nat):Int) = some ((i + 1 + k:Nat):Int):=by
 subst hn
 refine loopO_seq (body:=l1_K ⟨ba T,(i:Int),f⟩ ((c.toNat:Nat):Int)) (fun j => ((i + 1 + j:Nat):Int)) k (fun j hj => ?_) ?_
 ·have hj':i + 1 + j < T.length:=by omega
  unfold l1_K
  simp only
  rw [ba_size,lt_t hj',cnd_t,six_at hj',bs,bne,cnat,at_dec hj',decide_eq_false (h j hj),Bool.not_false,cnd_t,rng_of (by omega) (by omega),bs]
  congr 2
 ·unfold l1_K
  simp only
  rw [ba_size]
  rcases he with e | e
  ·rw [decide_eq_false (by omega),cnd_f]
  ·have hj':i + 1 + k < T.length:=by
    rcases Nat.lt_or_ge (i + 1 + k) T.length with h | h
    ·exact h
    ·rw [List.getElem?_eq_none h] at e;cases e
   rw [lt_t hj',cnd_t,six_at hj',bs,bne,cnat,at_dec hj',decide_eq_true e,Bool.not_true,cnd_f]
theorem piece_both (hT:T.length ≤ 300) (hi:i < T.length) (hc:T[i] ≠ c) (hn:n = ((c.toNat:Nat):Int)) (κ:Int) :
  ∃ (j:Nat) (l:List SNode) (ok:Bool),i ≤ j ∧ j ≤ T.length ∧ l.length ≤ j - i ∧
   f_ay ⟨ba T,(i:Int)⟩ n κ = some (l,ok,⟨ba T,(j:Int)⟩) ∧
   ((f_K ⟨ba T,(i:Int),false⟩ n).bind fun r3 =>
     cond r3.2.failed (
      some ([],(Sl36Reader.mk r3.2.text r3.2.at_ true))) (
      (f_D (SNode.mk κ r3.1 ByteArray.empty)).bind fun r4 =>
      cond (decide (r4 < 0)) (
       some ([],(Sl36Reader.mk r3.2.text r3.2.at_ true))) (
       (rng (r3.2.at_ + (r3.1.size:Int))).bind fun v5 =>
       (rng (v5 + 2)).bind fun v6 =>
       some ([(SNode.mk κ r3.1 ByteArray.empty)],(Sl36Reader.mk r3.2.text v6 r3.2.failed))))) = some (l,⟨ba T,(j:Int),!ok⟩):=by
 subst hn
 unfold f_ay f_K
 simp only
 rw [ba_size,sslO_ba (by omega) (by omega),bs,List.take_length,rng_of (by omega) (by omega),bs]
 have hix:∀ l:Bs,f_az (ba l) ((c.toNat:Nat):Int) = some (Lib.indexByte l c):=by
  intro l
  unfold f_az
  rw [ba_l]
  congr 2
  simp
 rw [hix,bs]
 have hdr:∀ k:Nat,(T.drop i)[k]? = T[i + k]?:=fun k => by rw [List.getElem?_drop]
 have hge:=Lib.indexByte_ge (T.drop i) c
 by_cases hm:Lib.indexByte (T.drop i) c = -1
 ·have h1:=Lib.indexByte_none hm
  rw [hm,show decide ((-1:Int) < 0) = true from rfl,cnd_t,cs,between_loop rfl hT (T.length - i - 1) (by omega) (fun j _ => by rw [show i + 1 + j = i + (1 + j) by omega,← hdr];exact h1 _) (.inl (by omega)),bs,show (((i + 1 + (T.length - i - 1):Nat):Int) == (T.length:Int)) = true from beq_iff_eq.2 (by omega),cnd_t,bs]
  exact ⟨i,[],false,by omega,by omega,by simp,rfl,rfl⟩
 ·obtain ⟨o,ho⟩:∃ o:Nat,Lib.indexByte (T.drop i) c = (o:Int):=⟨(Lib.indexByte (T.drop i) c).toNat,by omega⟩
  obtain ⟨h1,h2⟩:=Lib.indexByte_some ho
  rw [hdr] at h1
  have hlt:i + o < T.length:=by
   rcases Nat.lt_or_ge (i + o) T.length with h | h
   ·exact h
   ·rw [List.getElem?_eq_none h] at h1;cases h1
  have ho1:1 ≤ o:=by
   rcases Nat.eq_zero_or_pos o with e | e
   ·subst e
    rw [Nat.add_zero,List.getElem?_eq_getElem hi] at h1
    exact absurd (Option.some.inj h1) hc
   ·exact e
  have hb:=between_loop (T:=T) (i:=i) (c:=c) rfl hT (f:=false) (o - 1) (by omega) (fun j hj => by rw [show i + 1 + j = i + (1 + j) by omega,← hdr];exact h2 _ (by omega)) (.inr (by rw [show i + 1 + (o - 1) = i + o by omega];exact h1))
  rw [show i + 1 + (o - 1) = i + o by omega] at hb
  rw [ho,decide_eq_false (by omega),cnd_f,cs,hb]
  simp only [bs]
  rw [show (((i + o:Nat):Int) == (T.length:Int)) = false from beq_eq_false_iff_ne.2 (by omega),cnd_f,show (i:Int) + (o:Int) = ((i + o:Nat):Int) by omega,rng_of (by omega) (by omega),bs,sslO_ba (by omega) (by omega),bs]
  generalize hx:(T.take (i + o)).drop (i + 1) = x
  have hxl:x.length = o - 1:=by rw [← hx];simp;omega
  have hop:=op_ok (x:=SNode.mk κ (ba x) ByteArray.empty) (by simp only;rw [ba_size];omega)
  simp only [bs]
  rw [hop.1,hop.2.1,cnd_f,bs,bs]
  by_cases h0:op (SNode.mk κ (ba x) ByteArray.empty) < 0
  ·rw [decide_eq_true h0,cnd_t,cnd_t]
   exact ⟨i,[],false,by omega,by omega,by simp,rfl,rfl⟩
  ·rw [decide_eq_false h0,cnd_f,cnd_f,ba_size,rng_of (by omega) (by omega),bs,rng_of (by omega) (by omega),bs,rng_of (by omega) (by omega),bs,rng_of (by omega) (by omega),bs]
   refine ⟨i + o + 1,[SNode.mk κ (ba x) ByteArray.empty],true,by omega,by omega,by simp;omega,?_,?_⟩
   ·congr 4
   ·congr 4
    omega
end
end Go.Pl

namespace Go.Pl
open Go Go.Ab Go.Wk Go.Pc
def RdF (T:Bs) (i c:Nat) (im:Nat → SexprReader → Option (List SNode × Bool × SexprReader)) (sp:Nat → Sl36Reader → Option (List SNode × Sl36Reader)):Prop :=
 ∃ (j:Nat) (l l':List SNode) (ok:Bool),i ≤ j ∧ j ≤ T.length ∧ l.length + i ≤ j ∧ l'.length + i ≤ j ∧ (ok = true → l = l') ∧
  (∀ m,c ≤ m → im m ⟨ba T,(i:Int)⟩ = some (l,ok,⟨ba T,(j:Int)⟩)) ∧ (∀ m,c ≤ m → sp m ⟨ba T,(i:Int),false⟩ = some (l',⟨ba T,(j:Int),!ok⟩))
theorem onceG {σ ρ:Type} {body:σ → Option (σ ⊕ ρ)} {s:σ} {r:ρ} (h:body s = some (.inr r)):loopO body s = some r:=by rw [loopO_eq,h]
theorem stepG {σ ρ:Type} {body:σ → Option (σ ⊕ ρ)} {s s':σ} (h:body s = some (.inl s')):loopO body s = loopO body s':=by rw [loopO_eq,h]
theorem spec_failed {m:Nat} {x:ByteArray} {k:Int}:fN_i (m + 3) ⟨x,k,true⟩ = some ([],⟨x,k,true⟩):=by
 have h1:fN_v (m + 1) ⟨x,k,true⟩ = some ([],⟨x,k,true⟩):=rfl
 have h2:fN_h (m + 2) ⟨x,k,true⟩ = some ([],⟨x,k,true⟩):=by
  show b_h (fN_v (m + 1)) ⟨x,k,true⟩ = _
  unfold b_h
  rw [h1,bs]
  exact congrArg (Option.bind · _) (onceG (body:=l1_h ([],⟨x,k,true⟩)) (s:=(k,[])) (r:=.inl (k,[])) rfl)
 show b_i (fN_h (m + 2)) ⟨x,k,true⟩ = _
 unfold b_i
 rw [h2,bs]
 exact congrArg (Option.bind · _) (onceG (body:=l1_i (fN_h (m + 2))) (s:=(x,k,true,[])) (r:=(x,k,true,[])) rfl)
section
variable {T:Bs} {i:Nat}
theorem par_ok (hT:T.length ≤ 300) (hi:i < T.length) (hb:T[i]? = some 40) (hP:RdF T (i + 1) (4 * (T.length - (i + 1)) + 4) fN_j fN_i) :
  ∃ (j:Nat) (l l':List SNode) (ok:Bool) (r:Sl36Reader),i + 1 ≤ j ∧ j ≤ T.length ∧ l.length + (i + 1) ≤ j ∧ l'.length + (i + 1) ≤ j ∧ (ok = true → l = l') ∧
   (∀ m,4 * (T.length - i) + 1 ≤ m → fN_r m ⟨ba T,(i:Int)⟩ = some (l,ok,⟨ba T,(j:Int)⟩)) ∧
   (∀ m,4 * (T.length - i) ≤ m → fN_i m ⟨ba T,((i + 1:Nat):Int),false⟩ = some (l',r)) ∧ f_ak r 41 = some ⟨ba T,(j:Int),!ok⟩:=by
 obtain ⟨j,l,l',ok,h1,h2,h3,h4,h5,h6,h7⟩:=hP
 have hp:∀ m,fN_r (m + 1) ⟨ba T,(i:Int)⟩ = (fN_j m ⟨ba T,((i + 1:Nat):Int)⟩).bind fun r2 =>
   cond r2.2.1 ((f_aq r2.2.2 41).bind fun r3 => some (r2.1,r3.1,r3.2)) (some (r2.1,false,r2.2.2)):=by
  intro m
  show b_r (fN_j m) ⟨ba T,(i:Int)⟩ = _
  unfold b_r
  rw [take_impl (c:=40) (n:=40) hT (by omega) rfl,bs,decide_eq_true hb,if_pos hb,Bool.not_true,cnd_f]
 cases ok with
 | false =>
  refine ⟨j,l,l',false,_,h1,h2,h3,h4,h5,fun m hm => ?_,fun m hm => h7 m (by omega),rfl⟩
  obtain ⟨m,rfl⟩:∃ m',m = m' + 1:=⟨m - 1,by omega⟩
  rw [hp,h6 m (by omega),bs,cnd_f]
 | true =>
  have ht:f_aq ⟨ba T,(j:Int)⟩ 41 = _:=take_impl (c:=41) (n:=41) hT h2 rfl
  have hs:f_ak ⟨ba T,(j:Int),false⟩ 41 = _:=take_spec (c:=41) (n:=41) hT rfl
  by_cases c:T[j]? = some 41
  ·rw [decide_eq_true c,if_pos c] at ht hs
   have hj:j < T.length:=by
    rcases Nat.lt_or_ge j T.length with h | h
    ·exact h
    ·rw [List.getElem?_eq_none h] at c;cases c
   refine ⟨j + 1,l,l',true,_,by omega,by omega,by omega,by omega,h5,fun m hm => ?_,fun m hm => h7 m (by omega),hs⟩
   obtain ⟨m,rfl⟩:∃ m',m = m' + 1:=⟨m - 1,by omega⟩
   rw [hp,h6 m (by omega),bs,cnd_t,ht,bs]
  ·rw [decide_eq_false c,if_neg c] at ht hs
   refine ⟨j,l,l',false,_,h1,h2,h3,h4,by simp,fun m hm => ?_,fun m hm => h7 m (by omega),hs⟩
   obtain ⟨m,rfl⟩:∃ m',m = m' + 1:=⟨m - 1,by omega⟩
   rw [hp,h6 m (by omega),bs,cnd_t,ht,bs]
theorem factor_both (hT:T.length ≤ 300) (hi:i ≤ T.length) (hP:∀ i',i < i' → i' ≤ T.length → RdF T i' (4 * (T.length - i') + 4) fN_j fN_i) :
  RdF T i (4 * (T.length - i) + 2) fN_w fN_v:=by
 by_cases hN:i = T.length
 ·subst hN
  refine ⟨T.length,[],[],false,by omega,by omega,by simp,by simp,by simp,fun m hm => ?_,fun m hm => ?_⟩
  ·obtain ⟨m,rfl⟩:∃ m',m = m' + 1:=⟨m - 1,by omega⟩
   show b_w (fN_r m) _ = _
   unfold b_w
   rw [next_end,bs,show ((0:Int) == 123) = false from rfl,cnd_f,show ((0:Int) == 91) = false from rfl,cnd_f,show decide ((0:Int) ≥ 97) = false from rfl,cnd_f,show ((0:Int) == 40) = false from rfl,cnd_f,mark_end,bs]
   rfl
  ·obtain ⟨m,rfl⟩:∃ m',m = m' + 1:=⟨m - 1,by omega⟩
   show b_v (fN_i m) _ = _
   unfold b_v
   simp only
   rw [cnd_f,ba_size,decide_eq_true (by omega),cnd_t];rfl
 have hi':i < T.length:=by omega
 obtain ⟨b,hb⟩:∃ b,T[i] = b:=⟨_,rfl⟩
 have hq:T[i]? = some b:=by rw [List.getElem?_eq_getElem hi',hb]
 have nx:=next_at hi'
 have mk:=mark_at hT hi'
 have sl:=ssl_one hi'
 rw [hb] at nx mk sl
 have k123:(((b.toNat:Nat):Int) == 123) = decide (b = 123):=cnat b 123
 have k91:(((b.toNat:Nat):Int) == 91) = decide (b = 91):=cnat b 91
 have k40:(((b.toNat:Nat):Int) == 40) = decide (b = 40):=cnat b 40
 have s123:seqB (ba [b]) (ByteArray.mk #[123]) = decide (b = 123):=by
  rw [show ByteArray.mk #[123] = ba [123] from rfl,seqB_ba,Bool.eq_iff_iff];simp
 have s91:seqB (ba [b]) (ByteArray.mk #[91]) = decide (b = 91):=by
  rw [show ByteArray.mk #[91] = ba [91] from rfl,seqB_ba,Bool.eq_iff_iff];simp
 have s40:seqB (ba [b]) (ByteArray.mk #[40]) = decide (b = 40):=by
  rw [show ByteArray.mk #[40] = ba [40] from rfl,seqB_ba,Bool.eq_iff_iff];simp
 have hI:∀ m,fN_w (m + 1) ⟨ba T,(i:Int)⟩ = b_w (fN_r m) ⟨ba T,(i:Int)⟩:=fun m => rfl
 have hS:∀ m,fN_v (m + 1) ⟨ba T,(i:Int),false⟩ = b_v (fN_i m) ⟨ba T,(i:Int),false⟩:=fun m => rfl
 unfold b_w at hI
 unfold b_v at hS
 simp only [nx,bs,k123,k91,k40,mk] at hI
 have g1:decide ((i:Int) ≥ ((ba T).size:Int)) = false:=decide_eq_false (by rw [ba_size];omega)
 have g2:rng ((i:Int) + 1) = some ((i + 1:Nat):Int):=rng_of (by omega) (by omega)
 simp only [cnd_f,g1,g2,bs,sl,s123,s91,s40,letter_both,mark_both,isL_impl,isM_impl] at hS
 by_cases c1:b = 123
 ·subst c1
  obtain ⟨j,l,ok,e1,e2,e3,e4,e5⟩:=piece_both (c:=125) (n:=125) hT hi' (by rw [hb];decide) rfl 0
  refine ⟨j,l,l,ok,e1,e2,by omega,by omega,fun _ => rfl,fun m hm => ?_,fun m hm => ?_⟩
  ·obtain ⟨m,rfl⟩:∃ m',m = m' + 1:=⟨m - 1,by omega⟩
   rw [hI,show decide ((123:UInt8) = 123) = true from rfl,cnd_t,e4,bs]
  ·obtain ⟨m,rfl⟩:∃ m',m = m' + 1:=⟨m - 1,by omega⟩
   rw [hS,show decide ((123:UInt8) = 123) = true from rfl,cnd_t,show decide ((123:UInt8) = 91) = false from rfl,cnd_f]
   exact e5
 by_cases c2:b = 91
 ·subst c2
  obtain ⟨j,l,ok,e1,e2,e3,e4,e5⟩:=piece_both (c:=93) (n:=93) hT hi' (by rw [hb];decide) rfl 1
  refine ⟨j,l,l,ok,e1,e2,by omega,by omega,fun _ => rfl,fun m hm => ?_,fun m hm => ?_⟩
  ·obtain ⟨m,rfl⟩:∃ m',m = m' + 1:=⟨m - 1,by omega⟩
   rw [hI,show decide ((91:UInt8) = 123) = false from rfl,cnd_f,show decide ((91:UInt8) = 91) = true from rfl,cnd_t,e4,bs]
  ·obtain ⟨m,rfl⟩:∃ m',m = m' + 1:=⟨m - 1,by omega⟩
   rw [hS,show decide ((91:UInt8) = 123) = false from rfl,cnd_f,show decide ((91:UInt8) = 91) = true from rfl,cnd_t,cnd_t]
   exact e5
 simp only [decide_eq_false c1,decide_eq_false c2,cnd_f] at hI hS
 by_cases c3:isL b = true
 ·have c3':97 ≤ b.toNat ∧ b.toNat ≤ 122:=of_decide_eq_true c3
  refine ⟨i + 1,[SNode.mk 2 (ba [b]) ByteArray.empty],[SNode.mk 2 (ba [b]) ByteArray.empty],true,by omega,by omega,by simp;omega,by simp;omega,fun _ => rfl,fun m hm => ?_,fun m hm => ?_⟩
  ·obtain ⟨m,rfl⟩:∃ m',m = m' + 1:=⟨m - 1,by omega⟩
   rw [hI,decide_eq_true (by omega),cnd_t,decide_eq_true (by omega),cnd_t,g2,bs,b2s_one]
  ·obtain ⟨m,rfl⟩:∃ m',m = m' + 1:=⟨m - 1,by omega⟩
   rw [hS,c3,cnd_t];rfl
 have c3':¬ (97 ≤ b.toNat ∧ b.toNat ≤ 122):=fun h => c3 (decide_eq_true h)
 rw [Bool.not_eq_true] at c3
 simp only [c3,cnd_f] at hS
 by_cases c4:b = 40
 ·subst c4
  obtain ⟨j,l,l',ok,r,e1,e2,e3,e4,e5,e6,e7,e8⟩:=par_ok hT hi' hq (hP (i + 1) (by omega) (by omega))
  refine ⟨j,l,l',ok,by omega,e2,by omega,by omega,e5,fun m hm => ?_,fun m hm => ?_⟩
  ·obtain ⟨m,rfl⟩:∃ m',m = m' + 1:=⟨m - 1,by omega⟩
   rw [hI,show decide ((((40:UInt8).toNat:Nat):Int) ≥ 97) = false from rfl,cnd_f,show decide ((40:UInt8) = 40) = true from rfl,cnd_t,e6 m (by omega),bs]
  ·obtain ⟨m,rfl⟩:∃ m',m = m' + 1:=⟨m - 1,by omega⟩
   rw [hS,show decide ((40:UInt8) = 40) = true from rfl,cnd_t,e7 m (by omega),bs,e8,bs]
 simp only [decide_eq_false c4,cnd_f] at hI hS
 by_cases c5:isM b = true
 ·have c5':b.toNat < 97:=by
   unfold isM at c5
   simp only [Bool.or_eq_true,beq_iff_eq] at c5
   rcases c5 with e | e | e <;> (subst e;decide)
  simp only [decide_eq_false (show ¬ (((b.toNat:Nat):Int) ≥ 97) by omega),cnd_f,c5,if_true,Bool.not_true] at hI
  simp only [c5,cnd_t] at hS
  by_cases c6:T[i + 1]? = some 40
  ·have hi2:i + 1 < T.length:=by
    rcases Nat.lt_or_ge (i + 1) T.length with h | h
    ·exact h
    ·rw [List.getElem?_eq_none h] at c6;cases c6
   obtain ⟨j,l,l',ok,r,e1,e2,e3,e4,e5,e6,e7,e8⟩:=par_ok hT hi2 c6 (hP (i + 1 + 1) (by omega) (by omega))
   refine ⟨j,SNode.mk 5 ByteArray.empty (ba [b]) :: l,SNode.mk 5 ByteArray.empty (ba [b]) :: l',ok,by omega,e2,by simp;omega,by simp;omega,fun h => by rw [e5 h],fun m hm => ?_,fun m hm => ?_⟩
   ·obtain ⟨m,rfl⟩:∃ m',m = m' + 1:=⟨m - 1,by omega⟩
    rw [hI,e6 m (by omega),bs,nconcat (by simp) (by simp;omega),bs];simp
   ·obtain ⟨m,rfl⟩:∃ m',m = m' + 1:=⟨m - 1,by omega⟩
    rw [hS,take_spec (c:=40) (n:=40) hT rfl,bs,decide_eq_true c6,if_pos c6,Bool.not_true,e7 m (by omega),bs,e8,bs,appO_of (by simp;omega),bs];rfl
  ·refine ⟨i + 1,[SNode.mk 5 ByteArray.empty (ba [b])],[SNode.mk 5 ByteArray.empty (ba [b])],false,by omega,by omega,by simp;omega,by simp;omega,fun _ => rfl,fun m hm => ?_,fun m hm => ?_⟩
   ·obtain ⟨m,rfl⟩:∃ m',m = m' + 2:=⟨m - 2,by omega⟩
    have hp:fN_r (m + 1) ⟨ba T,((i + 1:Nat):Int)⟩ = some ([],false,⟨ba T,((i + 1:Nat):Int)⟩):=by
     show b_r (fN_j m) _ = _
     unfold b_r
     rw [take_impl (c:=40) (n:=40) hT (by omega) rfl,bs,decide_eq_false c6,if_neg c6,Bool.not_false,cnd_t]
    rw [hI,hp,bs,nconcat (by simp) (by simp),bs];simp
   ·obtain ⟨m,rfl⟩:∃ m',m = m' + 4:=⟨m - 4,by omega⟩
    rw [hS,take_spec (c:=40) (n:=40) hT rfl,bs,decide_eq_false c6,if_neg c6,Bool.not_false,spec_failed,bs,take_failed,bs,appO_of (by simp),bs];rfl
 rw [Bool.not_eq_true] at c5
 refine ⟨i,[],[],false,by omega,by omega,by simp,by simp,by simp,fun m hm => ?_,fun m hm => ?_⟩
 ·obtain ⟨m,rfl⟩:∃ m',m = m' + 1:=⟨m - 1,by omega⟩
  rw [hI,c5]
  cases c7:decide (((b.toNat:Nat):Int) ≥ 97) with
  | true =>
   have:=of_decide_eq_true c7
   rw [cnd_t,decide_eq_false (by omega),cnd_f];rfl
  | false => rfl
 ·obtain ⟨m,rfl⟩:∃ m',m = m' + 1:=⟨m - 1,by omega⟩
  rw [hS,c5];rfl
theorem term_loop (hT:T.length ≤ 300) (l0:List SNode) (j0:Int):∀ (n j:Nat) (l:List SNode),T.length - j ≤ n → j ≤ T.length → l.length + i ≤ j →
  ∃ (j2:Nat) (l2 l2':List SNode) (ok:Bool),j ≤ j2 ∧ j2 ≤ T.length ∧ l2.length + i ≤ j2 ∧ l2'.length + i ≤ j2 ∧ (ok = true → l2 = l2') ∧
   loopO l1_k (ba T,(j:Int),l,true) = some (ba T,(j2:Int),l2,ok) ∧
   ∃ r,loopO (l1_h (l0,⟨ba T,j0,false⟩)) ((j:Int),l) = some r ∧ (match r with | .inl r11 => some (r11.2,Sl36Reader.mk (ba T) r11.1 false) | .inr r11 => some r11) = some (l2',⟨ba T,(j2:Int),!ok⟩):=by
 intro n
 induction n with
 | zero =>
  intro j l hn hj hl
  have hq:T[j]? = none:=List.getElem?_eq_none (by omega)
  have c:¬ T[j]? = some 47:=by rw [hq];simp
  refine ⟨j,l,l,true,by omega,hj,hl,hl,fun _ => rfl,onceG ?_,.inl ((j:Int),l),onceG ?_,rfl⟩
  ·unfold l1_k
   simp only
   rw [cnd_t,take_impl (c:=47) (n:=47) hT hj rfl,bs,decide_eq_false c,if_neg c,cnd_f]
  ·unfold l1_h
   simp only [Bool.not_false]
   rw [cnd_t,is_spec (c:=47) (n:=47) rfl,bs,decide_eq_false c,cnd_f]
 | succ n ih =>
  intro j l hn hj hl
  by_cases c:T[j]? = some 47
  ·have hj':j < T.length:=by
    rcases Nat.lt_or_ge j T.length with h | h
    ·exact h
    ·rw [List.getElem?_eq_none h] at c;cases c
   have hI:l1_k (ba T,(j:Int),l,true) = (f_ah ⟨ba T,((j + 1:Nat):Int)⟩).bind fun r3 =>
     (f_y [[(SNode.mk 4 ByteArray.empty r3.1)],l]).bind fun r4 => some (.inl (r3.2.2.text,r3.2.2.at_,r4,r3.2.1)):=by
    unfold l1_k
    simp only
    rw [cnd_t,take_impl (c:=47) (n:=47) hT hj rfl,bs,decide_eq_true c,if_pos c,cnd_t]
   have g:rng ((j:Int) + 1) = some ((j + 1:Nat):Int):=rng_of (by omega) (by omega)
   have g':rng (((j + 1:Nat):Int) + 1) = some ((j + 2:Nat):Int):=rng_of (by omega) (by omega)
   have hS:l1_h (l0,⟨ba T,j0,false⟩) ((j:Int),l) = cond (decide (((j + 1:Nat):Int) ≥ ((ba T).size:Int))) (
      some (.inr (.inr ([],(Sl36Reader.mk (ba T) ((j + 1:Nat):Int) true))))) (
      (sslO (ba T) ((j + 1:Nat):Int) ((j + 2:Nat):Int)).bind fun v5 =>
      (f_aI v5).bind fun r6 =>
      cond (!r6) (
       some (.inr (.inr ([],(Sl36Reader.mk (ba T) ((j + 1:Nat):Int) true))))) (
       (sslO (ba T) ((j + 1:Nat):Int) ((j + 2:Nat):Int)).bind fun v8 =>
       (appO [(SNode.mk 4 ByteArray.empty v8)] l).bind fun v9 =>
       some (.inl (((j + 2:Nat):Int),v9)))):=by
    unfold l1_h
    simp only [Bool.not_false,g,bs,g']
    rw [cnd_t,is_spec (c:=47) (n:=47) rfl,bs,decide_eq_true c,cnd_t]
   have fail:f_ah ⟨ba T,((j + 1:Nat):Int)⟩ = some (ba [],false,⟨ba T,((j + 1:Nat):Int)⟩) → l1_h (l0,⟨ba T,j0,false⟩) ((j:Int),l) = some (.inr (.inr ([],(Sl36Reader.mk (ba T) ((j + 1:Nat):Int) true)))) →
     ∃ (j2:Nat) (l2 l2':List SNode) (ok:Bool),j ≤ j2 ∧ j2 ≤ T.length ∧ l2.length + i ≤ j2 ∧ l2'.length + i ≤ j2 ∧ (ok = true → l2 = l2') ∧
      loopO l1_k (ba T,(j:Int),l,true) = some (ba T,(j2:Int),l2,ok) ∧
      ∃ r,loopO (l1_h (l0,⟨ba T,j0,false⟩)) ((j:Int),l) = some r ∧ (match r with | .inl r11 => some (r11.2,Sl36Reader.mk (ba T) r11.1 false) | .inr r11 => some r11) = some (l2',⟨ba T,(j2:Int),!ok⟩):=by
    intro e1 e2
    refine ⟨j + 1,SNode.mk 4 ByteArray.empty (ba []) :: l,[],false,by omega,by omega,by simp;omega,by simp;omega,by simp,?_,_,onceG e2,rfl⟩
    rw [stepG (s':=(ba T,((j + 1:Nat):Int),SNode.mk 4 ByteArray.empty (ba []) :: l,false)) (by rw [hI,e1,bs,nconcat (by simp) (by simp;omega),bs];simp)]
    exact onceG rfl
   by_cases hN:j + 1 = T.length
   ·refine fail (by rw [hN];exact mark_end) ?_
    rw [hS,ba_size,decide_eq_true (by omega),cnd_t]
   ·have hj2:j + 1 < T.length:=by omega
    have hm:=mark_at hT hj2
    have hs:sslO (ba T) ((j + 1:Nat):Int) ((j + 2:Nat):Int) = _:=ssl_one hj2
    rw [ba_size,decide_eq_false (by omega),cnd_f,hs,bs,mark_both,isM_impl,bs] at hS
    cases hmk:isM T[j + 1] with
    | false =>
     rw [hmk] at hm hS
     exact fail hm hS
    | true =>
     rw [hmk] at hm hS
     rw [Bool.not_true,cnd_f,bs,appO_of (by simp;omega),bs] at hS
     have hI':l1_k (ba T,(j:Int),l,true) = some (.inl (ba T,((j + 2:Nat):Int),SNode.mk 4 ByteArray.empty (ba [T[j + 1]]) :: l,true)):=by
      rw [hI,hm,if_pos rfl,bs,nconcat (by simp) (by simp;omega),bs];simp;omega
     obtain ⟨j2,l2,l2',ok,a1,a2,a3,a4,a5,a6,r,a7,a8⟩:=ih (j + 2) (SNode.mk 4 ByteArray.empty (ba [T[j + 1]]) :: l) (by omega) (by omega) (by simp;omega)
     exact ⟨j2,l2,l2',ok,by omega,a2,a3,a4,a5,by rw [stepG hI'];exact a6,r,by rw [stepG hS];exact a7,a8⟩
  ·refine ⟨j,l,l,true,by omega,hj,hl,hl,fun _ => rfl,onceG ?_,.inl ((j:Int),l),onceG ?_,rfl⟩
   ·unfold l1_k
    simp only
    rw [cnd_t,take_impl (c:=47) (n:=47) hT hj rfl,bs,decide_eq_false c,if_neg c,cnd_f]
   ·unfold l1_h
    simp only [Bool.not_false]
    rw [cnd_t,is_spec (c:=47) (n:=47) rfl,bs,decide_eq_false c,cnd_f]
theorem term_both (hT:T.length ≤ 300) (hF:RdF T i (4 * (T.length - i) + 2) fN_w fN_v):RdF T i (4 * (T.length - i) + 3) fN_k fN_h:=by
 obtain ⟨j,l,l',ok,h1,h2,h3,h4,h5,h6,h7⟩:=hF
 have hI:∀ m,fN_k (m + 1) ⟨ba T,(i:Int)⟩ = b_k (fN_w m) ⟨ba T,(i:Int)⟩:=fun m => rfl
 have hS:∀ m,fN_h (m + 1) ⟨ba T,(i:Int),false⟩ = b_h (fN_v m) ⟨ba T,(i:Int),false⟩:=fun m => rfl
 unfold b_k at hI
 unfold b_h at hS
 cases ok with
 | false =>
  refine ⟨j,l,l',false,h1,h2,h3,h4,h5,fun m hm => ?_,fun m hm => ?_⟩
  ·obtain ⟨m,rfl⟩:∃ m',m = m' + 1:=⟨m - 1,by omega⟩
   rw [hI,h6 m (by omega),bs]
   simp only
   rw [onceG (body:=l1_k) (s:=(ba T,(j:Int),l,false)) (r:=(ba T,(j:Int),l,false)) rfl,bs]
  ·obtain ⟨m,rfl⟩:∃ m',m = m' + 1:=⟨m - 1,by omega⟩
   rw [hS,h7 m (by omega),bs]
   simp only
   rw [onceG (body:=l1_h (l',⟨ba T,(j:Int),!false⟩)) (s:=((j:Int),l')) (r:=.inl ((j:Int),l')) rfl,bs]
 | true =>
  have e:=h5 rfl
  subst e
  obtain ⟨j2,l2,l2',ok,a1,a2,a3,a4,a5,a6,r,a7,a8⟩:=term_loop (i:=i) hT l (j:Int) _ j l (Nat.le_refl _) h2 h3
  refine ⟨j2,l2,l2',ok,by omega,a2,a3,a4,a5,fun m hm => ?_,fun m hm => ?_⟩
  ·obtain ⟨m,rfl⟩:∃ m',m = m' + 1:=⟨m - 1,by omega⟩
   rw [hI,h6 m (by omega),bs]
   simp only
   rw [a6,bs]
  ·obtain ⟨m,rfl⟩:∃ m',m = m' + 1:=⟨m - 1,by omega⟩
   rw [hS,h7 m (by omega),bs]
   simp only [Bool.not_true]
   rw [a7,bs]
   exact a8
theorem prod_loop (hT:T.length ≤ 300):∀ (n j:Nat) (l l':List SNode) (ok:Bool),T.length - j ≤ n → j ≤ T.length → l.length + i ≤ j → l'.length + i ≤ j → (ok = true → l = l') →
  (∀ i',j < i' → i' ≤ T.length → RdF T i' (4 * (T.length - i') + 3) fN_k fN_h) →
  ∃ (j2:Nat) (l2 l2':List SNode) (ok2:Bool),j ≤ j2 ∧ j2 ≤ T.length ∧ l2.length + i ≤ j2 ∧ l2'.length + i ≤ j2 ∧ (ok2 = true → l2 = l2') ∧
   (∀ m,4 * (T.length - j) ≤ m → loopO (l1_j (fN_k m)) (ba T,(j:Int),l,ok) = some (ba T,(j2:Int),l2,ok2)) ∧
   (∀ m,4 * (T.length - j) ≤ m → loopO (l1_i (fN_h m)) (ba T,(j:Int),!ok,l') = some (ba T,(j2:Int),!ok2,l2')):=by
 intro n
 induction n with
 | zero =>
  intro j l l' ok hn hj hl hl' he _
  have hq:T[j]? = none:=List.getElem?_eq_none (by omega)
  have c:¬ T[j]? = some 43:=by rw [hq];simp
  refine ⟨j,l,l',ok,by omega,hj,hl,hl',he,fun m _ => onceG ?_,fun m _ => onceG ?_⟩
  ·unfold l1_j
   simp only
   cases ok with
   | false => rfl
   | true => rw [cnd_t,take_impl (c:=43) (n:=43) hT hj rfl,bs,decide_eq_false c,if_neg c,cnd_f]
  ·unfold l1_i
   simp only
   cases ok with
   | false => rfl
   | true =>
    simp only [Bool.not_true,Bool.not_false]
    rw [cnd_t,is_spec (c:=43) (n:=43) rfl,bs,decide_eq_false c,cnd_f]
 | succ n ih =>
  intro j l l' ok hn hj hl hl' he hTm
  cases ok with
  | false => exact ⟨j,l,l',false,by omega,hj,hl,hl',he,fun m _ => onceG rfl,fun m _ => onceG rfl⟩
  | true =>
  have e:=he rfl
  subst e
  by_cases c:T[j]? = some 43
  ·have hj':j < T.length:=by
    rcases Nat.lt_or_ge j T.length with h | h
    ·exact h
    ·rw [List.getElem?_eq_none h] at c;cases c
   obtain ⟨j1,l1,l1',ok1,b1,b2,b3,b4,b5,b6,b7⟩:=hTm (j + 1) (by omega) (by omega)
   obtain ⟨j2,l2,l2',ok2,a1,a2,a3,a4,a5,a6,a7⟩:=ih j1 (SNode.mk 3 ByteArray.empty ByteArray.empty :: (l ++ l1)) (SNode.mk 3 ByteArray.empty ByteArray.empty :: (l ++ l1')) ok1 (by omega) b2 (by simp;omega) (by simp;omega) (fun h => by rw [b5 h]) (fun i' h1 h2 => hTm i' (by omega) h2)
   refine ⟨j2,l2,l2',ok2,by omega,a2,a3,a4,a5,fun m hm => ?_,fun m hm => ?_⟩
   ·rw [stepG (s':=(ba T,(j1:Int),SNode.mk 3 ByteArray.empty ByteArray.empty :: (l ++ l1),ok1)) ?_]
    ·exact a6 m (by omega)
    ·unfold l1_j
     simp only
     rw [cnd_t,take_impl (c:=43) (n:=43) hT hj rfl,bs,decide_eq_true c,if_pos c,cnd_t,b6 m (by omega),bs,nconcat (by simp) (by simp;omega),bs];simp
   ·rw [stepG (s':=(ba T,(j1:Int),!ok1,SNode.mk 3 ByteArray.empty ByteArray.empty :: (l ++ l1'))) ?_]
    ·exact a7 m (by omega)
    ·unfold l1_i
     simp only [Bool.not_true,Bool.not_false]
     rw [cnd_t,is_spec (c:=43) (n:=43) rfl,bs,decide_eq_true c,cnd_t,rng_of (by omega) (by omega),bs,cs,b7 m (by omega),bs,appO_of (by simp;omega),bs,appO_of (by simp;omega),bs];simp
  ·refine ⟨j,l,l,true,by omega,hj,hl,hl,fun _ => rfl,fun m _ => onceG ?_,fun m _ => onceG ?_⟩
   ·unfold l1_j
    simp only
    rw [cnd_t,take_impl (c:=43) (n:=43) hT hj rfl,bs,decide_eq_false c,if_neg c,cnd_f]
   ·unfold l1_i
    simp only [Bool.not_true,Bool.not_false]
    rw [cnd_t,is_spec (c:=43) (n:=43) rfl,bs,decide_eq_false c,cnd_f]
theorem product_both (hT:T.length ≤ 300) (hF:RdF T i (4 * (T.length - i) + 3) fN_k fN_h) (hL:∀ i',i < i' → i' ≤ T.length → RdF T i' (4 * (T.length - i') + 3) fN_k fN_h) :
  RdF T i (4 * (T.length - i) + 4) fN_j fN_i:=by
 obtain ⟨j,l,l',ok,h1,h2,h3,h4,h5,h6,h7⟩:=hF
 obtain ⟨j2,l2,l2',ok2,a1,a2,a3,a4,a5,a6,a7⟩:=prod_loop (i:=i) hT _ j l l' ok (Nat.le_refl _) h2 h3 h4 h5 (fun i' g1 g2 => hL i' (by omega) g2)
 refine ⟨j2,l2,l2',ok2,by omega,a2,a3,a4,a5,fun m hm => ?_,fun m hm => ?_⟩
 ·obtain ⟨m,rfl⟩:∃ m',m = m' + 1:=⟨m - 1,by omega⟩
  show b_j (fN_k m) _ = _
  unfold b_j
  rw [h6 m (by omega),bs]
  simp only
  rw [a6 m (by omega),bs]
 ·obtain ⟨m,rfl⟩:∃ m',m = m' + 1:=⟨m - 1,by omega⟩
  show b_i (fN_h m) _ = _
  unfold b_i
  rw [h7 m (by omega),bs]
  simp only
  rw [a7 m (by omega),bs]
end
theorem read_both {T:Bs} (hT:T.length ≤ 300):∀ (n i:Nat),T.length - i ≤ n → i ≤ T.length →
  RdF T i (4 * (T.length - i) + 3) fN_k fN_h ∧ RdF T i (4 * (T.length - i) + 4) fN_j fN_i:=by
 intro n
 induction n with
 | zero =>
  intro i hn hi
  have ht:=term_both hT (factor_both hT hi fun i' h1 h2 => by omega)
  exact ⟨ht,product_both hT ht fun i' h1 h2 => by omega⟩
 | succ n ih =>
  intro i hn hi
  have ht:=term_both hT (factor_both hT hi fun i' h1 h2 => (ih i' (by omega) h2).2)
  exact ⟨ht,product_both hT ht fun i' h1 h2 => (ih i' (by omega) h2).1⟩
theorem parse_both (x:ByteArray):∃ l a e,f_aX x = some (l,a,e) ∧ f_bb x = some (l,a,e) ∧ l.length ≤ 30:=by
 obtain ⟨T,rfl,_⟩:=ba_ex x
 unfold f_aX f_bb
 rw [ba_size]
 by_cases c:(T.length:Int) > 300
 ·rw [decide_eq_true c];exact ⟨[],0,3,rfl,rfl,by simp⟩
 ·have hT:T.length ≤ 300:=by omega
  obtain ⟨j,l,l',ok,h1,h2,h3,h4,h5,h6,h7⟩:=(read_both hT T.length 0 (by omega) (by omega)).2
  have e1:f_j ⟨ba T,((0:Nat):Int)⟩ = _:=fuelO_of _ h6
  have e2:f_i ⟨ba T,((0:Nat):Int),false⟩ = _:=fuelO_of _ h7
  rw [decide_eq_false c,cnd_f,cnd_f,show (0:Int) = ((0:Nat):Int) from rfl,e1,bs,e2,bs]
  simp only
  cases ok with
  | false => exact ⟨[],(j:Int),6,rfl,rfl,by simp⟩
  | true =>
   have e:=h5 rfl
   subst e
   simp only [cnd_t,Bool.not_true,cnd_f]
   by_cases c2:(j:Int) < (T.length:Int)
   ·rw [decide_eq_true c2];exact ⟨[],(j:Int),6,rfl,rfl,by simp⟩
   ·rw [decide_eq_false c2,cnd_f]
    by_cases c3:(l.length:Int) > 30
    ·rw [decide_eq_true c3];exact ⟨[],0,3,rfl,rfl,by simp⟩
    ·rw [decide_eq_false c3];exact ⟨l,0,0,rfl,rfl,by omega⟩
theorem ParseExpression_plain (x0:ByteArray) (_v0:x0.size ≤ maxLen):f_bc x0 = some true:=by
 unfold f_bc
 cases decide ((x0.size:Int) > 1048576) with
 | true => rfl
 | false =>
 obtain ⟨l,a,e,e1,e2,e3⟩:=parse_both x0
 have ql:f_A l l = some true:=eqNodeS_self (by omega)
 have ml:=markNodeS_ok (x:=l) (k:=1) (by omega) (by omega) (by omega)
 have hl:=heldNodeS_ok (n:=l.length) (k:=1) (by omega) (by omega) (by omega)
 have d2:decide (1 + 3 * (l.length:Int) < 0) = false:=decide_eq_false (by omega)
 rw [cnd_f]
 simp only [bs,e1,e2,ql,ml,hl,d2,Bool.not_true,cnd_f,bne_self_eq_false]
end Go.Pl
