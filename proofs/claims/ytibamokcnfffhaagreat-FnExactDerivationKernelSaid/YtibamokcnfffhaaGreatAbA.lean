/- The program's DerivationKernel returns what the reference's returns,for all arguments;no conditions. -/
import Derived.Orders
import Derived.Laws.AppendOwn
import Derived.Laws.MakeOwn
import Derived.Great.BuildSlice
import Derived.Laws.Tables
open List renaming replicate→J1,getElem?_eq_some_iff→J8,length_append→J9,mem_map→Ja,append_assoc→Jb,getElem?_append_right→Jd,append_nil→Je,map_cons→Jg,length_cons→Jh,getElem?_map→Jj,mem_cons→Jl,mem_append→Jq,eq_nil_of_length_eq_zero→Jr,all_eq_true→Ju,replicate_succ→Jz,getElem?_append→K2,nil_append→K3,getElem?_append_left→K5,nodup_cons→K7,set_cons_zero→K8,set_cons_succ→K9,reverse_reverse→Kc,mem_range→Kd,take_succ_cons→Kj,mem_of_getElem?→Kk,cons_append→Kl,length_replicate→Kn,length_take→Kr,length_set→Ku,flatMap_cons→Kv,ext_getElem?→Kw,getElem?_drop→L1,contains_eq_mem→L2,map_nil→Ly,reverse_nil→H5,drop_eq_getElem_cons→H6,length_nil→G7,reverse_cons→Ga,map_take→Gd,getElem?_take_of_lt→Gl,reverse_append→Uo,take_append→Q4,isEmpty_iff→Q6,getElem?_cons_succ→Q9,flatMap_append→Qa,cons→Qb,take_append_drop→Qg,size_toArray→Jb5
open Bool renaming and_eq_true→J2,false_eq_true→La,not_eq_true'→H0,false_and→Qf,true_and→Jb7
open Nat renaming zero_add→J6,le_refl→Ji,succ_mul→Kz,mul_le_mul_right→L3,add_assoc→L9,le_trans→Lb,add_mul→Lh,lt_or_ge→Hv,mul_le_mul→Gi,min_eq_left→Gx,add_zero→U1,lt_of_lt_of_le→Uw
open Array renaming getElem?_setIfInBounds→J7,length_toList→Jv,getD_eq_getD_getElem?→Jx,getElem?_toList→K4,getElem?_eq_some_iff→Ky,range→Ja2,ext'→Jau
open Int renaming toNat_natCast→Jn,natCast_mul→Qe
open Option renaming isSome_none→Uf,map_none→Q8
open Prod renaming mk→Us
open Option renaming some→aN,none→aO
open Bool renaming true→aP,false→aQ
theorem aR{p:Prop}[h:Decidable p](a:¬p):decide p=false:=decide_eq_false a
theorem aS{p:Prop}[h:Decidable p](a:p):decide p=true:=decide_eq_true a
namespace Go.Ab
open Go
inductive T where
 |any
 |lit (v:Value)
 |ro (t:T)
 |same (r:Nat) (p:List Nat)
 |addr (r:Nat) (p:List Nat)
 |sub (r:Nat) (p:List Nat) (k lo hi:Nat)
 |sl (k:Nat) (xs:List T)
 |agg (xs:List T)
 |ptr (t:T)
 |tup (xs:List T)
 deriving Inhabited
abbrev Stb:=Nat→Option Obj
mutual
def T.size:T→Nat
 |.agg xs=>T.sizes xs
 |_=>1
def T.sizes:List T→Nat
 | []=>0
 |x::xs=>x.size+T.sizes xs
end
mutual
def RoC(St:Stb):T→Array Value→Nat→Prop
 |.any,cs,o=> ∃v,cs[o]? =aN v∧v.oneCell'=aP
 |.lit v,cs,o=>cs[o]? =aN v∧v.oneCell'=aP
 |.ro u,cs,o=> ∃f vs,cs[o]? =aN (.func (.func f) #[] vs)∧vs.size+1=u.size∧RoC St u (#[.func (.func f) #[] #[]]++vs) 0
 |.sl k xs,cs,o=> ∃a c,cs[o]? =aN (.slice a xs.length c)∧xs.length≤c∧c≤maxLen∧
   (xs≠[]→ ∃b o' cs' e fr,a=aN ⟨b,o',aO⟩∧St b=aN (.cells cs' e fr)∧RoL St xs cs' o' k)
 |.agg xs,cs,o=>RoF St xs cs o
 |.ptr t,cs,o=> ∃b o' cs' e fr,cs[o]? =aN (.pointer (aN ⟨b,o',aO⟩))∧St b=aN (.cells cs' e fr)∧RoC St t cs' o'
 |.same _ _,_,_=>False
 |.addr _ _,_,_=>False
 |.sub _ _ _ _ _,_,_=>False
 |.tup _,_,_=>False
def RoL(St:Stb):List T→Array Value→Nat→Nat→Prop
 | [],_,_,_=>True
 |x::xs,cs,o,k=>RoC St x cs o∧RoL St xs cs (o+k) k
def RoF(St:Stb):List T→Array Value→Nat→Prop
 | [],_,_=>True
 |x::xs,cs,o=>RoC St x cs o∧RoF St xs cs (o+x.size)
end
structure Gh where
 hd:Nat→List Nat→Value
 ad:Nat→List Nat→Addr
 lb:Nat→Nat→Option (Bool×Nat×List Nat)
 ow:Nat→Option (Nat×List Nat)
def yA(w:World)(b o:Nat):Option Value:=w.cell? ⟨b,o,aO⟩
mutual
def Loc(G:Gh)(w:World)(s:Nat):T→List Nat→Nat→Nat→Prop
 |.agg xs,p,b,o=>G.ad s p=⟨b,o,aO⟩∧wB G w s xs p 0 b o
 |.tup _,_,_,_=>False
 |.any,p,b,o|.lit _,p,b,o|.ro _,p,b,o|.same _ _,p,b,o|.addr _ _,p,b,o|.sub _ _ _ _ _,p,b,o|.sl _ _,p,b,o|.ptr _,p,b,o=>
  G.ad s p=⟨b,o,aO⟩∧G.lb b o=aN (aQ,s,p)∧yA w b o=aN (G.hd s p)
def wB(G:Gh)(w:World)(s:Nat):List T→List Nat→Nat→Nat→Nat→Prop
 | [],_,_,_,_=>True
 |x::xs,p,j,b,o=>Loc G w s x (j::p) b o∧wB G w s xs p (j+1) b (o+x.size)
end
def jI(v:Value)(k lo hi:Nat):Value:=
 match v with
 |.slice a _ c=>.slice (if c=lo then a else a.map (·.add (lo*k))) (hi-lo) (c-lo)
 |v=>v
mutual
def R(St:Stb)(G:Gh)(w:World)(s:Nat):T→List Nat→Prop
 |.any,_=>True
 |.lit v,p=>G.hd s p=v
 |.ro t,p=>RoC St t #[G.hd s p] 0
 |.same r q,p=>G.hd s p=G.hd r q
 |.addr r q,p=>G.hd s p=.pointer (aN (G.ad r q))
 |.sub r q k lo hi,p=>G.hd s p=jI (G.hd r q) k lo hi
 |.sl k xs,p=>(xs=[]∧ ∃a,G.hd s p=.slice a 0 0)∨ ∃b o0 cap cs e,G.hd s p=.slice (aN ⟨b,o0,aO⟩) xs.length cap∧
   w.heap[b]? =aN (.cells cs e (0,0))∧xs.length≤cap∧cap≤maxLen∧o0+cap*k≤cs.size∧G.ow b=aN (s,p)∧
   (∀o,o0+xs.length*k≤o→o<o0+cap*k→G.lb b o=aN (aP,s,p))∧RL St G w s xs p 0 b o0 k
 |.agg xs,p=>RF St G w s xs p 0
 |.ptr t,p=> ∃b cs e,G.hd s p=.pointer (aN ⟨b,0,aO⟩)∧w.heap[b]? =aN (.cells cs e (0,0))∧cs.size=t.size∧G.ow b=aN (s,p)∧
   Loc G w s t (0::p) b 0∧R St G w s t (0::p)
 |.tup xs,p=>RF St G w s xs p 0
def RL(St:Stb)(G:Gh)(w:World)(s:Nat):List T→List Nat→Nat→Nat→Nat→Nat→Prop
 | [],_,_,_,_,_=>True
 |x::xs,p,i,b,o,k=>(Loc G w s x (i::p) b o∧x.size=k)∧R St G w s x (i::p)∧RL St G w s xs p (i+1) b (o+k) k
def RF(St:Stb)(G:Gh)(w:World)(s:Nat):List T→List Nat→Nat→Prop
 | [],_,_=>True
 |x::xs,p,j=>R St G w s x (j::p)∧RF St G w s xs p (j+1)
end
mutual
def yD(φ:Nat→List Nat→Prop):T→Prop
 |.same r p|.addr r p|.sub r p _ _ _=>φ r p
 |.sl _ xs|.agg xs|.tup xs=>yQ φ xs
 |.ptr t=>yD φ t
 |.any|.lit _|.ro _=>True
def yQ(φ:Nat→List Nat→Prop):List T→Prop
 | []=>True
 |x::xs=>yD φ x∧yQ φ xs
end
mutual
theorem yD.mono{φ ψ:Nat→List Nat→Prop}(h:∀r p,φ r p→ψ r p):(t:T)→yD φ t→yD ψ t
 |.same _ _,ht|.addr _ _,ht|.sub _ _ _ _ _,ht=>h _ _ ht
 |.sl _ xs,ht|.agg xs,ht|.tup xs,ht=>by simp only[yD]at ht ⊢;exact yQ.mono h xs ht
 |.ptr t,ht=>by simp only[yD]at ht ⊢;exact yD.mono h t ht
 |.any,_|.lit _,_|.ro _,_=>by simp[yD]
theorem yQ.mono{φ ψ:Nat→List Nat→Prop}(h:∀r p,φ r p→ψ r p):(xs:List T)→yQ φ xs→yQ ψ xs
 | [],_=>trivial
 |x::xs,hx=>⟨yD.mono h x hx.1,yQ.mono h xs hx.2⟩
end
mutual
theorem yD.triv{φ:Nat→List Nat→Prop}(h:∀r p,φ r p):(t:T)→yD φ t
 |.same _ _|.addr _ _|.sub _ _ _ _ _=>by simp only[yD];exact h _ _
 |.sl _ xs|.agg xs|.tup xs=>by simp only[yD];exact yQ.triv h xs
 |.ptr t=>by simp only[yD];exact yD.triv h t
 |.any|.lit _|.ro _=>by simp only[yD]
theorem yQ.triv{φ:Nat→List Nat→Prop}(h:∀r p,φ r p):(xs:List T)→yQ φ xs
 | []=>by simp only[yQ]
 |x::xs=>by simp only[yQ];exact⟨yD.triv h x,yQ.triv h xs⟩
end
abbrev zO(t:T):Prop:=yD (fun _ _=>False) t
abbrev yB(xs:List T):Prop:=yQ (fun _ _=>False) xs
def Blk(w w':World):Prop:=∀(b:Nat) cs e,w.heap[b]? =aN (.cells cs e (0,0))→ ∃cs',w'.heap[b]? =aN (.cells cs' e (0,0))∧cs'.size=cs.size
structure MovesE (G:Gh) (w:World) (G':Gh) (w':World) (s:Nat) (p:List Nat) (s':Nat) (p':List Nat):Prop where
 hd:∀z,G'.hd s' (z++p')=G.hd s (z++p)
 ad:∀z,z≠[]→G'.ad s' (z++p')=G.ad s (z++p)
 lb:∀b o f z,z≠[]→(∃y,G.ow b=aN (s,y))→G.lb b o=aN (f,s,z++p)→G'.lb b o=aN (f,s',z++p')∧yA w' b o=yA w b o
 ow:∀b z,z≠[]→G.ow b=aN (s,z++p)→G'.ow b=aN (s',z++p')
 blk:Blk w w'
structure zD9 (G:Gh) (w:World) (G':Gh) (w':World) (s:Nat) (p:List Nat) (s':Nat) (p':List Nat):Prop extends MovesE G w G' w' s p s' p' where
 sp:∀b o,(∃y,G.ow b=aN (s,y))→G.lb b o=aN (aP,s,p)→G'.lb b o=aN (aP,s',p')∧yA w' b o=yA w b o
 ow0:∀b,G.ow b=aN (s,p)→G'.ow b=aN (s',p')
def sO(G G':Gh)(r:Nat)(p:List Nat):Prop:=G'.hd r p=G.hd r p∧G'.ad r p=G.ad r p
section
variable {St:Stb}{G:Gh}{w:World}{G':Gh}{w':World}{s:Nat}{p:List Nat}{s':Nat}{p':List Nat}
mutual
theorem zBH(hm:MovesE G w G' w' s p s' p'):(t:T)→ ∀(z:List Nat)(b o:Nat),z≠[]→(∃y,G.ow b=aN (s,y))→Loc G w s t (z++p) b o→Loc G' w' s' t (z++p') b o
 |.agg xs,z,b,o,hz,gO,h=>by
  simp only[Loc]at h ⊢
  exact⟨(hm.ad z hz).trans h.1,zEY hm xs z 0 b o gO h.2⟩
 |.any,z,b,o,hz,gO,h|.lit _,z,b,o,hz,gO,h|.ro _,z,b,o,hz,gO,h|.same _ _,z,b,o,hz,gO,h|.addr _ _,z,b,o,hz,gO,h|.sub _ _ _ _ _,z,b,o,hz,gO,h|.sl _ _,z,b,o,hz,gO,h|.ptr _,z,b,o,hz,gO,h=>by
  simp only[Loc]at h ⊢
  obtain⟨h1,h2,h3⟩:=h;have hl:=hm.lb b o aQ z hz gO h2;exact⟨(hm.ad z hz).trans h1,hl.1,by rw[hl.2,h3,hm.hd]⟩
 |.tup _,_,_,_,_,_,h=>by simp only[Loc]at h
theorem zEY(hm:MovesE G w G' w' s p s' p'):(xs:List T)→ ∀(z:List Nat)(j b o:Nat),(∃y,G.ow b=aN (s,y))→wB G w s xs (z++p) j b o→wB G' w' s' xs (z++p') j b o
 | [],_,_,_,_,_,_=>by simp only[wB]
 |x::xs,z,j,b,o,gO,h=>by
  simp only[wB]at h ⊢
  exact⟨zBH hm x (j::z) b o (by simp) gO h.1,zEY hm xs z (j+1) b _ gO h.2⟩
end
mutual
theorem zBI(hm:MovesE G w G' w' s p s' p'):(t:T)→ ∀(z:List Nat),z≠[]→yD (sO G G') t→R St G w s t (z++p)→R St G' w' s' t (z++p')
 |.any,_,_,_,_=>by simp only[R]
 |.lit _,z,_,_,h=>by simp only[R]at h ⊢;rw[hm.hd];exact h
 |.ro _,z,_,_,h=>by simp only[R]at h ⊢;rw[hm.hd];exact h
 |.same r q,z,_,hk,h=>by simp only[R]at h ⊢;rw[hm.hd,hk.1];exact h
 |.addr r q,z,_,hk,h=>by simp only[R]at h ⊢;rw[hm.hd,hk.2];exact h
 |.sub r q k lo hi,z,_,hk,h=>by simp only[R]at h ⊢;rw[hm.hd,hk.1];exact h
 |.agg xs,z,_,hk,h=>by simp only[R,yD]at h hk ⊢;exact zBJ hm xs z 0 hk h
 |.tup xs,z,_,hk,h=>by simp only[R,yD]at h hk ⊢;exact zBJ hm xs z 0 hk h
 |.sl k xs,z,hz,hk,h=>by
  simp only[R,yD]at h hk ⊢
  rw[hm.hd];rcases h with h|⟨b,o0,cap,cs,e,h1,h2,h3,h4,h5,h6,h7,h8⟩
  ·exact .inl h
  ·obtain⟨cs',eO,gu⟩:=hm.blk b cs e h2
   exact .inr ⟨b,o0,cap,cs',e,h1,eO,h3,h4,by omega,hm.ow b z hz h6,fun o ho fc=>(hm.lb b o aP z hz ⟨_,h6⟩ (h7 o ho (by omega))).1,zFT hm xs z 0 b o0 k ⟨_,h6⟩ hk h8⟩
 |.ptr t,z,hz,hk,h=>by
  simp only[R,yD]at h hk ⊢
  rw[hm.hd];obtain⟨b,cs,e,h1,h2,h3,h6,h4,h5⟩:=h;obtain⟨cs',eO,gu⟩:=hm.blk b cs e h2;exact⟨b,cs',e,h1,eO,by omega,hm.ow b z hz h6,zBH hm t (0::z) b 0 (by simp) ⟨_,h6⟩ h4,zBI hm t (0::z) (by simp) hk h5⟩
theorem zFT(hm:MovesE G w G' w' s p s' p'):(xs:List T)→ ∀(z:List Nat)(i b o k:Nat),(∃y,G.ow b=aN (s,y))→yQ (sO G G') xs→RL St G w s xs (z++p) i b o k→RL St G' w' s' xs (z++p') i b o k
 | [],_,_,_,_,_,_,_,_=>by simp only[RL]
 |x::xs,z,i,b,o,k,gO,hk,h=>by
  simp only[RL,yQ]at h hk ⊢
  exact⟨⟨zBH hm x (i::z) b o (by simp) gO h.1.1,h.1.2⟩,zBI hm x (i::z) (by simp) hk.1 h.2.1,zFT hm xs z (i+1) b _ k gO hk.2 h.2.2⟩
theorem zBJ(hm:MovesE G w G' w' s p s' p'):(xs:List T)→ ∀(z:List Nat)(j:Nat),yQ (sO G G') xs→RF St G w s xs (z++p) j→RF St G' w' s' xs (z++p') j
 | [],_,_,_,_=>by simp only[RF]
 |x::xs,z,j,hk,h=>by
  simp only[RF,yQ]at h hk ⊢
  exact⟨zBI hm x (j::z) (by simp) hk.1 h.1,zBJ hm xs z (j+1) hk.2 h.2⟩
end
theorem tU(hm:zD9 G w G' w' s p s' p')(t:T)(hk:yD (sO G G') t)(h:R St G w s t p):R St G' w' s' t p':=by
 have hd0:G'.hd s' p'=G.hd s p:=by simpa using hm.hd []
 cases t with
 |any=>simp only[R]
 |lit _=>simp only[R]at h ⊢;rw[hd0];exact h
 |ro _=>simp only[R]at h ⊢;rw[hd0];exact h
 |same r q=>simp only[R]at h ⊢;rw[hd0,hk.1];exact h
 |addr r q=>simp only[R]at h ⊢;rw[hd0,hk.2];exact h
 |sub r q k lo hi=>simp only[R]at h ⊢;rw[hd0,hk.1];exact h
 |agg xs=>simp only[R,yD]at h hk ⊢;simpa using zBJ hm.toMovesE xs [] 0 hk (by simpa using h)
 |tup xs=>simp only[R,yD]at h hk ⊢;simpa using zBJ hm.toMovesE xs [] 0 hk (by simpa using h)
 |sl k xs=>
  simp only[R,yD]at h hk ⊢
  rw[hd0];rcases h with h|⟨b,o0,cap,cs,e,h1,h2,h3,h4,h5,h6,h7,h8⟩
  ·exact .inl h
  ·obtain⟨cs',eO,gu⟩:=hm.blk b cs e h2
   exact .inr ⟨b,o0,cap,cs',e,h1,eO,h3,h4,by omega,hm.ow0 b h6,fun o ho fc=>(hm.sp b o ⟨_,h6⟩ (h7 o ho (by omega))).1,by simpa using zFT hm.toMovesE xs [] 0 b o0 k ⟨_,h6⟩ hk (by simpa using h8)⟩
 |ptr t=>
  simp only[R,yD]at h hk ⊢
  rw[hd0];obtain⟨b,cs,e,h1,h2,h3,h6,h4,h5⟩:=h;obtain⟨cs',eO,gu⟩:=hm.blk b cs e h2;exact⟨b,cs',e,h1,eO,by omega,hm.ow0 b h6,zBH hm.toMovesE t [0] b 0 (by simp) ⟨_,h6⟩ h4,zBI hm.toMovesE t [0] (by simp) hk h5⟩
theorem zLw(hm:zD9 G w G' w' s p s' p')(t:T)(z:List Nat)(hk:yD (sO G G') t)(h:R St G w s t (z++p)):R St G' w' s' t (z++p'):=by
 cases z with
 |nil=>exact tU hm t hk h
 |cons i z=>exact zBI hm.toMovesE t (i::z) (by simp) hk h
end
end Go.Ab

namespace Go.Ab
open Go
def T.get:T→List Nat→Option T
 |t,[]=>aN t
 |.sl _ xs,i::f|.agg xs,i::f|.tup xs,i::f=>match xs[i]? with
  |some x=>x.get f
  |none=>aO
 |.ptr t,i::f=>if i=0 then t.get f else aO
 |.any,_::_|.lit _,_::_|.ro _,_::_|.same _ _,_::_|.addr _ _,_::_|.sub _ _ _ _ _,_::_=>aO
termination_by structural _ f=>f
def T.set:T→List Nat→T→T
 |_,[],u=>u
 |.sl k xs,i::f,u=>match xs[i]? with
  |some x=>.sl k (xs.set i (x.set f u))
  |none=>.sl k xs
 |.agg xs,i::f,u=>match xs[i]? with
  |some x=>.agg (xs.set i (x.set f u))
  |none=>.agg xs
 |.tup xs,i::f,u=>match xs[i]? with
  |some x=>.tup (xs.set i (x.set f u))
  |none=>.tup xs
 |.ptr t,i::f,u=>if i=0 then .ptr (t.set f u)else .ptr t
 |.any,_::_,_=>.any
 |.lit v,_::_,_=>.lit v
 |.ro t,_::_,_=>.ro t
 |.same r q,_::_,_=>.same r q
 |.addr r q,_::_,_=>.addr r q
 |.sub r q k lo hi,_::_,_=>.sub r q k lo hi
termination_by structural _ f _=>f
def T.locd:T→List Nat→Bool
 |_,[]=>aQ
 |.sl _ _,_::_|.ptr _,_::_=>aP
 |.agg xs,i::f|.tup xs,i::f=>match xs[i]? with
  |some x=>x.locd f
  |none=>aQ
 |.any,_::_|.lit _,_::_|.ro _,_::_|.same _ _,_::_|.addr _ _,_::_|.sub _ _ _ _ _,_::_=>aQ
termination_by structural _ f=>f
abbrev rp(f p:List Nat):List Nat:=f.reverse++p
theorem qP(i:Nat)(f p:List Nat):rp (i::f) p=rp f (i::p):=by simp[rp]
section
variable {St:Stb}{G:Gh}{w:World}{s:Nat}
theorem uD:(xs:List T)→ ∀(p:List Nat)(i0 b o k i:Nat)(x:T),RL St G w s xs p i0 b o k→xs[i]? =aN x→
  Loc G w s x ((i0+i)::p) b (o+i*k)∧x.size=k∧R St G w s x ((i0+i)::p)
 | [],_,_,_,_,_,_,_,_,h=>by simp at h
 |y::ys,p,i0,b,o,k,i,x,hr,h=>by
  simp only[RL]at hr;cases i with
  |zero=>
   simp at h;subst h;simpa using⟨hr.1.1,hr.1.2,hr.2.1⟩
  |succ i=>
   have:=uD ys p (i0+1) b (o+k) k i x hr.2.2 (by simpa using h);rw[show i0+(i+1)=i0+1+i from by omega,show o+(i+1)*k=o+k+i*k from by rw[Kz];omega];exact this
theorem jA:(xs:List T)→ ∀(p:List Nat)(j i:Nat)(x:T),RF St G w s xs p j→xs[i]? =aN x→R St G w s x ((j+i)::p)
 | [],_,_,_,_,_,h=>by simp at h
 |y::ys,p,j,i,x,hr,h=>by
  simp only[RF]at hr;cases i with
  |zero=>simp at h;subst h;simpa using hr.1
  |succ i=>
   have:=jA ys p (j+1) i x hr.2 (by simpa using h)
   rwa [show j+(i+1)=j+1+i from by omega]
theorem zGJ:(xs:List T)→ ∀(p:List Nat)(j b o i:Nat)(x:T),wB G w s xs p j b o→xs[i]? =aN x→
  ∃o',Loc G w s x ((j+i)::p) b o'∧o≤o'∧o'+x.size≤o+T.sizes xs
 | [],_,_,_,_,_,_,_,h=>by simp at h
 |y::ys,p,j,b,o,i,x,hr,h=>by
  simp only[wB]at hr;cases i with
  |zero=>simp at h;subst h;exact⟨o,by simpa using hr.1,by omega,by simp[T.sizes]⟩
  |succ i=>
   obtain⟨o',h1,h2,h3⟩:=zGJ ys p (j+1) b (o+y.size) i x hr.2 (by simpa using h);refine⟨o',?_,by omega,by simp only[T.sizes];omega⟩
   rwa [show j+(i+1)=j+1+i from by omega]
def At(G:Gh)(w:World)(s:Nat)(t:T)(p:List Nat):Prop:=
 ∃b o cs e,Loc G w s t p b o∧w.heap[b]? =aN (.cells cs e (0,0))∧o+t.size≤cs.size
theorem At.field{xs:List T}{p:List Nat}(h:At G w s (.agg xs) p){i:Nat}{x:T}(hx:xs[i]? =aN x):At G w s x (i::p):=by obtain⟨b,o,cs,e,hl,hh,hs⟩:=h;simp only[Loc]at hl;obtain⟨o',h1,h2,h3⟩:=zGJ xs p 0 b o i x hl.2 hx;simp only[T.size]at hs;exact⟨b,o',cs,e,by simpa using h1,hh,by omega⟩
theorem zAG{k:Nat}{xs:List T}{p:List Nat}(h:R St G w s (.sl k xs) p){i:Nat}{x:T}(hx:xs[i]? =aN x):
  At G w s x (i::p)∧R St G w s x (i::p):=by
 simp only[R]at h;have hi:=(J8.1 hx).1;rcases h with⟨rfl,_⟩|⟨b,o0,cap,cs,e,h1,h2,h3,h4,h5,h6,h7,h8⟩
 ·simp at hx
 ·obtain⟨a1,a2,a3⟩:=uD xs p 0 b o0 k i x h8 hx
  simp only[J6]at a1 a3;refine⟨⟨b,o0+i*k,cs,e,a1,h2,?_⟩,a3⟩;rw[a2,L9,←Kz];exact Lb (Nat.add_le_add_left (L3 _ (by omega)) _) h5
theorem jJ{t:T}{p:List Nat}(h:R St G w s (.ptr t) p):At G w s t (0::p)∧R St G w s t (0::p):=by simp only[R]at h;obtain⟨b,cs,e,h1,h2,h3,h6,h4,h5⟩:=h;exact⟨⟨b,0,cs,e,h4,h2,by omega⟩,h5⟩
theorem sY:(f:List Nat)→ ∀(t u:T)(p:List Nat),At G w s t p→R St G w s t p→t.get f=aN u→At G w s u (rp f p)∧R St G w s u (rp f p)
 | [],t,u,p,ha,h,hg=>by simp[T.get]at hg;subst hg;simpa[rp]using⟨ha,h⟩
 |i::f,t,u,p,ha,h,hg=>by
  rw[qP];cases t with
  |sl k xs=>
   simp only[T.get]at hg;cases hx:xs[i]? with
   |none=>simp[hx]at hg
   |some x=>rw[hx]at hg;exact sY f x u _ (zAG h hx).1 (zAG h hx).2 hg
  |ptr t=>
   simp only[T.get]at hg;split at hg
   ·rename_i hi;subst hi;exact sY f t u _ (jJ h).1 (jJ h).2 hg
   ·cases hg
  |agg xs=>
   simp only[T.get]at hg;cases hx:xs[i]? with
   |none=>simp[hx]at hg
   |some x=>rw[hx]at hg;exact sY f x u _ (ha.field hx) (by simp only[R]at h;simpa using jA xs p 0 i x h hx) hg
  |tup xs=>obtain⟨b,o,cs,e,hl,_⟩:=ha;simp only[Loc]at hl
  |_=>simp[T.get]at hg
theorem kY:(f:List Nat)→ ∀(t u:T)(p:List Nat),R St G w s t p→t.get f=aN u→R St G w s u (rp f p)∧(t.locd f=aP→At G w s u (rp f p))
 | [],t,u,p,h,hg=>by simp[T.get]at hg;subst hg;simpa[rp,T.locd]using h
 |i::f,t,u,p,h,hg=>by
  rw[qP];cases t with
  |sl k xs=>
   simp only[T.get]at hg;cases hx:xs[i]? with
   |none=>simp[hx]at hg
   |some x=>rw[hx]at hg;exact⟨(sY f x u _ (zAG h hx).1 (zAG h hx).2 hg).2,fun _=>(sY f x u _ (zAG h hx).1 (zAG h hx).2 hg).1⟩
  |ptr t=>
   simp only[T.get]at hg;split at hg
   ·rename_i hi;subst hi;exact⟨(sY f t u _ (jJ h).1 (jJ h).2 hg).2,fun _=>(sY f t u _ (jJ h).1 (jJ h).2 hg).1⟩
   ·cases hg
  |agg xs=>
   simp only[T.get,T.locd]at hg ⊢
   cases hx:xs[i]? with
   |none=>simp[hx]at hg
   |some x=>rw[hx]at hg;exact kY f x u _ (by simp only[R]at h;simpa using jA xs p 0 i x h hx) hg
  |tup xs=>
   simp only[T.get,T.locd]at hg ⊢
   cases hx:xs[i]? with
   |none=>simp[hx]at hg
   |some x=>rw[hx]at hg;exact kY f x u _ (by simp only[R]at h;simpa using jA xs p 0 i x h hx) hg
  |_=>simp[T.get]at hg
end
structure Upd (G:Gh) (w:World) (G':Gh) (w':World) (s:Nat) (tgt:List Nat):Prop where
 hd:∀p,¬tgt<:+p→G'.hd s p=G.hd s p
 ad:∀p,¬tgt<:+p→G'.ad s p=G.ad s p
 lb:∀b o f p,G.lb b o=aN (f,s,p)→ ¬tgt<:+p→G'.lb b o=aN (f,s,p)∧yA w' b o=yA w b o
 ow:∀b p,G.ow b=aN (s,p)→ ¬tgt<:+p→G'.ow b=aN (s,p)
 blk:Blk w w'
section
variable {St:Stb}{G:Gh}{w:World}{G':Gh}{w':World}{s:Nat}{tgt:List Nat}
theorem Upd.moves(h:Upd G w G' w' s tgt){p:List Nat}(hp:∀z,¬tgt<:+z++p):zD9 G w G' w' s p s p where
 hd z:=h.hd _ (hp z)
 ad z _:=h.ad _ (hp z)
 lb b o f z _ _ hl:=h.lb b o f _ hl (hp z)
 ow b z _ hl:=h.ow b _ hl (hp z)
 sp b o _ hl:=h.lb b o aP p hl (hp [])
 ow0 b hl:=h.ow b p hl (hp [])
 blk:=h.blk
mutual
theorem zBK(hm:Upd G w G' w' s tgt):(t:T)→ ∀(p:List Nat)(b o:Nat),(∀z,¬tgt<:+z++p)→Loc G w s t p b o→Loc G' w' s t p b o
 |.agg xs,p,b,o,hz,h=>by
  simp only[Loc]at h ⊢
  exact⟨(hm.ad p (hz [])).trans h.1,zGK hm xs p 0 b o hz h.2⟩
 |.any,p,b,o,hz,h|.lit _,p,b,o,hz,h|.ro _,p,b,o,hz,h|.same _ _,p,b,o,hz,h|.addr _ _,p,b,o,hz,h|.sub _ _ _ _ _,p,b,o,hz,h|.sl _ _,p,b,o,hz,h|.ptr _,p,b,o,hz,h=>by
  simp only[Loc]at h ⊢
  obtain⟨h1,h2,h3⟩:=h;have hl:=hm.lb b o aQ p h2 (hz []);exact⟨(hm.ad p (hz [])).trans h1,hl.1,by rw[hl.2,h3,hm.hd p (hz [])]⟩
 |.tup _,_,_,_,_,h=>by simp only[Loc]at h
theorem zGK(hm:Upd G w G' w' s tgt):(xs:List T)→ ∀(p:List Nat)(j b o:Nat),(∀z,¬tgt<:+z++p)→wB G w s xs p j b o→wB G' w' s xs p j b o
 | [],_,_,_,_,_,_=>by simp only[wB]
 |x::xs,p,j,b,o,hz,h=>by
  simp only[wB]at h ⊢
  exact⟨zBK hm x (j::p) b o (fun z=>by have:=hz (z++[j]);simpa using this) h.1,zGK hm xs p (j+1) b _ hz h.2⟩
end
theorem zGL(hm:Upd G w G' w' s tgt)(t u:T)(p:List Nat)(b o:Nat)(ht:∀xs,t≠.agg xs)(hu:∀xs,u≠.agg xs)(t8:∀xs,u≠.tup xs)(hz:¬tgt<:+p)(h:Loc G w s t p b o):Loc G' w' s u p b o:=by
 have h3:G.ad s p=⟨b,o,aO⟩∧G.lb b o=aN (aQ,s,p)∧yA w b o=aN (G.hd s p):=by
  cases t with
  |agg xs=>exact absurd rfl (ht xs)
  |tup xs=>simp only[Loc]at h
  |_=>simpa only[Loc]using h
 obtain⟨h1,h2,h3⟩:=h3;have hl:=hm.lb b o aQ p h2 hz;have h4:G'.ad s p=⟨b,o,aO⟩∧G'.lb b o=aN (aQ,s,p)∧yA w' b o=aN (G'.hd s p):=⟨(hm.ad p hz).trans h1,hl.1,by rw[hl.2,h3,hm.hd p hz]⟩;cases u with
 |agg xs=>exact absurd rfl (hu xs)
 |tup xs=>exact absurd rfl (t8 xs)
 |_=>simpa only[Loc]using h4
theorem tK{f p:List Nat}{i i':Nat}(hi:i'≠i)(z:List Nat):¬f.reverse++(i::p)<:+z++(i'::p):=by
 rintro⟨y,hy⟩
 rw[←Jb]at hy;have:=List.append_inj_right' hy rfl;simp at this;exact hi this.symm
theorem tV{f p:List Nat}{i:Nat}:¬f.reverse++(i::p)<:+p:=by intro h;have:=h.length_le;simp at this;omega
theorem zEZ:(xs:List T)→ ∀(i:Nat)(x y:T),xs[i]? =aN x→y.size=x.size→T.sizes (xs.set i y)=T.sizes xs
 | [],_,_,_,h,_=>by simp at h
 |z::zs,i,x,y,h,hs=>by
  cases i with
  |zero=>simp at h;subst h;simp[T.sizes,hs]
  |succ i=>simp only[K9,T.sizes,zEZ zs i x y (by simpa using h) hs]
theorem zBL:(f:List Nat)→ ∀(t u u0:T),t.get f=aN u0→u.size=u0.size→(t.set f u).size=t.size
 | [],t,u,u0,h,hs=>by simp[T.get]at h;subst h;simpa[T.set]using hs
 |i::f,t,u,u0,h,hs=>by
  cases t with
  |sl k xs=>simp only[T.get]at h;cases hx:xs[i]? <;>simp[hx,T.set,T.size]at h ⊢
  |tup xs=>simp only[T.get]at h;cases hx:xs[i]? <;>simp[hx,T.set,T.size]at h ⊢
  |agg xs=>
   simp only[T.get]at h;cases hx:xs[i]? with
   |none=>simp[hx]at h
   |some x=>
    rw[hx]at h;simp only[T.set,hx,T.size];exact zEZ xs i x _ hx (zBL f x u u0 h hs)
  |ptr t=>simp only[T.get]at h;split at h<;>simp_all [T.set,T.size]
  |_=>simp[T.get]at h
theorem zGM(hm:Upd G w G' w' s tgt):(xs:List T)→ ∀(p:List Nat)(j b o i:Nat)(x y:T),wB G w s xs p j b o→xs[i]? =aN x→y.size=x.size→
  (∀i',i'≠j+i→ ∀z,¬tgt<:+z++(i'::p))→(∀o',Loc G w s x ((j+i)::p) b o'→Loc G' w' s y ((j+i)::p) b o')→wB G' w' s (xs.set i y) p j b o
 | [],_,_,_,_,_,_,_,_,h,_,_,_=>by simp at h
 |z::zs,p,j,b,o,i,x,y,hl,h,hs,hz,hy=>by
  simp only[wB]at hl;cases i with
  |zero=>
   simp at h;subst h;simp only[K8,wB,hs];exact⟨by simpa using hy o (by simpa using hl.1),LocF_upd' hm zs p (j+1) b _ (fun i' ej=>hz i' (by omega)) hl.2⟩
  |succ i=>
   simp only[K9,wB];refine⟨zBK hm z _ b o (hz j (by omega)) hl.1,zGM hm zs p (j+1) b _ i x y hl.2 (by simpa using h) hs (fun i' ej=>hz i' (by omega)) ?_⟩;rw[show j+1+i=j+(i+1)from by omega];exact hy
where LocF_upd' (hm:Upd G w G' w' s tgt):(xs:List T)→ ∀(p:List Nat)(j b o:Nat),(∀i',j≤i'→ ∀z,¬tgt<:+z++(i'::p))→wB G w s xs p j b o→wB G' w' s xs p j b o
 | [],_,_,_,_,_,_=>by simp only[wB]
 |x::xs,p,j,b,o,hz,h=>by
  simp only[wB]at h ⊢
  exact⟨zBK hm x (j::p) b o (hz j (Ji _)) h.1,LocF_upd' hm xs p (j+1) b _ (fun i' ej=>hz i' (by omega)) h.2⟩
theorem zFU:(f:List Nat)→ ∀(t u u0:T)(p:List Nat)(b o:Nat),Upd G w G' w' s (rp f p)→Loc G w s t p b o→t.get f=aN u0→u.size=u0.size→
  (∀o',Loc G w s u0 (rp f p) b o'→Loc G' w' s u (rp f p) b o')→Loc G' w' s (t.set f u) p b o
 | [],t,u,u0,p,b,o,hm,hl,hg,hs,hu=>by simp[T.get]at hg;subst hg;simpa[T.set,rp]using hu o (by simpa[rp]using hl)
 |i::f,t,u,u0,p,b,o,hm,hl,hg,hs,hu=>by
  have gx:=hm;rw[qP]at gx;cases t with
  |sl k xs=>
   have:∃ys,(T.sl k xs).set (i::f) u=.sl k ys:=by simp only[T.set];split<;>exact⟨_,rfl⟩
   obtain⟨ys,hy⟩:=this;rw[hy];exact zGL gx (.sl k xs) (.sl k ys) p b o (by simp) (by simp) (by simp) tV hl
  |ptr t=>
   have:∃ys,(T.ptr t).set (i::f) u=.ptr ys:=by simp only[T.set];split<;>exact⟨_,rfl⟩
   obtain⟨ys,hy⟩:=this;rw[hy];exact zGL gx (.ptr t) (.ptr ys) p b o (by simp) (by simp) (by simp) tV hl
  |agg xs=>
   simp only[T.get]at hg;cases hx:xs[i]? with
   |none=>simp[hx]at hg
   |some x=>
    rw[hx]at hg;simp only[T.set,hx];simp only[Loc]at hl ⊢
    refine⟨(gx.ad p tV).trans hl.1,zGM gx xs p 0 b o i x _ hl.2 hx (zBL f x u u0 hg hs) (fun i' ej z=>tK (by omega) z) ?_⟩;intro o' ho';simp only[J6]at ho' ⊢
    exact zFU f x u u0 (i::p) b o' gx ho' hg hs (by simpa only[qP]using hu)
  |tup xs=>simp only[Loc]at hl
  |_=>simp[T.get]at hg
end
end Go.Ab

namespace Go.Ab
open Go
section
variable {St:Stb}{G:Gh}{w:World}{G':Gh}{w':World}{s:Nat}{tgt:List Nat}
theorem zJr(hm:Upd G w G' w' s tgt)(t:T)(p:List Nat)(hz:∀z,¬tgt<:+z++p)(hk:yD (sO G G') t)(h:R St G w s t p):R St G' w' s t p:=by simpa using zLw (hm.moves hz) t [] hk (by simpa using h)
theorem zLx(hm:Upd G w G' w' s tgt):(xs:List T)→ ∀(p:List Nat)(i b o k:Nat),(∀i',i≤i'→ ∀z,¬tgt<:+z++(i'::p))→yQ (sO G G') xs→RL St G w s xs p i b o k→RL St G' w' s xs p i b o k
 | [],_,_,_,_,_,_,_,_=>by simp only[RL]
 |x::xs,p,i,b,o,k,hz,hk,h=>by
  simp only[RL,yQ]at h hk ⊢
  exact⟨⟨zBK hm x (i::p) b o (hz i (Ji _)) h.1.1,h.1.2⟩,zJr hm x (i::p) (hz i (Ji _)) hk.1 h.2.1,
   zLx hm xs p (i+1) b _ k (fun i' ej=>hz i' (by omega)) hk.2 h.2.2⟩
theorem zLy(hm:Upd G w G' w' s tgt):(xs:List T)→ ∀(p:List Nat)(i0 b o k i:Nat)(x y:T),RL St G w s xs p i0 b o k→xs[i]? =aN x→y.size=x.size→yQ (sO G G') xs→
  (∀i',i'≠i0+i→ ∀z,¬tgt<:+z++(i'::p))→(∀o',Loc G w s x ((i0+i)::p) b o'→Loc G' w' s y ((i0+i)::p) b o')→R St G' w' s y ((i0+i)::p)→
  RL St G' w' s (xs.set i y) p i0 b o k
 | [],_,_,_,_,_,_,_,_,_,h,_,_,_,_,_=>by simp at h
 |z::zs,p,i0,b,o,k,i,x,y,hr,h,hs,hk,hz,hl,hy=>by
  simp only[RL,yQ]at hr hk;cases i with
  |zero=>
   simp at h;subst h;simp only[K8,RL];exact⟨⟨by simpa using hl o (by simpa using hr.1.1),by omega⟩,by simpa using hy,zLx hm zs p (i0+1) b _ k (fun i' ej=>hz i' (by omega)) hk.2 hr.2.2⟩
  |succ i=>
   simp only[K9,RL];rw[show i0+(i+1)=i0+1+i from by omega]at hl hy hz;exact⟨⟨zBK hm z _ b o (hz i0 (by omega)) hr.1.1,hr.1.2⟩,zJr hm z _ (hz i0 (by omega)) hk.1 hr.2.1,zLy hm zs p (i0+1) b _ k i x y hr.2.2 (by simpa using h) hs hk.2 hz hl hy⟩
theorem zLz(hm:Upd G w G' w' s tgt):(xs:List T)→ ∀(p:List Nat)(i:Nat),(∀i',i≤i'→ ∀z,¬tgt<:+z++(i'::p))→yQ (sO G G') xs→RF St G w s xs p i→RF St G' w' s xs p i
 | [],_,_,_,_,_=>by simp only[RF]
 |x::xs,p,i,hz,hk,h=>by
  simp only[RF,yQ]at h hk ⊢
  exact⟨zJr hm x (i::p) (hz i (Ji _)) hk.1 h.1,zLz hm xs p (i+1) (fun i' ej=>hz i' (by omega)) hk.2 h.2⟩
theorem zIv(hm:Upd G w G' w' s tgt):(xs:List T)→ ∀(p:List Nat)(i0 i:Nat)(x y:T),RF St G w s xs p i0→xs[i]? =aN x→yQ (sO G G') xs→
  (∀i',i'≠i0+i→ ∀z,¬tgt<:+z++(i'::p))→R St G' w' s y ((i0+i)::p)→
  RF St G' w' s (xs.set i y) p i0
 | [],_,_,_,_,_,_,h,_,_,_=>by simp at h
 |z::zs,p,i0,i,x,y,hr,h,hk,hz,hy=>by
  simp only[RF,yQ]at hr hk;cases i with
  |zero=>
   simp at h;subst h;simp only[K8,RF];exact⟨by simpa using hy,zLz hm zs p (i0+1) (fun i' ej=>hz i' (by omega)) hk.2 hr.2⟩
  |succ i=>
   simp only[K9,RF];rw[show i0+(i+1)=i0+1+i from by omega]at hy hz;exact⟨zJr hm z _ (hz i0 (by omega)) hk.1 hr.1,zIv hm zs p (i0+1) i x y hr.2 (by simpa using h) hk.2 hz hy⟩
theorem wH{φ:Nat→List Nat→Prop}:(xs:List T)→yQ φ xs→ ∀(i:Nat)(x:T),xs[i]? =aN x→yD φ x
 | [],_,_,_,h=>by simp at h
 |y::ys,hk,i,x,h=>by
  simp only[yQ]at hk;cases i with
  |zero=>simp at h;subst h;exact hk.1
  |succ i=>exact wH ys hk.2 i x (by simpa using h)
theorem zDA:(f:List Nat)→ ∀(t u u0:T)(p:List Nat),Upd G w G' w' s (rp f p)→R St G w s t p→t.get f=aN u0→u.size=u0.size→yD (sO G G') t→
  (∀b o,Loc G w s u0 (rp f p) b o→Loc G' w' s u (rp f p) b o)→R St G' w' s u (rp f p)→R St G' w' s (t.set f u) p
 | [],t,u,u0,p,hm,hr,hg,hs,hk,hl,hu=>by simpa[T.set,rp]using hu
 |i::f,t,u,u0,p,hm,hr,hg,hs,hk,hl,hu=>by
  have gx:=hm;rw[qP]at gx hl hu;cases t with
  |sl k xs=>
   simp only[T.get]at hg;cases hx:xs[i]? with
   |none=>simp[hx]at hg
   |some x=>
    rw[hx]at hg;simp only[T.set,hx];simp only[R,yD]at hr hk ⊢
    rcases hr with⟨rfl,_⟩|⟨b,o0,cap,cs,e,h1,h2,h3,h4,h5,h6,h7,h8⟩
    ·simp at hx
    ·obtain⟨cs',eO,gu⟩:=gx.blk b cs e h2
     refine .inr ⟨b,o0,cap,cs',e,by rw[gx.hd p tV,Ku];exact h1,eO,by rw[Ku];exact h3,h4,by omega,gx.ow b p h6 tV,?_,?_⟩
     ·intro o ho fc
      rw[Ku]at ho;exact(gx.lb b o aP p (h7 o ho (by omega)) tV).1
     ·have mA:=uD xs p 0 b o0 k i x h8 hx
      simp only[J6]at mA;refine zLy gx xs p 0 b o0 k i x _ h8 hx (zBL f x u u0 hg hs) hk (fun i' ej z=>tK (by omega) z) ?_ ?_
      ·intro o' ho'
       simp only[J6]at ho' ⊢
       exact zFU f x u u0 (i::p) b o' gx ho' hg hs (fun o''=>hl b o'')
      ·simp only[J6]
       exact zDA f x u u0 (i::p) gx mA.2.2 hg hs (wH xs hk i x hx) hl hu
  |ptr t=>
   simp only[T.get]at hg;split at hg
   ·rename_i hi;subst hi
    simp only[T.set,if_true];simp only[R,yD]at hr hk ⊢
    obtain⟨b,cs,e,h1,h2,h3,h6,h4,h5⟩:=hr;obtain⟨cs',eO,gu⟩:=gx.blk b cs e h2;refine⟨b,cs',e,by rw[gx.hd p tV];exact h1,eO,by rw[zBL f t u u0 hg hs];omega,gx.ow b p h6 tV,zFU f t u u0 (0::p) b 0 gx h4 hg hs (fun o''=>hl b o''),zDA f t u u0 (0::p) gx h5 hg hs hk hl hu⟩
   ·cases hg
  |agg xs=>
   simp only[T.get]at hg;cases hx:xs[i]? with
   |none=>simp[hx]at hg
   |some x=>
    rw[hx]at hg;simp only[T.set,hx];simp only[R,yD]at hr hk ⊢
    refine zIv gx xs p 0 i x _ hr hx hk (fun i' ej z=>tK (by omega) z) ?_;simp only[J6];exact zDA f x u u0 (i::p) gx (by simpa using jA xs p 0 i x hr hx) hg hs (wH xs hk i x hx) hl hu
  |tup xs=>
   simp only[T.get]at hg;cases hx:xs[i]? with
   |none=>simp[hx]at hg
   |some x=>
    rw[hx]at hg;simp only[T.set,hx];simp only[R,yD]at hr hk ⊢
    refine zIv gx xs p 0 i x _ hr hx hk (fun i' ej z=>tK (by omega) z) ?_;simp only[J6];exact zDA f x u u0 (i::p) gx (by simpa using jA xs p 0 i x hr hx) hg hs (wH xs hk i x hx) hl hu
  |_=>simp[T.get]at hg
end
end Go.Ab

namespace Go.Ab
open Go
mutual
def vals(G:Gh)(s:Nat):T→List Nat→List Value
 |.agg xs,p=>zP G s xs p 0
 |.any,p|.lit _,p|.ro _,p|.same _ _,p|.addr _ _,p|.sub _ _ _ _ _,p|.sl _ _,p|.ptr _,p|.tup _,p=>[G.hd s p]
def zP(G:Gh)(s:Nat):List T→List Nat→Nat→List Value
 | [],_,_=>[]
 |x::xs,p,j=>vals G s x (j::p)++zP G s xs p (j+1)
end
def vO(G:Gh)(s:Nat)(t:T)(p:List Nat):Value:=
 match t with
 |.agg xs=>.agg (zP G s xs p 0).toArray
 |_=>G.hd s p
def sB(G:Gh)(s:Nat):List T→List Nat→Nat→List Value
 | [],_,_=>[]
 |x::xs,p,j=>vO G s x (j::p)::sB G s xs p (j+1)
def mkV(G:Gh)(s:Nat)(t:T)(p:List Nat):Value:=
 match t with
 |.agg xs=>.agg (zP G s xs p 0).toArray
 |.tup xs=>.tuple (sB G s xs p 0).toArray
 |_=>G.hd s p
mutual
def Top:T→Prop
 |.sl _ xs=>yB xs
 |.ptr t=>zO t
 |.agg xs|.tup xs=>wL xs
 |.any|.lit _|.ro _|.same _ _|.addr _ _|.sub _ _ _ _ _=>True
def wL:List T→Prop
 | []=>True
 |x::xs=>Top x∧wL xs
end
mutual
theorem Top.of_clean:(t:T)→zO t→Top t
 |.sl _ xs,h=>by simpa only[Top,zO,yD]using h
 |.ptr t,h=>by simpa only[Top,zO,yD]using h
 |.agg xs,h|.tup xs,h=>by simp only[Top];exact wL.of_clean xs (by simpa only[zO,yD]using h)
 |.any,_|.lit _,_|.ro _,_|.same _ _,_|.addr _ _,_|.sub _ _ _ _ _,_=>by simp only[Top]
theorem wL.of_clean:(xs:List T)→yB xs→wL xs
 | [],_=>by simp only[wL]
 |x::xs,h=>by simp only[wL];exact⟨Top.of_clean x h.1,wL.of_clean xs h.2⟩
end
abbrev Chg:=List (Nat×Nat)
def Off(chg:Chg)(s:Nat)(p:List Nat):Prop:=∀n,(s,n)∈chg→p.length<n
def zBe(chg:Chg)(r:Nat)(p:List Nat):Bool:=chg.all fun c=>c.1 != r||decide (p.length<c.2)
theorem zK0{chg:Chg}{r:Nat}{p:List Nat}(h:zBe chg r p=aP):Off chg r p:=by
 intro n hn;have:=Ju.1 h _ hn
 grind
mutual
def T.okB(chg:Chg):T→Bool
 |.same r p|.addr r p|.sub r p _ _ _=>zBe chg r p
 |.agg xs|.tup xs=>zGN chg xs
 |.any|.lit _|.ro _|.sl _ _|.ptr _=>aP
def zGN(chg:Chg):List T→Bool
 | []=>aP
 |x::xs=>x.okB chg&&zGN chg xs
end
mutual
theorem qQ{chg:Chg}:(t:T)→Top t→t.okB chg=aP→yD (Off chg) t
 |.same r p,_,h|.addr r p,_,h|.sub r p _ _ _,_,h=>by simp only[T.okB]at h;simp only[yD];exact zK0 h
 |.agg xs,ht,h|.tup xs,ht,h=>by simp only[T.okB,Top]at h ht;simp only[yD];exact zDB xs ht h
 |.sl _ xs,ht,_=>by simp only[Top]at ht;simp only[yD];grind[yQ.mono]
 |.ptr t,ht,_=>by simp only[Top]at ht;simp only[yD];grind[yD.mono]
 |.any,_,_|.lit _,_,_|.ro _,_,_=>by simp only[yD]
theorem zDB{chg:Chg}:(xs:List T)→wL xs→zGN chg xs=aP→yQ (Off chg) xs
 | [],_,_=>by simp only[yQ]
 |x::xs,ht,h=>by simp only[zGN,wL,J2]at h ht;simp only[yQ];exact⟨qQ x ht.1 h.1,zDB xs ht.2 h.2⟩
end
abbrev Env:=Nat→Option T
abbrev Wr:=List (Nat×Option T)
def Wr.find(wr:Wr)(s:Nat):Option (Option T):=
 match wr with
 | []=>aO
 |(k,x)::r=>if k=s then aN x else Wr.find r s
def Env.app(E:Env)(wr:Wr)(chg:Chg):Env:=fun s=>
 match wr.find s with
 |some x=>x
 |none=>match E s with
  |some t=>if t.okB chg then aN t else aO
  |none=>aO
structure Ctx where
 St:Stb
 W:Nat→Prop
 w0:World
 N:Nat
def zAi(Γ:Ctx)(w:World)(b:Nat):Prop:=b<w.heap.size∧(Γ.w0.heap.size≤b∨Γ.W b)∧Γ.St b=aO
structure zOA (w w':World):Prop where
 blk:Blk w w'
 os:w'.os=w.os
 out:w'.output=w.output
structure Mem (Γ:Ctx) (G:Gh) (w:World):Prop where
 one:∀s p,(G.hd s p).oneCell'=aP
 lb:∀b o l,G.lb b o=aN l→zAi Γ w b
 ow:∀b l,G.ow b=aN l→zAi Γ w b
 st:∀b x,Γ.St b=aN x→w.heap[b]? =aN x
 fr:∀b,b<Γ.w0.heap.size→ ¬Γ.W b→w.heap[b]? =Γ.w0.heap[b]?
 sz:Γ.w0.heap.size≤w.heap.size
 bk:zOA Γ.w0 w
theorem Blk.trans{w w' w'':World}(h:Blk w w')(h':Blk w' w''):Blk w w'':=fun b cs e hb=>by
 obtain⟨cs',h1,h2⟩:=h b cs e hb;obtain⟨cs'',h3,h4⟩:=h' b cs' e h1
 grind
theorem zOA.trans{w w' w'':World}(h:zOA w w')(h':Blk w' w'')(ho:w''.os=w'.os)(hq:w''.output=w'.output):zOA w w'':=⟨h.blk.trans h',ho.trans h.os,hq.trans h.out⟩
def Ent(Γ:Ctx)(G:Gh)(w:World)(v:Option Value)(s:Nat)(t:T):Prop:=v=aN (mkV G s t [])∧R Γ.St G w s t []∧Top t
structure Rep (Γ:Ctx) (E:Env) (G:Gh) (tmps:Array Value) (w:World):Prop where
 size:tmps.size=Γ.N
 ent:∀s t,E s=aN t→Ent Γ G w tmps[s]? s t
 mem:Mem Γ G w
def Sim(Γ:Ctx)(E:Env)(a:Act)(w:World):Prop:=a.defers=[]∧ ∃G,Rep Γ E G a.tmps w
structure zBp (S S':Stb) (W:Nat→Prop) (n:Nat):Prop where
 le:∀b x,S b=aN x→S' b=aN x
 nw:∀b,S b=aO→S' b≠aO→n≤b∨W b
theorem zBp.refl{S:Stb}{W:Nat→Prop}{n:Nat}:zBp S S W n:=⟨fun _ _ h=>h,by grind⟩
theorem zBp.trans{S S' S'':Stb}{W:Nat→Prop}{n:Nat}(h:zBp S S' W n)(h':zBp S' S'' W n):zBp S S'' W n:=
 ⟨fun b x hb=>h'.le b x (h.le b x hb),fun b hb eI=>by
  cases hs:S' b with
  |none=>exact h'.nw b hs eI
  |some x=>exact h.nw b hb (by grind)⟩
abbrev Ctx.at(Γ:Ctx)(S:Stb):Ctx:={ Γ with St:=S }
def tL(Γ:Ctx)(E:Env)(a:Act)(w:World):Prop:=∃S,zBp Γ.St S Γ.W Γ.w0.heap.size∧Sim (Γ.at S) E a w
theorem tL.of{Γ:Ctx}{E:Env}{a:Act}{w:World}(h:Sim Γ E a w):tL Γ E a w:=⟨Γ.St,.refl,h⟩
theorem tL.up{Γ:Ctx}{E:Env}{a:Act}{w:World}{S:Stb}(hS:zBp Γ.St S Γ.W Γ.w0.heap.size)(h:tL (Γ.at S) E a w):tL Γ E a w:=by obtain⟨S',h1,h2⟩:=h;exact⟨S',hS.trans h1,h2⟩
structure tD (chg:Chg) (G:Gh) (w:World) (G':Gh) (w':World):Prop where
 hd:∀s p,Off chg s p→G'.hd s p=G.hd s p
 ad:∀s p,Off chg s p→G'.ad s p=G.ad s p
 lb:∀b o f s p,(∃y,G.ow b=aN (s,y))→G.lb b o=aN (f,s,p)→(∀n,(s,n)∉chg)→G'.lb b o=aN (f,s,p)∧yA w' b o=yA w b o
 ow:∀b s p,G.ow b=aN (s,p)→(∀n,(s,n)∉chg)→G'.ow b=aN (s,p)
 blk:Blk w w'
theorem Off.of_not{chg:Chg}{s:Nat}(h:∀n,(s,n)∉chg)(p:List Nat):Off chg s p:=fun n hn=>absurd hn (h n)
section
variable {Γ:Ctx}{G G':Gh}{w w':World}{s:Nat}{chg:Chg}
mutual
theorem qR{s':Nat}:(t:T)→ ∀(p p':List Nat),(∀z,G'.hd s' (z++p')=G.hd s (z++p))→vals G' s' t p'=vals G s t p
 |.agg xs,p,p',h=>by simp only[vals];exact zBM xs p p' 0 h
 |.any,p,p',h|.lit _,p,p',h|.ro _,p,p',h|.same _ _,p,p',h|.addr _ _,p,p',h|.sub _ _ _ _ _,p,p',h|.sl _ _,p,p',h|.ptr _,p,p',h|.tup _,p,p',h=>by simp only[vals];rw[show G'.hd s' p'=G.hd s p from by simpa using h []]
theorem zBM{s':Nat}:(xs:List T)→ ∀(p p':List Nat)(j:Nat),(∀z,G'.hd s' (z++p')=G.hd s (z++p))→zP G' s' xs p' j=zP G s xs p j
 | [],_,_,_,_=>by rfl
 |x::xs,p,p',j,h=>by simp only[zP];rw[qR x (j::p) (j::p') (fun z=>by have:=h (z++[j]);grind),zBM xs p p' (j+1) h]
end
theorem kE{s':Nat}(t:T)(p p':List Nat)(h:∀z,G'.hd s' (z++p')=G.hd s (z++p)):vO G' s' t p'=vO G s t p:=by
 unfold vO;split
 ·grind[zBM]
 ·simpa using h []
theorem zJs{s':Nat}:(xs:List T)→ ∀(p p':List Nat)(j:Nat),(∀z,G'.hd s' (z++p')=G.hd s (z++p))→sB G' s' xs p' j=sB G s xs p j
 | [],_,_,_,_=>by rfl
 |x::xs,p,p',j,h=>by simp only[sB];rw[kE x (j::p) (j::p') (fun z=>by have:=h (z++[j]);simpa using this),zJs xs p p' (j+1) h]
theorem zC1{s':Nat}(t:T)(p p':List Nat)(h:∀z,G'.hd s' (z++p')=G.hd s (z++p)):mkV G' s' t p'=mkV G s t p:=by
 unfold mkV;split
 ·grind[zBM]
 ·grind[zJs]
 ·simpa using h []
theorem tD.moves(hk:tD chg G w G' w')(hs:∀n,(s,n)∉chg)(p:List Nat):zD9 G w G' w' s p s p where
 hd _:=hk.hd _ _ (.of_not hs _)
 ad _ _:=hk.ad _ _ (.of_not hs _)
 lb b o f _ _ gO hl:=hk.lb b o f s _ gO hl hs
 ow b _ _ hl:=hk.ow b s _ hl hs
 sp b o gO hl:=hk.lb b o aP s _ gO hl hs
 ow0 b hl:=hk.ow b s _ hl hs
 blk:=hk.blk
theorem tD.keepR(hk:tD chg G w G' w'){t:T}(h:yD (Off chg) t):yD (sO G G') t:=
 yD.mono (fun r p hr=>⟨hk.hd r p hr,hk.ad r p hr⟩) t h
theorem Ent.keep(hk:tD chg G w G' w')(hs:∀n,(s,n)∉chg){v:Option Value}{t:T}(ht:t.okB chg=aP)(h:Ent Γ G w v s t):Ent Γ G' w' v s t:=by
 obtain⟨h1,h2,h3⟩:=h;refine⟨?_,?_,h3⟩
 ·rw[h1,zC1 t [] [] (fun z=>hk.hd _ _ (.of_not hs _))]
 ·simpa using zLw (hk.moves hs []) t [] (hk.keepR (qQ t h3 ht)) (by grind)
end
theorem xS{Γ:Ctx}{E:Env}{G G':Gh}{tmps tmps':Array Value}{w w':World}{wr:Wr}{chg:Chg}(h:Rep Γ E G tmps w)
  (gH:tmps'.size=tmps.size)(hk:tD chg G w G' w')(gv:Mem Γ G' w')
  (gA:∀s,wr.find s=aO→(∀n,(s,n)∉chg)∧tmps'[s]? =tmps[s]?)
  (gY:∀s t,wr.find s=aN (aN t)→Ent Γ G' w' tmps'[s]? s t):Rep Γ (E.app wr chg) G' tmps' w' where
 size:=by rw[gH,h.size]
 mem:=gv
 ent s t hs:=by
  unfold Env.app at hs;cases hf:wr.find s with
  |some x=>
   grind
  |none=>
   rw[hf]at hs;simp at hs;cases he:E s with
   |none=>grind
   |some u=>
    simp[he]at hs;obtain⟨gG,rfl⟩:=hs;rw[(gA s hf).2];exact Ent.keep hk (gA s hf).1 gG (h.ent s u he)
end Go.Ab

namespace Go.Ab
open Go
mutual
def cpT(s:Nat):T→List Nat→T
 |.lit v,_=>.lit v
 |.ro t,_=>.ro t
 |.same r q,_=>.same r q
 |.addr r q,_=>.addr r q
 |.sub r q k lo hi,_=>.sub r q k lo hi
 |.agg xs,p=>.agg (cpF s xs p 0)
 |.any,p|.sl _ _,p|.ptr _,p|.tup _,p=>.same s p
def cpF(s:Nat):List T→List Nat→Nat→List T
 | [],_,_=>[]
 |x::xs,p,j=>cpT s x (j::p)::cpF s xs p (j+1)
end
mutual
theorem uN(s:Nat):(t:T)→ ∀p,Top (cpT s t p)
 |.agg xs,p=>by simp only[cpT,Top];exact zJt s xs p 0
 |.lit _,_|.ro _,_|.same _ _,_|.addr _ _,_|.sub _ _ _ _ _,_|.any,_|.sl _ _,_|.ptr _,_|.tup _,_=>by simp only[cpT,Top]
theorem zJt(s:Nat):(xs:List T)→ ∀p j,wL (cpF s xs p j)
 | [],_,_=>by simp only[cpF,wL]
 |x::xs,p,j=>by simp only[cpF,wL];exact⟨uN s x _,zJt s xs p _⟩
end
section
variable {St:Stb}{G G':Gh}{w w':World}{s d:Nat}
mutual
theorem zBq(hs:∀p,G'.hd s p=G.hd s p):(t:T)→ ∀(p p':List Nat),(∀z,G'.hd d (z++p')=G.hd s (z++p))→(∀xs,t≠.tup xs)→yD (sO G G') (cpT s t p)→R St G w s t p→R St G' w' d (cpT s t p) p'
 |.lit _,p,p',hd,_,_,h=>by simp only[cpT,R]at h ⊢;rw[show G'.hd d p'=_ from by simpa using hd []];exact h
 |.ro _,p,p',hd,_,_,h=>by simp only[cpT,R]at h ⊢;rw[show G'.hd d p'=_ from by simpa using hd []];exact h
 |.same r q,p,p',hd,_,hk,h=>by simp only[cpT,R,yD]at h hk ⊢;rw[show G'.hd d p'=_ from by simpa using hd [],hk.1];exact h
 |.addr r q,p,p',hd,_,hk,h=>by simp only[cpT,R,yD]at h hk ⊢;rw[show G'.hd d p'=_ from by simpa using hd [],hk.2];exact h
 |.sub r q k lo hi,p,p',hd,_,hk,h=>by simp only[cpT,R,yD]at h hk ⊢;rw[show G'.hd d p'=_ from by simpa using hd [],hk.1];exact h
 |.any,p,p',hd,_,_,_|.sl _ _,p,p',hd,_,_,_|.ptr _,p,p',hd,_,_,_=>by simp only[cpT,R];rw[show G'.hd d p'=_ from by simpa using hd [],hs]
 |.tup xs,_,_,_,h,_,_=>absurd rfl (h xs)
 |.agg xs,p,p',hd,_,hk,h=>by simp only[cpT,R,yD]at h hk ⊢;exact zFV hs xs p p' 0 hd hk h
theorem zFV(hs:∀p,G'.hd s p=G.hd s p):(xs:List T)→ ∀(p p':List Nat)(j:Nat),(∀z,G'.hd d (z++p')=G.hd s (z++p))→yQ (sO G G') (cpF s xs p j)→RF St G w s xs p j→RF St G' w' d (cpF s xs p j) p' j
 | [],_,_,_,_,_,_=>by simp only[cpF,RF]
 |x::xs,p,p',j,hd,hk,h=>by
  simp only[cpF,RF,yQ]at h hk ⊢
  refine⟨?_,zFV hs xs p p' (j+1) hd hk.2 h.2⟩
  by_cases hx:∃ys,x=.tup ys
  ·obtain⟨ys,rfl⟩:=hx
   simp only[cpT,R];rw[show G'.hd d (j::p')=_ from by simpa using hd [j],hs]
  ·exact zBq hs x (j::p) (j::p') (fun z=>by have:=hd (z++[j]);simpa using this) (fun ys e=>hx ⟨ys,e⟩) hk.1 h.1
end
mutual
theorem zK1:(t:T)→ ∀(p p':List Nat),(∀z,G'.hd d (z++p')=G.hd s (z++p))→vals G' d (cpT s t p) p'=vals G s t p
 |.agg xs,p,p',h=>by simp only[cpT,vals];exact zBr xs p p' 0 h
 |.any,p,p',h|.lit _,p,p',h|.ro _,p,p',h|.same _ _,p,p',h|.addr _ _,p,p',h|.sub _ _ _ _ _,p,p',h|.sl _ _,p,p',h|.ptr _,p,p',h|.tup _,p,p',h=>by simp only[cpT,vals];rw[show G'.hd d p'=G.hd s p from by simpa using h []]
theorem zBr:(xs:List T)→ ∀(p p':List Nat)(j:Nat),(∀z,G'.hd d (z++p')=G.hd s (z++p))→zP G' d (cpF s xs p j) p' j=zP G s xs p j
 | [],_,_,_,_=>by rfl
 |x::xs,p,p',j,h=>by simp only[cpF,zP];rw[zK1 x (j::p) (j::p') (fun z=>by have:=h (z++[j]);grind),zBr xs p p' (j+1) h]
end
theorem sZ(t:T)(p p':List Nat)(ht:∀xs,t≠.tup xs)(h:∀z,G'.hd d (z++p')=G.hd s (z++p)):mkV G' d (cpT s t p) p'=vO G s t p:=by
 cases t with
 |agg xs=>grind[cpT,mkV,vO,zBr]
 |tup xs=>grind
 |_=>simpa[cpT,mkV,vO]using h []
end
theorem sC(G:Gh)(s:Nat)(t:T)(p:List Nat)(ht:∀xs,t≠.tup xs):mkV G s t p=vO G s t p:=by
 cases t with
 |tup xs=>grind
 |_=>rfl
def Gh.put(G:Gh)(d:Nat)(f:List Nat→Value):Gh:={ G with hd:=fun s z=>if s=d then f z else G.hd s z }
theorem Gh.put_other(G:Gh){d s:Nat}(f:List Nat→Value)(p:List Nat)(h:s≠d):(G.put d f).hd s p=G.hd s p:=by simp[Gh.put,h]
theorem Gh.put_self(G:Gh)(d:Nat)(f:List Nat→Value)(p:List Nat):(G.put d f).hd d p=f p:=by simp[Gh.put]
theorem zQ8{d s:Nat}{p:List Nat}(h:Off [(d,0)] s p):s≠d:=by
 rintro rfl
 exact absurd (h 0 (by simp)) (by simp)
theorem Gh.put_keep(G:Gh){w w':World}(hw:w'.heap=w.heap)(d:Nat)(f:List Nat→Value):tD [(d,0)] G w (G.put d f) w' where
 hd s p h:=G.put_other f p (zQ8 h)
 ad _ _ _:=rfl
 lb b o f' s p _ h _:=⟨h,by grind[yA,World.cell?]⟩
 ow b s p h _:=h
 blk b cs e h:=by grind
theorem Mem.put{Γ:Ctx}{G:Gh}{w w':World}(h:Mem Γ G w)(hw:w'.heap=w.heap)(d:Nat)(f:List Nat→Value)(hf:∀z,(f z).oneCell'=aP)(ho:w'.os=w.os:=by rfl)(hq:w'.output=w.output:=by rfl):Mem Γ (G.put d f) w' where
 one s p:=by unfold Gh.put;dsimp only;split;exact hf p;exact h.one s p
 lb b o l hl:=by have:=h.lb b o l hl;exact⟨by rw[hw];exact this.1,this.2⟩
 ow b l hl:=by have:=h.ow b l hl;exact⟨by rw[hw];exact this.1,this.2⟩
 st b x hx:=by rw[hw];exact h.st b x hx
 fr b h1 h2:=by rw[hw];exact h.fr b h1 h2
 sz:=by rw[hw];exact h.sz
 bk:=h.bk.trans (fun b cs e hb=>by grind) ho hq
theorem uG(d:Nat)(x:Option T)(s:Nat):Wr.find [(d,x)] s=if d=s then aN x else aO:=by rfl
theorem xM{Γ:Ctx}{E:Env}{G:Gh}{tmps:Array Value}{w w':World}(h:Rep Γ E G tmps w)(hw:w'.heap=w.heap){d:Nat}(hd:d<Γ.N)
  (f:List Nat→Value)(hf:∀z,(f z).oneCell'=aP)(t:T)(v:Value)(hv:v=mkV (G.put d f) d t [])(hr:R Γ.St (G.put d f) w' d t [])(ht:Top t)(ho:w'.os=w.os:=by rfl)(hq:w'.output=w.output:=by rfl):
  Rep Γ (E.app [(d,aN t)] [(d,0)]) (G.put d f) (tmps.setIfInBounds d v) w':=by
 refine xS h (by simp) (G.put_keep hw d f) (h.mem.put hw d f hf ho hq) ?_ ?_
 ·grind[uG]
 ·intro s t' hs
  rw[uG]at hs;split at hs
  ·rename_i he
   subst he;simp at hs;subst hs;refine⟨?_,hr,ht⟩;rw[J7];simp[h.size,hd,hv]
  ·cases hs
def yW(P:Program)(Γ:Ctx)(o:Oper)(E E':Env):Prop:=
 ∀(a:Act)(w:World)(K:Act→World→Prop)(Q:Exit→Act→World→Prop),Sim Γ E a w→(∀a' w',tL Γ E' a' w'→K a' w')→o.wp P a w K Q
def opT(E:Env):Operand→Option T
 |.tmp s=>E s
 |.const v=>if v.oneCell' then aN (.lit v)else aO
 |.func f=>aN (.lit (.func (.func f) #[] #[]))
 |.global _=>aO
def vE(x:Operand)(t:T):T:=match x with
 |.tmp s=>cpT s t []
 |_=>t
section
variable {P:Program}{Γ:Ctx}{E E':Env}{o:Oper}{d:Nat}
theorem yX{a:Act}{s:Nat}{v:Value}(h:a.tmps[s]? =aN v):a.eval (.tmp s)=v:=by simp[Act.eval,Jx,h]
theorem yW.value(ho:o.dst=aN d)
  (h:∀(a:Act)(w:World)(G:Gh),Rep Γ E G a.tmps w→ ∃v w',(execOp a.eval o).run P w=.ok (.value v) w'∧ ∃G',Rep Γ E' G' (a.tmps.setIfInBounds d v) w'):yW P Γ o E E':=by
 intro a w K Q ⟨gM,G,g9⟩ hK;obtain⟨v,w',gr,G',eB⟩:=h a w G g9;unfold Oper.wp;rw[gr,Oper.upon_value];refine hK _ _ ?_;rw[ho];exact .of ⟨gM,G',eB⟩
theorem yW.skip(ho:o.dst=aO)
  (h:∀(a:Act)(w:World)(G:Gh),Rep Γ E G a.tmps w→ ∃w',(execOp a.eval o).run P w=.ok .skip w'∧ ∃G',Rep Γ E' G' a.tmps w'):yW P Γ o E E':=by
 intro a w K Q ⟨gM,G,g9⟩ hK;obtain⟨w',gr,G',eB⟩:=h a w G g9;unfold Oper.wp;rw[gr,Oper.upon_skip];refine hK _ _ ?_;rw[ho];exact .of ⟨gM,G',eB⟩
theorem opd{G:Gh}{a:Act}{w:World}(g9:Rep Γ E G a.tmps w){x:Operand}{t:T}(hx:opT E x=aN t)(ht:∀xs,t≠.tup xs):
  ∃f:List Nat→Value,(∀z,(f z).oneCell'=aP)∧(∀d,(∀s,x=.tmp s→s≠d)→T.okB [(d,0)] (vE x t)=aP→
   a.eval x=mkV (G.put d f) d (vE x t) []∧R Γ.St (G.put d f) w d (vE x t) [])∧Top (vE x t):=by
 cases x with
 |tmp s=>
  obtain⟨h1,h2,h3⟩:=g9.ent s t hx;refine⟨fun z=>G.hd s z,fun z=>g9.mem.one s z,?_,uN s t []⟩;intro d gj gG;have hH:=gj s rfl;have hk:=G.put_keep (w:=w) (w':=w) rfl d (fun z=>G.hd s z);have hz:∀z,(G.put d (fun z=>G.hd s z)).hd d (z++[])=G.hd s (z++[]):=by grind[Gh.put_self]
  refine⟨?_,?_⟩
  ·grind[yX,vE,sZ,sC]
  ·exact zBq (fun p=>G.put_other _ p hH) t [] [] hz ht (hk.keepR (qQ _ (uN s t []) gG)) h2
 |const v=>
  simp only[opT]at hx;split at hx
  ·rename_i gz
   simp at hx;subst hx;exact⟨fun _=>v,fun _=>gz,fun d _ _=>⟨by simp[Act.eval,vE,mkV,Gh.put],by simp[vE,R,Gh.put]⟩,by simp[vE,Top]⟩
  ·cases hx
 |func f=>
  simp only[opT]at hx;simp at hx;subst hx;exact⟨fun _=>.func (.func f) #[] #[],fun _=>rfl,fun d _ _=>⟨by simp[Act.eval,vE,mkV,Gh.put],by simp[vE,R,Gh.put]⟩,by simp[vE,Top]⟩
 |global g=>cases hx
theorem zJu(x:Operand)(t:T)(ho:o.op=.move x∨o.op=.assign x)(gf:o.dst=aN d)(hd:d<Γ.N)(hx:opT E x=aN t)(ht:∀xs,t≠.tup xs)
  (gj:∀s,x=.tmp s→s≠d)(gG:T.okB [(d,0)] (vE x t)=aP):yW P Γ o E (E.app [(d,aN (vE x t))] [(d,0)]):=by
 refine yW.value gf fun a w G g9=>?_
 obtain⟨f,hf,h1,h2⟩:=opd g9 hx ht;obtain⟨h3,h4⟩:=h1 d gj gG;refine⟨a.eval x,w,?_,_,xM g9 rfl hd f hf _ _ h3 h4 h2⟩;rcases ho with ho|ho<;>simp[execOp,ho]
theorem xC{G:Gh}{a:Act}{w:World}(g9:Rep Γ E G a.tmps w){x:Operand}{v:Value}(hx:opT E x=aN (.lit v)):a.eval x=v∧v.oneCell'=aP:=by
 cases x with
 |tmp s=>
  obtain⟨h1,h2,_⟩:=g9.ent s _ hx;simp only[R]at h2;refine⟨?_,by rw[←h2];exact g9.mem.one s []⟩
  grind[yX,mkV]
 |const u=>
  simp only[opT]at hx;split at hx
  ·simp at hx;subst hx;exact⟨rfl,by assumption⟩
  ·cases hx
 |func f=>simp only[opT]at hx;simp at hx;subst hx;exact⟨rfl,rfl⟩
 |global g=>cases hx
theorem qA(v:Value)(hv:v.oneCell'=aP)(gf:o.dst=aN d)(hd:d<Γ.N)
  (h:∀(a:Act)(w:World)(G:Gh),Rep Γ E G a.tmps w→(execOp a.eval o).run P w=.ok (.value v) w):yW P Γ o E (E.app [(d,aN (.lit v))] [(d,0)]):=by
 refine yW.value gf fun a w G g9=>?_
 exact⟨v,w,h a w G g9,_,xM g9 rfl hd (fun _=>v) (fun _=>hv) (.lit v) v (by simp[mkV,Gh.put]) (by simp[R,Gh.put]) (by simp[Top])⟩
def zFW(op:BinOp)(k:IntKind)(a b:Int):Option Value:=
 match op with
 |.add=>aN (.int k (k.wrap (a+b)))
 |.sub=>aN (.int k (k.wrap (a-b)))
 |.mul=>aN (.int k (k.wrap (a*b)))
 |.quo=>if b=0 then aO else aN (.int k (k.wrap (a.tdiv b)))
 |.rem=>if b=0 then aO else aN (.int k (a.tmod b))
 |.eql=>aN (.bool (a==b))
 |.neq=>aN (.bool (a != b))
 |.lss=>aN (.bool (decide (a<b)))
 |.leq=>aN (.bool (decide (a≤b)))
 |.gtr=>aN (.bool (decide (a> b)))
 |.geq=>aN (.bool (decide (a≥b)))
 |_=>aO
theorem zL0{op:BinOp}{k:IntKind}{a b:Int}{v:Value}(h:zFW op k a b=aN v):v.oneCell'=aP:=by cases op<;>simp[zFW]at h<;>first|(subst h;rfl)|(obtain⟨_,rfl⟩:=h;rfl)
theorem vN(op:BinOp)(xt yt:TypeId)(x y:Operand)(k:IntKind)(m n:Int)(v:Value)(ho:o.op=.binOp op xt x y yt)(gf:o.dst=aN d)(hd:d<Γ.N)
  (hx:opT E x=aN (.lit (.int k m)))(hy:opT E y=aN (.lit (.int k n)))(hv:zFW op k m n=aN v):yW P Γ o E (E.app [(d,aN (.lit v))] [(d,0)]):=by
 refine qA v (zL0 hv) gf hd fun a w G g9=>?_
 have h1:=(xC g9 hx).1;have h2:=(xC g9 hy).1;cases op<;>simp[zFW]at hv<;>
  first
   |(subst hv;simp[execOp,ho,h1,h2,eqGuard,binOp,Op.intArith,Op.intCmp];done)
   |(obtain⟨h0,rfl⟩:=hv;simp[execOp,ho,h1,h2,eqGuard,binOp,Op.intDiv,h0])
theorem zQ9(xt:TypeId)(x:Operand)(b:Bool)(ho:o.op=.unOp .not xt x)(gf:o.dst=aN d)(hd:d<Γ.N)
  (hx:opT E x=aN (.lit (.bool b))):yW P Γ o E (E.app [(d,aN (.lit (.bool !b)))] [(d,0)]):=by
 refine qA _ rfl gf hd fun a w G g9=>?_
 have h1:=(xC g9 hx).1;simp[execOp,ho,h1,Op.unary]
theorem zQA(xt:TypeId)(x:Operand)(k:IntKind)(n:Int)(ho:o.op=.unOp .neg xt x)(gf:o.dst=aN d)(hd:d<Γ.N)
  (hx:opT E x=aN (.lit (.int k n))):yW P Γ o E (E.app [(d,aN (.lit (.int k (k.wrap (0-n)))))] [(d,0)]):=by
 refine qA _ rfl gf hd fun a w G g9=>?_
 have h1:=(xC g9 hx).1;simp[execOp,ho,h1,Op.unary,Op.intArith]
theorem zOB(src dst:TypeId)(ds:TypeDesc)(x:Operand)(k k':IntKind)(n:Int)(ho:o.op=.convert src dst x)(gf:o.dst=aN d)(hd:d<Γ.N)
  (hs:P.underlying src=aN ds)(ht:P.underlying dst=aN (.int k'))(hx:opT E x=aN (.lit (.int k n))):
  yW P Γ o E (E.app [(d,aN (.lit (.int k' (k'.wrap n))))] [(d,0)]):=by
 refine qA _ rfl gf hd fun a w G g9=>?_
 have h1:=(xC g9 hx).1;simp[execOp,ho,h1,convert,run_underlying hs,run_underlying ht,Conv.intToInt]
theorem zOC(c x y:Operand)(b:Bool)(t:T)(ho:o.op=.pick c x y)(gf:o.dst=aN d)(hd:d<Γ.N)
  (hc:opT E c=aN (.lit (.bool b)))(hx:opT E (if b then x else y)=aN t)(ht:∀xs,t≠.tup xs)
  (gj:∀s,(if b then x else y)=.tmp s→s≠d)(gG:T.okB [(d,0)] (vE (if b then x else y) t)=aP):yW P Γ o E (E.app [(d,aN (vE (if b then x else y) t))] [(d,0)]):=by
 refine yW.value gf fun a w G g9=>?_
 obtain⟨f,hf,h1,h2⟩:=opd g9 hx ht;obtain⟨h3,h4⟩:=h1 d gj gG;refine⟨a.eval (if b then x else y),w,?_,_,xM g9 rfl hd f hf _ _ h3 h4 h2⟩;have h5:=(xC g9 hc).1;cases b<;>simp[execOp,ho,h5,asBool]
end
end Go.Ab

namespace Go.Ab
open Go
def uP(E:Env):Nat→Nat→List Nat→Option (Nat×List Nat×T)
 |0,_,_=>aO
 |n+1,r,q=>match E r with
  |some t=>match t.get q.reverse with
   |some (.same r' q')=>uP E n r' q'
   |some u=>aN (r,q,u)
   |none=>aO
  |none=>aO
def vK(E:Env):Operand→Option (Nat×List Nat×T)
 |.tmp s=>uP E 4 s []
 |_=>aO
def T.single:T→Bool
 |.agg _|.tup _=>aQ
 |_=>aP
theorem yE{G:Gh}{s:Nat}{t:T}{p:List Nat}(h:t.single=aP):mkV G s t p=G.hd s p:=by cases t<;>simp[T.single]at h<;>rfl
section
variable {P:Program}{Γ:Ctx}{E:Env}{o:Oper}{d:Nat}
theorem zAH{G:Gh}{a:Act}{w:World}(g9:Rep Γ E G a.tmps w):∀(n s:Nat)(p:List Nat)(r:Nat)(q:List Nat)(u:T),uP E n s p=aN (r,q,u)→
  R Γ.St G w r u q∧G.hd s p=G.hd r q∧(∃t,E r=aN t∧t.get q.reverse=aN u)
 |0,_,_,_,_,_,h=>by simp[uP]at h
 |n+1,s,p,r,q,u,h=>by
  simp only[uP]at h;split at h
  ·rename_i t ht
   obtain⟨_,h4,_⟩:=g9.ent _ _ ht;split at h
   ·rename_i r' q' hg
    obtain⟨h1,h2,h3⟩:=zAH g9 n r' q' r q u h;have h5:=(kY p.reverse t _ [] h4 hg).1;simp only[rp,Kc,Je,R]at h5;exact⟨h1,h5.trans h2,h3⟩
   ·rename_i u' hns hg
    simp at h;obtain⟨rfl,rfl,rfl⟩:=h;have h5:=(kY p.reverse t _ [] h4 hg).1;simp only[rp,Kc,Je]at h5;exact⟨h5,rfl,t,ht,hg⟩
   ·cases h
  ·cases h
theorem uV{G:Gh}{a:Act}{w:World}(g9:Rep Γ E G a.tmps w){x:Operand}{r:Nat}{q:List Nat}{u:T}(h:vK E x=aN (r,q,u))(hu:u.single=aP):
  R Γ.St G w r u q∧a.eval x=G.hd r q:=by
 cases x with
 |tmp s=>
  obtain⟨h1,h2,_⟩:=zAH g9 4 s [] r q u h;refine⟨h1,?_⟩;rw[←h2];simp only[vK,uP]at h;split at h
  ·rename_i t ht
   obtain⟨h3,_,_⟩:=g9.ent s _ ht;rw[yX h3];simp only[H5,T.get]at h;have:t.single=aP:=by cases t<;>first|rfl|(simp at h;obtain⟨_,_,rfl⟩:=h;simp[T.single]at hu)
   exact yE this
  ·cases h
 |_=>simp[vK]at h
theorem zFX{St:Stb}{G:Gh}{w:World}{s:Nat}{k:Nat}{xs:List T}{p:List Nat}(h:R St G w s (.sl k xs) p):∃a c,G.hd s p=.slice a xs.length c:=by
 simp only[R]at h;rcases h with⟨rfl,a,h⟩|⟨b,_,cap,_,_,h,_⟩
 ·exact⟨a,0,h⟩
 ·exact⟨_,_,h⟩
theorem zAI{St:Stb}{G:Gh}{w:World}{s:Nat}{k:Nat}{xs:List T}{p:List Nat}(h:R St G w s (.ro (.sl k xs)) p):∃a c,G.hd s p=.slice a xs.length c∧xs.length≤c∧c≤maxLen∧
   (xs≠[]→ ∃b o' cs' e fr,a=aN ⟨b,o',aO⟩∧St b=aN (.cells cs' e fr)∧RoL St xs cs' o' k):=by
 simp only[R,RoC]at h;obtain⟨a,c,h1,h2,h3,h4⟩:=h;exact⟨a,c,by simpa using h1,h2,h3,h4⟩
def zGO:T→Option Nat
 |.sl _ xs|.ro (.sl _ xs)=>aN xs.length
 |.lit (.slice _ n _)=>aN n
 |.lit (.string s)=>aN s.size
 |_=>aO
def zOD:T→TypeDesc→Bool
 |.lit (.string _),.string=>aP
 |.sl _ _,.slice _|.ro (.sl _ _),.slice _|.lit (.slice _ _ _),.slice _=>aP
 |_,_=>aQ
theorem zL1(x:Operand)(t:TypeId)(ds:TypeDesc)(r:Nat)(q:List Nat)(u:T)(n:Nat)(ho:o.op=.call { callee:=.builtin .len,args:=#[x],argTypes:=#[t] })(gf:o.dst=aN d)(hd:d<Γ.N)
  (ht:P.underlying t=aN ds)(hx:vK E x=aN (r,q,u))(hl:zGO u=aN n)(cC:zOD u ds=aP):
  yW P Γ o E (E.app [(d,aN (.lit (.int .i64 n)))] [(d,0)]):=by
 refine qA (.int .i64 n) rfl gf hd fun a w G g9=>?_
 have hu:u.single=aP:=by cases u<;>simp[zGO]at hl<;>rfl
 obtain⟨h1,h2⟩:=uV g9 hx hu;have h3:(Builtin.len_ #[t] o.type #[G.hd r q]).run P w=.ok (.int .i64 n) w:=by
  cases u with
  |sl k xs=>
   obtain⟨a',c,h4⟩:=zFX h1;simp[zGO]at hl;subst hl;cases ds<;>simp[zOD]at cC
   simp[Builtin.len_,run_underlying ht,h4,goInt]
  |ro t'=>
   cases t'<;>simp[zGO]at hl
   obtain⟨a',c,h4,_⟩:=zAI h1;subst hl;cases ds<;>simp[zOD]at cC
   simp[Builtin.len_,run_underlying ht,h4,goInt]
  |lit v=>
   simp only[R]at h1;cases v<;>simp[zGO]at hl<;>(subst hl;cases ds<;>simp[zOD]at cC;simp[Builtin.len_,run_underlying ht,h1,goInt])
  |_=>simp[zGO]at hl
 simp[execOp,ho,resolve,invoke,builtin,h2,h3]
theorem zBs{G:Gh}{w:World}{s:Nat}{t:T}{p:List Nat}{b o:Nat}(h:Loc G w s t p b o):G.ad s p=⟨b,o,aO⟩:=by cases t<;>simp only[Loc]at h<;>first|exact h.1|exact h.elim
theorem wO(b o n:Nat):(⟨b,o,aO⟩:Addr).add n=⟨b,o+n,aO⟩:=by
 unfold Addr.add;split
 ·rename_i h;subst h;rfl
 ·rfl
theorem zOE{St:Stb}{G:Gh}{w:World}{s:Nat}{k:Nat}{xs:List T}{p:List Nat}(h:R St G w s (.sl k xs) p){i:Nat}(hi:i<xs.length):
  ∃b o0 cap,G.hd s p=.slice (aN ⟨b,o0,aO⟩) xs.length cap∧G.ad s (i::p)=⟨b,o0+i*k,aO⟩:=by
 simp only[R]at h;rcases h with⟨rfl,_⟩|⟨b,o0,cap,cs,e,h1,h2,h3,h4,h5,h6,h7,h8⟩
 ·simp at hi
 ·have:=(uD xs p 0 b o0 k i xs[i] h8 (by simp[hi])).1
  simp only[J6]at this;exact⟨b,o0,cap,h1,zBs this⟩
theorem zRH(x y:Operand)(t e:TypeId)(ti:TypeInfo)(r:Nat)(q:List Nat)(k:Nat)(xs:List T)(kd:IntKind)(i:Int)(ho:o.op=.indexAddr t x y)(gf:o.dst=aN d)(hd:d<Γ.N)
  (ht:P.underlying t=aN (.slice e))(he:P.info? e=aN ti)(hk:ti.size=k)(hx:vK E x=aN (r,q,.sl k xs))(hy:opT E y=aN (.lit (.int kd i)))(h0:0≤i)(h1:i.toNat<xs.length):
  yW P Γ o E (E.app [(d,aN (.addr r (i.toNat::q)))] [(d,0)]):=by
 refine yW.value gf fun a w G g9=>?_
 obtain⟨g1,g2⟩:=uV g9 hx rfl;have g3:=(xC g9 hy).1;obtain⟨b,o0,cap,g4,g5⟩:=zOE g1 h1;refine⟨.pointer (aN (G.ad r (i.toNat::q))),w,?_,_,xM g9 rfl hd (fun _=>.pointer (aN (G.ad r (i.toNat::q)))) (fun _=>rfl) _ _ (by simp[mkV,Gh.put]) (by simp[R,Gh.put]) (by simp[Top])⟩;have gI:i<(xs.length:Int):=by omega
 simp[execOp,ho,Instr.indexAt,g3,g2,g4,asIntOf,run_underlying ht,h0,gI,sizeOf,typeInfo,he,hk,wO,g5]
theorem zDw{St:Stb}:(xs:List T)→ ∀(cs:Array Value)(o k i:Nat)(x:T),RoL St xs cs o k→xs[i]? =aN x→RoC St x cs (o+i*k)
 | [],_,_,_,_,_,_,h=>by simp at h
 |y::ys,cs,o,k,i,x,hr,h=>by
  simp only[RoL]at hr;cases i with
  |zero=>simp at h;subst h;simpa using hr.1
  |succ i=>
   have:=zDw ys cs (o+k) k i x hr.2 (by simpa using h)
   rwa [show o+(i+1)*k=o+k+i*k from by rw[Kz];omega]
theorem zFY{St:Stb}:(xs:List T)→ ∀(cs:Array Value)(o i:Nat)(x:T),RoF St xs cs o→xs[i]? =aN x→RoC St x cs (o+T.sizes (xs.take i))
 | [],_,_,_,_,_,h=>by simp at h
 |y::ys,cs,o,i,x,hr,h=>by
  simp only[RoF]at hr;cases i with
  |zero=>simp at h;subst h;simpa[T.sizes]using hr.1
  |succ i=>
   have:=zFY ys cs (o+y.size) i x hr.2 (by simpa using h)
   rwa [Kj,T.sizes,←L9]
theorem zL2(x y:Operand)(t e:TypeId)(ti:TypeInfo)(r:Nat)(q:List Nat)(k:Nat)(xs:List T)(kd:IntKind)(i:Int)(u:T)(ho:o.op=.indexAddr t x y)(gf:o.dst=aN d)(hd:d<Γ.N)
  (ht:P.underlying t=aN (.slice e))(he:P.info? e=aN ti)(hk:ti.size=k)(hx:vK E x=aN (r,q,.ro (.sl k xs)))(hy:opT E y=aN (.lit (.int kd i)))(h0:0≤i)(h1:xs[i.toNat]? =aN u):
  yW P Γ o E (E.app [(d,aN (.ro (.ptr u)))] [(d,0)]):=by
 refine yW.value gf fun a w G g9=>?_
 obtain⟨g1,g2⟩:=uV g9 hx rfl;have g3:=(xC g9 hy).1;have aj:i.toNat<xs.length:=(J8.1 h1).1;obtain⟨a',c,g4,_,_,g5⟩:=zAI g1;obtain⟨b,o',cs',e',fr,rfl,g6,g7⟩:=g5 (by rintro rfl;simp at aj);have g8:=zDw xs cs' o' k i.toNat u g7 h1;refine⟨.pointer (aN ⟨b,o'+i.toNat*k,aO⟩),w,?_,_,xM g9 rfl hd (fun _=>.pointer (aN ⟨b,o'+i.toNat*k,aO⟩)) (fun _=>rfl) _ _ (by simp[mkV,Gh.put]) ?_ (by simp[Top])⟩
 ·have gI:i<(xs.length:Int):=by omega
  simp[execOp,ho,Instr.indexAt,g3,g2,g4,asIntOf,run_underlying ht,h0,gI,sizeOf,typeInfo,he,hk,wO]
 ·simp only[R,Gh.put_self,RoC]
  exact⟨b,_,cs',e',fr,by simp,g6,g8⟩
theorem zBN:(xs:List T)→ ∀{G:Gh}{w:World}{s:Nat}(p:List Nat)(j b o i:Nat)(x:T),wB G w s xs p j b o→xs[i]? =aN x→
  Loc G w s x ((j+i)::p) b (o+T.sizes (xs.take i))
 | [],_,_,_,_,_,_,_,_,_,_,h=>by simp at h
 |y::ys,G,w,s,p,j,b,o,i,x,hr,h=>by
  simp only[wB]at hr;cases i with
  |zero=>simp at h;subst h;simpa[T.sizes]using hr.1
  |succ i=>
   have:=zBN ys p (j+1) b (o+y.size) i x hr.2 (by simpa using h)
   rwa [show j+(i+1)=j+1+i from by omega,Kj,T.sizes,←L9]
theorem wX{P:Program}{w:World}(a:Addr):(Instr.sureAddr (.pointer (aN a))).run P w=.ok a w:=rfl
theorem zCY{P:Program}{w:World}{S:TypeId}{fs:Array Field}{f:Field}{fi:TypeInfo}{j:Nat}{b o':Nat}(hS:P.underlying S=aN (.struct fs))(hf:fs[j]? =aN f)(hi:P.info? f.type=aN fi)(hz:fi.size≠0):
  (Instr.fieldAt S (.pointer (aN ⟨b,o',aO⟩)) j).run P w=.ok (.pointer (aN ⟨b,o'+f.offset,aO⟩)) w:=by
 simp[Instr.fieldAt,run_underlying hS,hf,wX,fieldPlace,sizeOf,typeInfo,hi,hz,wO]
theorem zRI(x:Operand)(S:TypeId)(fs:Array Field)(f:Field)(fi:TypeInfo)(j:Nat)(r:Nat)(q:List Nat)(xs:List T)(u:T)(ho:o.op=.fieldAddr S x j)(gf:o.dst=aN d)(hd:d<Γ.N)
  (hS:P.underlying S=aN (.struct fs))(hf:fs[j]? =aN f)(hi:P.info? f.type=aN fi)(hz:fi.size≠0)(hx:vK E x=aN (r,q,.ptr (.agg xs)))(hu:xs[j]? =aN u)(gB:T.sizes (xs.take j)=f.offset):
  yW P Γ o E (E.app [(d,aN (.addr r (j::0::q)))] [(d,0)]):=by
 refine yW.value gf fun a w G g9=>?_
 obtain⟨g1,g2⟩:=uV g9 hx rfl;simp only[R]at g1;obtain⟨b,cs,e,g4,_,_,_,g5,_⟩:=g1;simp only[Loc]at g5;have g6:=zBN xs (0::q) 0 b 0 j u g5.2 hu;simp only[J6]at g6;refine⟨.pointer (aN (G.ad r (j::0::q))),w,?_,_,xM g9 rfl hd (fun _=>.pointer (aN (G.ad r (j::0::q)))) (fun _=>rfl) _ _ (by simp[mkV,Gh.put]) (by simp[R,Gh.put]) (by simp[Top])⟩;have g7:=zCY (w:=w) (b:=b) (o':=0) hS hf hi hz;simp[execOp,ho,g2,g4,g7,zBs g6,gB]
theorem zBt{G:Gh}{a:Act}{w:World}(g9:Rep Γ E G a.tmps w){x:Operand}{u:T}(hx:opT E x=aN (.ro u)):RoC Γ.St u #[a.eval x] 0:=by
 cases x with
 |tmp s=>
  obtain⟨h1,h2,_⟩:=g9.ent s _ hx;simp only[R]at h2;rw[yX h1,yE rfl];exact h2
 |const v=>simp only[opT]at hx;split at hx<;>simp at hx
 |func f=>simp[opT]at hx
 |global g=>simp[opT]at hx
theorem zL3(x:Operand)(S:TypeId)(fs:Array Field)(f:Field)(fi:TypeInfo)(j:Nat)(xs:List T)(u:T)(ho:o.op=.fieldAddr S x j)(gf:o.dst=aN d)(hd:d<Γ.N)
  (hS:P.underlying S=aN (.struct fs))(hf:fs[j]? =aN f)(hi:P.info? f.type=aN fi)(hz:fi.size≠0)(hx:opT E x=aN (.ro (.ptr (.agg xs))))(hu:xs[j]? =aN u)(gB:T.sizes (xs.take j)=f.offset):
  yW P Γ o E (E.app [(d,aN (.ro (.ptr u)))] [(d,0)]):=by
 refine yW.value gf fun a w G g9=>?_
 have h1:=zBt g9 hx;simp only[RoC]at h1;obtain⟨b,o',cs',e,fr,h2,h3,h4⟩:=h1;have h5:=zFY xs cs' o' j u h4 hu;refine⟨.pointer (aN ⟨b,o'+f.offset,aO⟩),w,?_,_,xM g9 rfl hd (fun _=>.pointer (aN ⟨b,o'+f.offset,aO⟩)) (fun _=>rfl) _ _ (by simp[mkV,Gh.put]) ?_ (by simp[Top])⟩
 ·have g7:=zCY (w:=w) (b:=b) (o':=o') hS hf hi hz
  have h6:a.eval x=.pointer (aN ⟨b,o',aO⟩):=by simpa using h2
  simp[execOp,ho,h6,g7]
 ·simp only[R,Gh.put_self,RoC]
  exact⟨b,o'+f.offset,cs',e,fr,by simp,h3,by rw[←gB];exact h5⟩
def zC2:TypeDesc→Bool
 |.struct _|.array _ _=>aP
 |_=>aQ
theorem uR{P:Program}{w:World}{t:TypeId}{ds:TypeDesc}(ht:P.underlying t=aN ds):(isAgg t).run P w=.ok (zC2 ds) w:=by cases ds<;>simp[isAgg,run_underlying ht,zC2]
theorem vF{G:Gh}{w:World}{s:Nat}{t:T}{p:List Nat}{b o:Nat}(ht:t.single=aP)(h:Loc G w s t p b o):G.ad s p=⟨b,o,aO⟩∧G.lb b o=aN (aQ,s,p)∧yA w b o=aN (G.hd s p):=by cases t<;>simp[T.single]at ht<;>simpa only[Loc]using h
mutual
theorem zL4{G:Gh}{w:World}{s:Nat}:(t:T)→ ∀(p:List Nat)(b o:Nat),Loc G w s t p b o→ ∀(i:Nat)(v:Value),(vals G s t p)[i]? =aN v→yA w b (o+i)=aN v
 |.agg xs,p,b,o,h,i,v,hv=>by simp only[Loc,vals]at h hv;exact jK xs p 0 b o h.2 i v hv
 |.any,p,b,o,h,i,v,hv|.lit _,p,b,o,h,i,v,hv|.ro _,p,b,o,h,i,v,hv|.same _ _,p,b,o,h,i,v,hv|.addr _ _,p,b,o,h,i,v,hv|.sub _ _ _ _ _,p,b,o,h,i,v,hv|.sl _ _,p,b,o,h,i,v,hv|.ptr _,p,b,o,h,i,v,hv=>by
  simp only[Loc,vals]at h hv;cases i with
  |zero=>simp at hv;rw[←hv];exact h.2.2
  |succ i=>simp at hv
 |.tup _,_,_,_,h,_,_,_=>by simp only[Loc]at h
theorem jK{G:Gh}{w:World}{s:Nat}:(xs:List T)→ ∀(p:List Nat)(j b o:Nat),wB G w s xs p j b o→ ∀(i:Nat)(v:Value),(zP G s xs p j)[i]? =aN v→yA w b (o+i)=aN v
 | [],_,_,_,_,_,i,v,hv=>by simp[zP]at hv
 |x::xs,p,j,b,o,h,i,v,hv=>by
  simp only[wB,zP]at h hv;rw[K2]at hv;split at hv
  ·exact zL4 x (j::p) b o h.1 i v hv
  ·rename_i hge
   have gg:=xL (G:=G) (s:=s) x (j::p) (fun ys e=>by subst e;simp only[Loc]at h;exact h.1);have:=jK xs p (j+1) b (o+x.size) h.2 _ v hv
   rwa [show o+x.size+(i-(vals G s x (j::p)).length)=o+i from by omega]at this
theorem xL{G:Gh}{s:Nat}:(t:T)→ ∀(p:List Nat),(∀xs,t≠.tup xs)→(vals G s t p).length=t.size
 |.agg xs,p,_=>by simp only[vals,T.size];exact xF xs p 0
 |.any,_,_|.lit _,_,_|.ro _,_,_|.same _ _,_,_|.addr _ _,_,_|.sub _ _ _ _ _,_,_|.sl _ _,_,_|.ptr _,_,_|.tup _,_,_=>by simp[vals,T.size]
theorem xF{G:Gh}{s:Nat}:(xs:List T)→ ∀(p:List Nat)(j:Nat),(zP G s xs p j).length=T.sizes xs
 | [],_,_=>by simp[zP,T.sizes]
 |x::xs,p,j=>by
  simp only[zP,J9,T.sizes,xF xs p (j+1)]
  by_cases hx:∃ys,x=.tup ys
  ·obtain⟨ys,rfl⟩:=hx;simp[vals,T.size]
  ·rw[xL x (j::p) (fun ys e=>hx ⟨ys,e⟩)]
end
theorem zCZ{P:Program}{G:Gh}{w:World}{s:Nat}{t:T}{p:List Nat}{b o':Nat}{T':TypeId}{ds:TypeDesc}{ti:TypeInfo}(hT:P.underlying T'=aN ds)(hi:P.info? T'=aN ti)(hl:Loc G w s t p b o')
  (el:zC2 ds= !t.single)(gu:ti.size=t.size):(loadVar T' ⟨b,o',aO⟩).run P w=.ok (vO G s t p) w:=by
 cases t with
 |agg xs=>
  have h1:=run_loadCells_list (P:=P) (w:=w) ⟨b,o',aO⟩ (zP G s xs p 0) (fun j v hv=>by rw[wO];simp only[Loc]at hl;exact jK xs p 0 b o' hl.2 j v hv)
  rw[xF]at h1;simp only[T.size]at gu;simp[T.single]at el;simp[loadVar,uR hT,el,sizeOf,typeInfo,hi,gu,h1,vO]
 |tup xs=>simp only[Loc]at hl
 |_=>
  have h1:=(vF rfl hl).2.2;simp[T.single]at el;simp only[yA]at h1;simp[loadVar,uR hT,el,load,Sem.run,h1,vO]
def kZ(Γ:Ctx)(E:Env)(x:Operand)(r:Nat)(q:List Nat):Prop:=∀(a:Act)(w:World)(G:Gh),Rep Γ E G a.tmps w→a.eval x=.pointer (aN (G.ad r q))
theorem kZ.addr{x:Operand}{r:Nat}{q:List Nat}(hx:opT E x=aN (.addr r q)):kZ Γ E x r q:=fun a w G g9=>by
 cases x with
 |tmp s=>
  obtain⟨h1,h2,_⟩:=g9.ent s _ hx;simp only[R]at h2;rw[yX h1];exact h2
 |const v=>simp only[opT]at hx;split at hx<;>simp at hx
 |func f=>simp[opT]at hx
 |global g=>simp[opT]at hx
theorem kZ.ptr{x:Operand}{r:Nat}{q:List Nat}{t:T}(hx:vK E x=aN (r,q,.ptr t)):kZ Γ E x r (0::q):=fun a w G g9=>by obtain⟨g1,g2⟩:=uV g9 hx rfl;simp only[R]at g1;obtain⟨b,cs,e,g4,_,_,_,g5,_⟩:=g1;rw[g2,g4,zBs g5]
theorem zGP(x:Operand)(T':TypeId)(ds:TypeDesc)(ti:TypeInfo)(r:Nat)(q:List Nat)(t u:T)(ho:o.op=.load T' x)(gf:o.dst=aN d)(hd:d<Γ.N)
  (hT:P.underlying T'=aN ds)(hi:P.info? T'=aN ti)(el:zC2 ds= !u.single)(gu:ti.size=u.size)
  (hx:kZ Γ E x r q)(hr:E r=aN t)(hg:t.get q.reverse=aN u)(hl:t.locd q.reverse=aP)(gy:r≠d)(gG:T.okB [(d,0)] (cpT r u q)=aP):
  yW P Γ o E (E.app [(d,aN (cpT r u q))] [(d,0)]):=by
 refine yW.value gf fun a w G g9=>?_
 have pY:=hx a w G g9;obtain⟨_,h4,_⟩:=g9.ent r _ hr;obtain⟨h5,h6⟩:=kY q.reverse t u [] h4 hg;obtain⟨b,o',cs,e,h6,_,_⟩:=h6 hl;simp only[rp,Kc,Je]at h5 h6;have gR:∀xs,u≠.tup xs:=by rintro xs rfl;simp only[Loc]at h6
 have h7:=zBs h6;have hz:∀z,(G.put d (fun z=>G.hd r (z++q))).hd d (z++[])=G.hd r (z++q):=fun z=>by rw[Gh.put_self,Je]
 have hk:=G.put_keep (w:=w) (w':=w) rfl d (fun z=>G.hd r (z++q));refine⟨vO G r u q,w,?_,_,xM g9 rfl hd (fun z=>G.hd r (z++q)) (fun z=>g9.mem.one _ _) _ _ (sZ u q [] gR hz).symm
  (zBq (fun p=>G.put_other _ p gy) u q [] hz gR (hk.keepR (qQ _ (uN r u q) gG)) h5) (uN r u q)⟩
 have h8:=zCZ (T':=T') hT hi h6 el gu;simp[execOp,ho,pY,h7,Instr.loadAt,wX,h8]
theorem zOF(x:Operand)(T':TypeId)(ds:TypeDesc)(ti:TypeInfo)(r:Nat)(q:List Nat)(t u:T)(ho:o.op=.load T' x)(gf:o.dst=aN d)(hd:d<Γ.N)
  (hT:P.underlying T'=aN ds)(hi:P.info? T'=aN ti)(el:zC2 ds= !u.single)(gu:ti.size=u.size)
  (hx:opT E x=aN (.addr r q))(hr:E r=aN t)(hg:t.get q.reverse=aN u)(hl:t.locd q.reverse=aP)(gy:r≠d)(gG:T.okB [(d,0)] (cpT r u q)=aP):
  yW P Γ o E (E.app [(d,aN (cpT r u q))] [(d,0)]):=zGP x T' ds ti r q t u ho gf hd hT hi el gu (kZ.addr hx) hr hg hl gy gG
def roT:T→T
 |.lit v=>.lit v
 |.agg xs=>.agg (roTs xs)
 |.ro t=>.ro (.ro t)
 |.any=>.any
 |.same r q=>.ro (.same r q)
 |.addr r q=>.ro (.addr r q)
 |.sub r q k lo hi=>.ro (.sub r q k lo hi)
 |.sl k xs=>.ro (.sl k xs)
 |.ptr t=>.ro (.ptr t)
 |.tup xs=>.ro (.tup xs)
where roTs:List T→List T
 | []=>[]
 |x::xs=>roT x::roTs xs
end
end Go.Ab

namespace Go.Ab
open Go
def tM(v:Value):Value:=if v.oneCell' then v else .bool aQ
theorem jL(v:Value):(tM v).oneCell'=aP:=by
 unfold tM;split
 ·assumption
 ·rfl
theorem tW{v:Value}(h:v.oneCell'=aP):tM v=v:=by simp[tM,h]
def zBu:T→Array Value→Nat→List Nat→Value
 |.agg xs,cs,o,i::f=>match xs[i]? with
  |some x=>zBu x cs (o+T.sizes (xs.take i)) f
  |none=>.bool aQ
 |_,cs,o,_=>cs.getD o (.bool aQ)
termination_by structural _ _ _ f=>f
theorem qS{t:T}(h:t.single=aP)(cs:Array Value)(o:Nat)(f:List Nat):zBu t cs o f=cs.getD o (.bool aQ):=by cases t<;>simp[T.single]at h<;>cases f<;>rfl
mutual
theorem zBO:(u:T)→(∀xs,u≠.tup xs)→(roT u).size=u.size
 |.agg xs,_=>by simp only[roT,T.size];exact zC3 xs
 |.lit _,_|.any,_|.sl _ _,_|.ptr _,_|.ro _,_|.same _ _,_|.addr _ _,_|.sub _ _ _ _ _,_|.tup _,_=>by simp[roT,T.size]
theorem zC3:(xs:List T)→T.sizes (roT.roTs xs)=T.sizes xs
 | []=>by simp only[roT.roTs]
 |x::xs=>by
  simp only[roT.roTs,T.sizes,zC3 xs]
  by_cases hx:∃ys,x=.tup ys
  ·obtain⟨ys,rfl⟩:=hx;simp[roT,T.size]
  ·rw[zBO x (fun ys e=>hx ⟨ys,e⟩)]
end
section
variable {St:Stb}{G:Gh}{w:World}{d:Nat}
theorem zAj{u:T}{cs:Array Value}{o:Nat}(hu:u.single=aP)(h:RoC St u cs o):∃v,cs[o]? =aN v∧v.oneCell'=aP∧RoC St u #[v] 0:=by
 cases u<;>simp[T.single]at hu<;>simp only[RoC]at h ⊢
 ·obtain⟨v,h1,h2⟩:=h;exact⟨v,h1,h2,v,by simp,h2⟩
 ·exact⟨_,h.1,h.2,by simp,h.2⟩
 ·obtain⟨f,vs,h1,h2⟩:=h;exact⟨_,h1,rfl,f,vs,by simp,h2⟩
 ·obtain⟨a,c,h1,h2⟩:=h;exact⟨_,h1,rfl,a,c,by simp,h2⟩
 ·obtain⟨b,o',cs',e,fr,h1,h2⟩:=h;exact⟨_,h1,rfl,b,o',cs',e,fr,by simp,h2⟩
mutual
theorem zL5:(u:T)→ ∀(cs:Array Value)(o:Nat)(p:List Nat),(∀z,G.hd d (z++p)=tM (zBu u cs o z.reverse))→RoC St u cs o→R St G w d (roT u) p
 |.agg xs,cs,o,p,hd,h=>by
  simp only[roT,R,RoC]at h ⊢
  exact zL6 xs cs o p 0 o (by simp) (fun z j x hx=>by have:=hd (z++[j]);simp only[Jb,Kl,K3,Uo,Ga,H5,zBu]at this;rw[J6,this];simp[hx]) h
 |.lit v,cs,o,p,hd,h=>by
  simp only[roT,R,RoC]at h ⊢
  have:=hd [];rw[K3,qS rfl]at this;rw[this];simp[Jx,h.1,tW h.2]
 |.any,_,_,_,_,_=>by simp only[roT,R]
 |.ro _,cs,o,p,hd,h|.sl _ _,cs,o,p,hd,h|.ptr _,cs,o,p,hd,h=>by obtain⟨v,h1,h2,h3⟩:=zAj rfl h;have:=hd [];rw[K3,qS rfl]at this;simp only[roT,R];rw[this];simpa[Jx,h1,tW h2]using h3
 |.same _ _,_,_,_,_,h|.addr _ _,_,_,_,_,h|.sub _ _ _ _ _,_,_,_,_,h|.tup _,_,_,_,_,h=>by simp only[RoC]at h
theorem zL6:(xs:List T)→ ∀(cs:Array Value)(o0:Nat)(p:List Nat)(j o:Nat),o0≤o→(∀z i x,xs[i]? =aN x→G.hd d (z++((j+i)::p))=tM (zBu x cs (o+T.sizes (xs.take i)) z.reverse))→RoF St xs cs o→RF St G w d (roT.roTs xs) p j
 | [],_,_,_,_,_,_,_,_=>by simp only[roT.roTs,RF]
 |x::xs,cs,o0,p,j,o,ho,hd,h=>by
  simp only[roT.roTs,RF,RoF]at h ⊢
  refine⟨zL5 x cs o (j::p) (fun z=>by simpa[T.sizes]using hd z 0 x (by simp)) h.1,zL6 xs cs o0 p (j+1) (o+x.size) (by omega) (fun z i y hy=>?_) h.2⟩;have:=hd z (i+1) y (by simpa using hy);simp only[Kj,T.sizes]at this;rw[show j+1+i=j+(i+1)from by omega,show o+x.size+T.sizes (xs.take i)=o+(x.size+T.sizes (xs.take i))from L9 ..];exact this
end
mutual
theorem zDC:(u:T)→ ∀(cs:Array Value)(o:Nat)(p:List Nat),(∀z,G.hd d (z++p)=tM (zBu u cs o z.reverse))→RoC St u cs o→ ∀(i:Nat)(v:Value),(vals G d (roT u) p)[i]? =aN v→cs[o+i]? =aN v
 |.agg xs,cs,o,p,hd,h,i,v,hv=>by
  simp only[roT,vals,RoC]at h hv;exact zFa xs cs p 0 o (fun z j x hx=>by have:=hd (z++[j]);simp only[Jb,Kl,K3,Uo,Ga,H5,zBu]at this;rw[J6,this];simp[hx]) h i v hv
 |.lit _,cs,o,p,hd,h,i,v,hv|.ro _,cs,o,p,hd,h,i,v,hv|.any,cs,o,p,hd,h,i,v,hv|.sl _ _,cs,o,p,hd,h,i,v,hv|.ptr _,cs,o,p,hd,h,i,v,hv=>by
  obtain⟨v',h1,h2,h3⟩:=zAj rfl h;have:=hd [];rw[K3,qS rfl]at this;simp only[roT,vals]at hv;cases i with
  |zero=>
   simp at hv;rw[←hv,this];simp[Jx,h1,tW h2]
  |succ i=>simp at hv
 |.same _ _,_,_,_,_,h,_,_,_|.addr _ _,_,_,_,_,h,_,_,_|.sub _ _ _ _ _,_,_,_,_,h,_,_,_|.tup _,_,_,_,_,h,_,_,_=>by simp only[RoC]at h
theorem zFa:(xs:List T)→ ∀(cs:Array Value)(p:List Nat)(j o:Nat),(∀z i x,xs[i]? =aN x→G.hd d (z++((j+i)::p))=tM (zBu x cs (o+T.sizes (xs.take i)) z.reverse))→RoF St xs cs o→ ∀(i:Nat)(v:Value),(zP G d (roT.roTs xs) p j)[i]? =aN v→cs[o+i]? =aN v
 | [],_,_,_,_,_,_,i,v,hv=>by simp[roT.roTs,zP]at hv
 |x::xs,cs,p,j,o,hd,h,i,v,hv=>by
  simp only[roT.roTs,zP,RoF]at h hv;have hx:∀z,G.hd d (z++(j::p))=tM (zBu x cs o z.reverse):=fun z=>by simpa[T.sizes]using hd z 0 x (by simp)
  have gg:(vals G d (roT x) (j::p)).length=x.size:=by have hs:(roT x).size=x.size:=zBO x (fun ys e=>by subst e;simp only[RoC]at h;exact h.1);rw[xL (roT x) (j::p) (fun ys e=>by cases x<;>simp[roT]at e),hs]
  rw[K2]at hv;split at hv
  ·exact zDC x cs o (j::p) hx h.1 i v hv
  ·have:=zFa xs cs p (j+1) (o+x.size) (fun z i y hy=>by
    have:=hd z (i+1) y (by simpa using hy);simp only[Kj,T.sizes]at this;rw[show j+1+i=j+(i+1)from by omega,show o+x.size+T.sizes (xs.take i)=o+(x.size+T.sizes (xs.take i))from L9 ..];exact this) h.2 _ v hv
   rwa [gg,show o+x.size+(i-x.size)=o+i from by omega]at this
end
mutual
theorem zJv:(u:T)→Top (roT u)
 |.agg xs=>by simp only[roT,Top];exact zGQ xs
 |.lit _|.any|.sl _ _|.ptr _|.ro _|.same _ _|.addr _ _|.sub _ _ _ _ _|.tup _=>by simp[roT,Top]
theorem zGQ:(xs:List T)→wL (roT.roTs xs)
 | []=>by simp only[roT.roTs,wL]
 |x::xs=>by simp only[roT.roTs,wL];exact⟨zJv x,zGQ xs⟩
end
end
section
variable {P:Program}{Γ:Ctx}{E:Env}{o:Oper}{d:Nat}
theorem zFZ{G:Gh}{w:World}(hm:Mem Γ G w){b:Nat}{cs:Array Value}{e:TypeId}{fr:Nat×Nat}(h:Γ.St b=aN (.cells cs e fr))(i:Nat):w.cell? ⟨b,i,aO⟩=cs[i]?:=by simp[World.cell?,hm.st b _ h]
theorem zIw(x:Operand)(T':TypeId)(ds:TypeDesc)(ti:TypeInfo)(u:T)(ho:o.op=.load T' x)(gf:o.dst=aN d)(hd:d<Γ.N)
  (hT:P.underlying T'=aN ds)(hi:P.info? T'=aN ti)(el:zC2 ds= !u.single)(gu:ti.size=u.size)
  (hx:opT E x=aN (.ro (.ptr u))):yW P Γ o E (E.app [(d,aN (roT u))] [(d,0)]):=by
 refine yW.value gf fun a w G g9=>?_
 have h1:=zBt g9 hx;simp only[RoC]at h1;obtain⟨b,o',cs',e,fr,h2,h3,h4⟩:=h1;have eO:a.eval x=.pointer (aN ⟨b,o',aO⟩):=by simpa using h2
 have gR:∀xs,u≠.tup xs:=by rintro xs rfl;simp only[RoC]at h4
 let f:List Nat→Value:=fun z=>tM (zBu u cs' o' z.reverse)
 have hz:∀z,(G.put d f).hd d (z++[])=tM (zBu u cs' o' z.reverse):=fun z=>by rw[Gh.put_self,Je]
 refine⟨mkV (G.put d f) d (roT u) [],w,?_,_,xM g9 rfl hd f (fun z=>jL _) _ _ rfl (zL5 u cs' o' [] hz h4) (zJv u)⟩;cases u with
 |agg xs=>
  have h5:∀j v,(zP (G.put d f) d (roT.roTs xs) [] 0)[j]? =aN v→w.cell? ((⟨b,o',aO⟩:Addr).add j)=aN v:=by intro j v hv;rw[wO,zFZ g9.mem h3];exact zDC (.agg xs) cs' o' [] hz h4 j v (by simpa only[roT,vals]using hv)
  have h6:=run_loadCells_list (P:=P) (w:=w) ⟨b,o',aO⟩ _ h5;rw[xF,zC3]at h6;simp only[T.size]at gu;simp[T.single]at el;simp[execOp,ho,eO,Instr.loadAt,wX,loadVar,uR hT,el,sizeOf,typeInfo,hi,gu,h6,mkV,roT]
 |tup xs=>exact absurd rfl (gR xs)
 |_=>
  obtain⟨v,h5,h6,h7⟩:=zAj rfl h4;have h8:w.cell? ⟨b,o',aO⟩=aN v:=by rw[zFZ g9.mem h3];exact h5
  simp[T.single]at el;have h9:f []=v:=by show tM (zBu _ cs' o' _)=v;rw[qS rfl];simp[Jx,h5,tW h6]
  simp[execOp,ho,eO,Instr.loadAt,wX,loadVar,uR hT,el,load,Sem.run,h8,mkV,roT,Gh.put_self,h9]
def zDa(E:Env)(x:Operand):Bool:=
 match opT E x with
 |some (.addr _ _)|some (.ro (.ptr _))=>aP
 |_=>match vK E x with
  |some (_,_,.ptr _)=>aP
  |some (_,_,.ro (.ptr _))=>aP
  |_=>aQ
theorem zL7{G:Gh}{a:Act}{w:World}(g9:Rep Γ E G a.tmps w){x:Operand}(h:zDa E x=aP):∃ad,a.eval x=.pointer (aN ad):=by
 unfold zDa at h;split at h
 ·rename_i r q hx
  cases x with
  |tmp s=>
   obtain⟨h1,h2,_⟩:=g9.ent s _ hx;simp only[R]at h2;exact⟨_,by rw[yX h1,yE rfl,h2]⟩
  |const v=>simp only[opT]at hx;split at hx<;>simp at hx
  |func f=>simp[opT]at hx
  |global g=>simp[opT]at hx
 ·rename_i u hx
  have:=zBt g9 hx;simp only[RoC]at this;obtain⟨b,o',_,_,_,h1,_⟩:=this;exact⟨_,by simpa using h1⟩
 ·split at h
  ·rename_i hl
   obtain⟨h1,h2⟩:=uV g9 hl rfl;simp only[R]at h1;obtain⟨b,cs,e,h3,_⟩:=h1;exact⟨_,by rw[h2,h3]⟩
  ·rename_i hl
   obtain⟨h1,h2⟩:=uV g9 hl rfl;simp only[R,RoC]at h1;obtain⟨b,o',_,_,_,h3,_⟩:=h1;exact⟨_,by rw[h2];simpa using h3⟩
  ·cases h
theorem zQB(x:Operand)(t:T)(ho:o.op=.nilCheck x)(gf:o.dst=aN d)(hd:d<Γ.N)(hx:opT E x=aN t)(hp:zDa E x=aP)(ht:∀xs,t≠.tup xs)
  (gj:∀s,x=.tmp s→s≠d)(gG:T.okB [(d,0)] (vE x t)=aP):yW P Γ o E (E.app [(d,aN (vE x t))] [(d,0)]):=by
 refine yW.value gf fun a w G g9=>?_
 obtain⟨f,hf,h1,h2⟩:=opd g9 hx ht;obtain⟨h3,h4⟩:=h1 d gj gG;obtain⟨ad,h5⟩:=zL7 g9 hp;refine⟨a.eval x,w,?_,_,xM g9 rfl hd f hf _ _ h3 h4 h2⟩;simp[execOp,ho,h5]
theorem zGR{G:Gh}{s:Nat}:(xs:List T)→ ∀(p:List Nat)(j i:Nat)(x:T),xs[i]? =aN x→(sB G s xs p j)[i]? =aN (vO G s x ((j+i)::p))
 | [],_,_,_,_,h=>by simp at h
 |y::ys,p,j,i,x,h=>by
  cases i with
  |zero=>simp at h;subst h;simp[sB]
  |succ i=>
   have:=zGR (G:=G) (s:=s) ys p (j+1) i x (by simpa using h);rw[show j+(i+1)=j+1+i from by omega];simpa[sB]using this
theorem zIx(s i:Nat)(ts:List T)(t:T)(ho:o.op=.extract (.tmp s) i)(gf:o.dst=aN d)(hd:d<Γ.N)(hs:E s=aN (.tup ts))(hi:ts[i]? =aN t)(ht:∀xs,t≠.tup xs)
  (gj:s≠d)(gG:T.okB [(d,0)] (cpT s t [i])=aP):yW P Γ o E (E.app [(d,aN (cpT s t [i]))] [(d,0)]):=by
 refine yW.value gf fun a w G g9=>?_
 obtain⟨h1,h2,_⟩:=g9.ent s _ hs;simp only[R]at h2;have h3:=jA ts [] 0 i t h2 hi;simp only[J6]at h3;have h4:=zGR (G:=G) (s:=s) ts [] 0 i t hi;simp only[J6]at h4;have hk:=G.put_keep (w:=w) (w':=w) rfl d (fun z=>G.hd s (z++[i]));have hz:∀z,(G.put d (fun z=>G.hd s (z++[i]))).hd d (z++[])=G.hd s (z++[i]):=fun z=>by rw[Gh.put_self,Je]
 refine⟨vO G s t [i],w,?_,_,xM g9 rfl hd (fun z=>G.hd s (z++[i])) (fun z=>g9.mem.one _ _) _ _ (sZ t [i] [] ht hz).symm
  (zBq (fun p=>G.put_other _ p gj) t [i] [] hz ht (hk.keepR (qQ _ (uN s t [i]) gG)) h3) (uN s t [i])⟩
 simp[execOp,ho,yX h1,mkV,Instr.extract,h4]
def kF(E:Env)(x:Option Operand)(dflt n:Nat):Prop:=
 match x with
 |none=>n=dflt
 |some y=> ∃kd,opT E y=aN (.lit (.int kd n))
theorem zDD{St:Stb}:(xs:List T)→ ∀(cs:Array Value)(o k l:Nat),RoL St xs cs o k→RoL St (xs.drop l) cs (o+l*k) k
 | [],_,_,_,_,_=>by simp[RoL]
 |x::xs,cs,o,k,l,h=>by
  cases l with
  |zero=>simpa using h
  |succ l=>
   simp only[RoL]at h;have:=zDD xs cs (o+k) k l h.2
   rwa [List.drop_succ_cons,show o+(l+1)*k=o+k+l*k from by rw[Kz];omega]
theorem zDE{St:Stb}:(xs:List T)→ ∀(cs:Array Value)(o k l:Nat),RoL St xs cs o k→RoL St (xs.take l) cs o k
 | [],_,_,_,_,_=>by simp[RoL]
 |x::xs,cs,o,k,l,h=>by
  cases l with
  |zero=>simp[RoL]
  |succ l=>simp only[RoL,Kj]at h ⊢;exact⟨h.1,zDE xs cs _ k l h.2⟩
theorem zAJ{P:Program}{G:Gh}{a:Act}{w:World}(g9:Rep Γ E G a.tmps w){x:Operand}{kd:IntKind}{n y:Nat}{c:BoundsCode}(hx:opT E x=aN (.lit (.int kd n)))(h:n≤y):
  (Instr.sliceBound (a.eval x) y c).run P w=.ok n w:=by
 rw[(xC g9 hx).1];have:(n:Int)≤(y:Int):=by omega
 simp[Instr.sliceBound,asIntOf,this]
theorem zDF{P:Program}{G:Gh}{a:Act}{w:World}(g9:Rep Γ E G a.tmps w){lo hi:Option Operand}{l h n c:Nat}(eo:kF E lo 0 l)(eF:kF E hi n h)(h1:l≤h)(h2:h≤c):
  (Instr.sliceBounds aP n c (lo.map a.eval) (hi.map a.eval) aO).run P w=.ok (l,h,c) w:=by
 cases lo with
 |none=>
  cases hi with
  |none=>simp only[kF]at eo eF;subst eo;subst eF;simp[Instr.sliceBounds]
  |some y=>simp only[kF]at eo eF;obtain⟨kd,hy⟩:=eF;subst eo;simp[Instr.sliceBounds,zAJ g9 hy h2]
 |some x=>
  obtain⟨kd,hx⟩:=eo;cases hi with
  |none=>simp only[kF]at eF;subst eF;simp[Instr.sliceBounds,zAJ g9 hx h1]
  |some y=>obtain⟨kd',hy⟩:=eF;simp[Instr.sliceBounds,zAJ g9 hy h2,zAJ g9 hx h1]
theorem zGS(x:Operand)(lo hi:Option Operand)(t e:TypeId)(ti:TypeInfo)(r:Nat)(q:List Nat)(k:Nat)(xs:List T)(l h:Nat)(ho:o.op=.slice t x lo hi aO)(gf:o.dst=aN d)(hd:d<Γ.N)
  (ht:P.underlying t=aN (.slice e))(he:P.info? e=aN ti)(hk:ti.size=k)(hx:vK E x=aN (r,q,.ro (.sl k xs)))(eo:kF E lo 0 l)(eF:kF E hi xs.length h)(h1:l≤h)(h2:h≤xs.length):
  yW P Γ o E (E.app [(d,aN (.ro (.sl k ((xs.drop l).take (h-l)))))] [(d,0)]):=by
 refine yW.value gf fun a w G g9=>?_
 obtain⟨g1,g2⟩:=uV g9 hx rfl;obtain⟨a',c,g4,g5,g6,g7⟩:=zAI g1;have g8:=zDF (P:=P) g9 eo eF h1 (Lb h2 g5);have gg:((xs.drop l).take (h-l)).length=h-l:=by simp;omega
 refine⟨.slice (if c=l then a' else a'.map (·.add (l*k))) (h-l) (c-l),w,?_,_,xM g9 rfl hd (fun _=>.slice (if c=l then a' else a'.map (·.add (l*k))) (h-l) (c-l)) (fun _=>rfl) _ _ (by simp[mkV,Gh.put]) ?_ (by simp[Top])⟩
 ·simp only[execOp,ho,Q8]
  simp[Instr.sliceAt,Instr.slice,run_underlying ht,g2,g4,g8,sizeOf,typeInfo,he,hk]
 ·simp only[R,Gh.put_self,RoC]
  refine⟨_,_,by rw[gg];rfl,by omega,by omega,?_⟩;intro gj;have pH:xs≠[]:=by rintro rfl;simp at gj
  obtain⟨b,o',cs',e',fr,rfl,h3,h4⟩:=g7 pH;have gJ:c≠l:=by rintro rfl;apply gj;apply Jr;omega
  exact⟨b,o'+l*k,cs',e',fr,by simp[gJ,wO],h3,zDE _ _ _ _ _ (zDD _ _ _ _ _ h4)⟩
theorem zGa(x:Operand)(lo hi:Option Operand)(t e:TypeId)(ti:TypeInfo)(r:Nat)(q:List Nat)(k:Nat)(xs:List T)(l h:Nat)(ho:o.op=.slice t x lo hi aO)(gf:o.dst=aN d)(hd:d<Γ.N)
  (ht:P.underlying t=aN (.slice e))(he:P.info? e=aN ti)(hk:ti.size=k)(hx:vK E x=aN (r,q,.sl k xs))(eo:kF E lo 0 l)(eF:kF E hi xs.length h)(h1:l≤h)(h2:h≤xs.length)(gy:r≠d):
  yW P Γ o E (E.app [(d,aN (.sub r q k l h))] [(d,0)]):=by
 refine yW.value gf fun a w G g9=>?_
 obtain⟨g1,g2⟩:=uV g9 hx rfl;obtain⟨a',c,g4⟩:=zFX g1;have g5:xs.length≤c:=by
  simp only[R]at g1;rcases g1 with⟨rfl,_⟩|⟨b,o0,cap,cs,e,g,_,g',_⟩
  ·simp
  ·rw[g4]at g;simp at g;omega
 have g8:=zDF (P:=P) g9 eo eF h1 (Lb h2 g5);refine⟨jI (G.hd r q) k l h,w,?_,_,xM g9 rfl hd (fun _=>jI (G.hd r q) k l h) (fun _=>by rw[g4];rfl) _ _ (by simp[mkV,Gh.put]) ?_ (by simp[Top])⟩
 ·simp only[execOp,ho,Q8]
  simp[Instr.sliceAt,Instr.slice,run_underlying ht,g2,g4,g8,sizeOf,typeInfo,he,hk,jI]
 ·simp only[R,Gh.put_self]
  rw[Gh.put_other _ _ _ gy]
end
end Go.Ab

namespace Go.Ab
open Go
def T.inT:T→List Nat→Bool
 |_,[]=>aP
 |.agg xs,i::f=>match xs[i]? with
  |some x=>x.inT f
  |none=>aQ
 |.any,_::_|.lit _,_::_|.ro _,_::_|.same _ _,_::_|.addr _ _,_::_|.sub _ _ _ _ _,_::_|.sl _ _,_::_|.ptr _,_::_|.tup _,_::_=>aQ
termination_by structural _ f=>f
def T.offT:T→List Nat→Nat
 |_,[]=>0
 |.agg xs,i::f=>match xs[i]? with
  |some x=>T.sizes (xs.take i)+x.offT f
  |none=>0
 |.any,_::_|.lit _,_::_|.ro _,_::_|.same _ _,_::_|.addr _ _,_::_|.sub _ _ _ _ _,_::_|.sl _ _,_::_|.ptr _,_::_|.tup _,_::_=>0
termination_by structural _ f=>f
theorem zDG{t:T}(h:t.single=aP){f:List Nat}(hf:f≠[]):t.inT f=aQ:=by
 cases f with
 |nil=>grind
 |cons i f=>cases t<;>simp[T.single]at h<;>rfl
mutual
def zL8:T→List Nat→Nat→Option (List Nat)
 |.agg xs,p,o=>zAk xs p 0 o
 |.any,p,o|.lit _,p,o|.ro _,p,o|.same _ _,p,o|.addr _ _,p,o|.sub _ _ _ _ _,p,o|.sl _ _,p,o|.ptr _,p,o|.tup _,p,o=>if o=0 then aN p else aO
def zAk:List T→List Nat→Nat→Nat→Option (List Nat)
 | [],_,_,_=>aO
 |x::xs,p,j,o=>if o<x.size then zL8 x (j::p) o else zAk xs p (j+1) (o-x.size)
end
mutual
def T.okTup:T→Bool
 |.tup _=>aQ
 |.agg xs=>zV xs
 |.any|.lit _|.ro _|.same _ _|.addr _ _|.sub _ _ _ _ _|.sl _ _|.ptr _=>aP
def zV:List T→Bool
 | []=>aP
 |x::xs=>x.okTup&&zV xs
end
theorem zBv:(xs:List T)→ ∀(p:List Nat)(j o:Nat),T.sizes xs≤o→zAk xs p j o=aO
 | [],_,_,_,_=>by rfl
 |x::xs,p,j,o,h=>by simp only[T.sizes]at h;simp only[zAk];rw[if_neg (by omega)];exact zBv xs p (j+1) _ (by omega)
section
variable {G:Gh}{w:World}{d:Nat}
mutual
theorem zQC:(x:T)→ ∀(p:List Nat)(B o:Nat),(∀xs,x≠.tup xs)→x.okTup=aP→
  (∀f,x.inT f=aP→G.ad d (f.reverse++p)=⟨B,o+x.offT f,aO⟩)→(∀j p',j<x.size→zL8 x p j=aN p'→G.lb B (o+j)=aN (aQ,d,p'))→
  (∀j v,(vals G d x p)[j]? =aN v→yA w B (o+j)=aN v)→Loc G w d x p B o
 |.agg xs,p,B,o,_,hn,ha,hl,hc=>by
  simp only[Loc];refine⟨by simpa[T.offT]using ha [] rfl,zDx xs p 0 B o (by grind[T.okTup]) (fun i x hx f hf=>?_) (fun j p' hj hp=>?_) (by grind[vals])⟩
  ·have:=ha (i::f) (by grind[T.inT])
   grind[T.offT]
  grind[T.size,zL8]
 |.any,p,B,o,_,_,ha,hl,hc|.lit _,p,B,o,_,_,ha,hl,hc|.ro _,p,B,o,_,_,ha,hl,hc|.same _ _,p,B,o,_,_,ha,hl,hc|.addr _ _,p,B,o,_,_,ha,hl,hc|.sub _ _ _ _ _,p,B,o,_,_,ha,hl,hc|.sl _ _,p,B,o,_,_,ha,hl,hc|.ptr _,p,B,o,_,_,ha,hl,hc=>by simp only[Loc];exact⟨by simpa[T.offT]using ha [] rfl,by simpa using hl 0 p (by simp[T.size]) (by rfl),by simpa using hc 0 (G.hd d p) (by simp[vals])⟩
 |.tup xs,_,_,_,h,_,_,_,_=>absurd rfl (h xs)
theorem zDx:(xs:List T)→ ∀(p:List Nat)(j B o:Nat),zV xs=aP→
  (∀i x,xs[i]? =aN x→ ∀f,x.inT f=aP→G.ad d (f.reverse++((j+i)::p))=⟨B,o+(T.sizes (xs.take i)+x.offT f),aO⟩)→
  (∀i p',i<T.sizes xs→zAk xs p j i=aN p'→G.lb B (o+i)=aN (aQ,d,p'))→
  (∀i v,(zP G d xs p j)[i]? =aN v→yA w B (o+i)=aN v)→wB G w d xs p j B o
 | [],_,_,_,_,_,_,_,_=>by simp only[wB]
 |x::xs,p,j,B,o,hn,ha,hl,hc=>by
  simp only[zV,J2]at hn;have gR:∀ys,x≠.tup ys:=by rintro ys rfl;grind[T.okTup]
  simp only[wB];refine⟨zQC x (j::p) B o gR hn.1 (fun f hf=>by simpa[T.sizes]using ha 0 x (by simp) f hf) (fun i p' hi hp=>hl i p' (by grind[T.sizes]) (by simp only[zAk,hi,if_true];exact hp)) (fun i v hv=>hc i v ?_),
   zDx xs p (j+1) B (o+x.size) hn.2 (fun i y hy f hf=>?_) (fun i p' hi hp=>?_) (fun i v hv=>?_)⟩
  ·grind[zP]
  ·have:=ha (i+1) y (by grind) f hf
   grind[T.sizes]
  ·have:=hl (x.size+i) p' (by grind[T.sizes]) (by simp only[zAk];grind)
   grind
  ·have:=hc (x.size+i) v (by
    grind[zP,xL])
   grind
end
end
structure MvC (G:Gh) (w:World) (G':Gh) (w':World) (s:Nat) (p:List Nat) (s':Nat) (p':List Nat) (t:T):Prop where
 hd:∀z,G'.hd s' (z++p')=G.hd s (z++p)
 ad:∀z,t.inT z.reverse=aQ→G'.ad s' (z++p')=G.ad s (z++p)
 lb:∀b o f z,(f=aP∨t.inT z.reverse=aQ)→G.lb b o=aN (f,s,z++p)→G'.lb b o=aN (f,s',z++p')∧yA w' b o=yA w b o
 ow:∀b z,G.ow b=aN (s,z++p)→G'.ow b=aN (s',z++p')
 blk:Blk w w'
section
variable {St:Stb}{G:Gh}{w:World}{G':Gh}{w':World}{s:Nat}{s':Nat}
theorem MvC.moves{p p':List Nat}{t:T}(h:MvC G w G' w' s p s' p' t)(ht:t.single=aP):zD9 G w G' w' s p s' p' where
 hd:=h.hd
 ad z hz:=h.ad z (zDG ht (by simp_all))
 lb b o f z hz _ hl:=h.lb b o f z (.inr (zDG ht (by simp_all))) hl
 ow b z _ hl:=h.ow b z hl
 blk:=h.blk
 sp b o _ hl:=by simpa using h.lb b o aP [] (.inl rfl) (by grind)
 ow0 b hl:=by simpa using h.ow b [] (by grind)
theorem MvC.field{p p':List Nat}{xs:List T}(h:MvC G w G' w' s p s' p' (.agg xs)){j:Nat}{x:T}(hx:xs[j]? =aN x):MvC G w G' w' s (j::p) s' (j::p') x where
 hd z:=by have:=h.hd (z++[j]);grind
 ad z hz:=by
  have:=h.ad (z++[j]) (by grind[T.inT])
  grind
 lb b o f z hf hl:=by
  have:=h.lb b o f (z++[j]) (by grind[T.inT]) (by grind)
  grind
 ow b z hl:=by
  have:=h.ow b (z++[j]) (by grind)
  grind
 blk:=h.blk
mutual
theorem zGT:(t:T)→ ∀(p p':List Nat),t.okTup=aP→MvC G w G' w' s p s' p' t→yD (sO G G') t→R St G w s t p→R St G' w' s' t p'
 |.agg xs,p,p',hn,h,hk,hr=>by
  simp only[R,yD,T.okTup]at hr hk hn ⊢
  exact zL9 xs p p' 0 hn (fun j x hx=>by rw[J6];exact h.field hx) hk hr
 |.any,p,p',_,h,hk,hr|.lit _,p,p',_,h,hk,hr|.ro _,p,p',_,h,hk,hr|.same _ _,p,p',_,h,hk,hr|.addr _ _,p,p',_,h,hk,hr|.sub _ _ _ _ _,p,p',_,h,hk,hr|.sl _ _,p,p',_,h,hk,hr|.ptr _,p,p',_,h,hk,hr=>
  tU (h.moves rfl) _ hk hr
 |.tup _,_,_,hn,_,_,_=>by grind[T.okTup]
theorem zL9:(xs:List T)→ ∀(p p':List Nat)(j:Nat),zV xs=aP→(∀i x,xs[i]? =aN x→MvC G w G' w' s ((j+i)::p) s' ((j+i)::p') x)→yQ (sO G G') xs→RF St G w s xs p j→RF St G' w' s' xs p' j
 | [],_,_,_,_,_,_,_=>by simp only[RF]
 |x::xs,p,p',j,hn,h,hk,hr=>by
  simp only[RF,yQ,zV,J2]at hr hk hn ⊢
  exact⟨zGT x (j::p) (j::p') hn.1 (by simpa using h 0 x (by simp)) hk.1 hr.1,zL9 xs p p' (j+1) hn.2 (fun i y hy=>by
   have:=h (i+1) y (by grind)
   grind) hk.2 hr.2⟩
end
end
theorem zJw{St:Stb}{G:Gh}{w:World}{s:Nat}:(xs:List T)→ ∀(p:List Nat)(j:Nat),(∀i x,xs[i]? =aN x→R St G w s x ((j+i)::p))→RF St G w s xs p j
 | [],_,_,_=>by simp only[RF]
 |x::xs,p,j,h=>by
  simp only[RF];exact⟨by simpa using h 0 x (by simp),zJw xs p (j+1) (fun i y hy=>by
   have:=h (i+1) y (by grind)
   grind)⟩
theorem zLA{St:Stb}{G:Gh}{w:World}{s:Nat}{k:Nat}:(xs:List T)→ ∀(p:List Nat)(j b o:Nat),(∀x∈xs,x.size=k)→wB G w s xs p j b o→RF St G w s xs p j→RL St G w s xs p j b o k
 | [],_,_,_,_,_,_,_=>by simp only[RL]
 |x::xs,p,j,b,o,hk,hl,hr=>by
  simp only[RL,wB,RF]at hl hr ⊢
  have h1:=hk x (by simp);exact⟨⟨hl.1,h1⟩,hr.1,zLA xs p (j+1) b (o+k) (by grind) (by grind) hr.2⟩
theorem xI{k:Nat}:(xs:List T)→(∀x∈xs,x.size=k)→T.sizes xs=xs.length*k
 | [],_=>by simp[T.sizes]
 |x::xs,h=>by simp[T.sizes,xI xs (fun y hy=>h y (by simp[hy])),h x (by simp),Kz];omega
def Gh.nb(G:Gh)(d B:Nat)(xs:List T)(src:Nat→Option (Nat×List Nat))(φ:Nat→List Nat→Option (List Nat))(f:Nat→List Nat→Value)(gQ:Value):Gh where
 hd s z:=if s=d then(match z.getLast? with
  |some i=>f i z.dropLast
  |none=>gQ)else G.hd s z
 ad s z:=if s=d then(if(T.agg xs).inT z.reverse then⟨B,(T.agg xs).offT z.reverse,aO⟩else match z.getLast? with
  |some i=>(match src i with
   |some (x,q)=>G.ad x (z.dropLast++q)
   |none=>default)
  |none=>default)else G.ad s z
 lb b o:=if b=B then aN (match zAk xs [] 0 o with
  |some p=>(aQ,d,p)
  |none=>(aP,d,[]))else match G.lb b o with
  |some (fl,s,z)=>(match φ s z with
   |some z'=>aN (fl,d,z')
   |none=>aN (fl,s,z))
  |none=>aO
 ow b:=if b=B then aN (d,[])else match G.ow b with
  |some (s,z)=>(match φ s z with
   |some z'=>aN (d,z')
   |none=>aN (s,z))
  |none=>aO
theorem zAK{Γ:Ctx}{G:Gh}{w w':World}(hm:Mem Γ G w){cells:Array Value}{e:TypeId}(hw:w'.heap=w.heap.push (.cells cells e))(d:Nat)(xs:List T)
  (src:Nat→Option (Nat×List Nat))(φ:Nat→List Nat→Option (List Nat))(f:Nat→List Nat→Value)(gQ:Value)(chg:Chg)
  (gG:zV xs=aP)(hf:∀(i:Nat)(z:List Nat),(f i z).oneCell'=aP)(hh:gQ.oneCell'=aP)
  (hφ:∀(i:Nat) u x q(z:List Nat),xs[i]? =aN u→src i=aN (x,q)→φ x (z++q)=aN (z++[i]))
  (te:∀(i:Nat) u x q,xs[i]? =aN u→src i=aN (x,q)→(∀z,f i z=G.hd x (z++q))∧R Γ.St G w x u q∧zO u∧x≠d)
  (b8:∀(i:Nat) u,xs[i]? =aN u→src i=aO→ ∀(G2:Gh)(w2:World),(∀z,G2.hd d (z++[i])=f i z)→R Γ.St G2 w2 d u [i])
  (eZ:∀(G2:Gh),(∀i z,G2.hd d (z++[i])=f i z)→ ∀(o:Nat)(v:Value),(zP G2 d xs [] 0)[o]? =aN v→cells[o]? =aN v)
  (br:∀s p,(∀n,(s,n)∉(d,0)::chg)→φ s p=aO)(ho:w'.os=w.os:=by rfl)(hq:w'.output=w.output:=by rfl):
  tD ((d,0)::chg) G w (G.nb d w.heap.size xs src φ f gQ) w'∧Mem Γ (G.nb d w.heap.size xs src φ f gQ) w'∧
  wB (G.nb d w.heap.size xs src φ f gQ) w' d xs [] 0 w.heap.size 0∧RF Γ.St (G.nb d w.heap.size xs src φ f gQ) w' d xs [] 0∧
  w'.heap[w.heap.size]? =aN (.cells cells e):=by
 have gY:w'.heap[w.heap.size]? =aN (.cells cells e):=by grind
 have gA:∀b,b<w.heap.size→w'.heap[b]? =w.heap[b]?:=fun b hb=>by rw[hw,Array.getElem?_push];grind
 have gu:w'.heap.size=w.heap.size+1:=by grind
 have ep:∀b o,b<w.heap.size→yA w' b o=yA w b o:=fun b o hb=>by simp[yA,World.cell?,gA b hb]
 have gC:Blk w w':=fun b cs e' h=>⟨cs,by rw[gA b (by grind)];exact h,rfl⟩
 have gz:=hm.one
 generalize gl:G.nb d w.heap.size xs src φ f gQ=G'
 have ghd:∀i z,G'.hd d (z++[i])=f i z:=fun i z=>by rw[←gl];simp[Gh.nb]
 have gad:∀g,(T.agg xs).inT g=aP→G'.ad d g.reverse=⟨w.heap.size,(T.agg xs).offT g,aO⟩:=fun g hg=>by rw[←gl];simp[Gh.nb,hg]
 have gadm:∀i x q z,src i=aN (x,q)→(T.agg xs).inT (i::z.reverse)=aQ→G'.ad d (z++[i])=G.ad x (z++q):=fun i x q z hs gV=>by rw[←gl];simp[Gh.nb,gV,hs]
 have glb:∀o p,zAk xs [] 0 o=aN p→G'.lb w.heap.size o=aN (aQ,d,p):=fun o p h=>by rw[←gl];simp[Gh.nb,h]
 have glbm:∀b o fl x z z',G.lb b o=aN (fl,x,z)→φ x z=aN z'→G'.lb b o=aN (fl,d,z'):=fun b o fl x z z' h1 h2=>by have:=(hm.lb b o _ h1).1;rw[←gl];simp[Gh.nb,h1,h2,show b≠w.heap.size from by omega]
 have gowm:∀b x z z',G.ow b=aN (x,z)→φ x z=aN z'→G'.ow b=aN (d,z'):=fun b x z z' h1 h2=>by have:=(hm.ow b _ h1).1;rw[←gl];simp[Gh.nb,h1,h2,show b≠w.heap.size from by omega]
 have gj:∀s p,Off ((d,0)::chg) s p→s≠d:=fun s p h e=>absurd (h 0 (by simp[e])) (by simp)
 have gw:tD ((d,0)::chg) G w G' w':=by
  refine⟨fun s p h=>?_,fun s p h=>?_,fun b o fl s p _ hl h=>⟨?_,ep b o (hm.lb b o _ hl).1⟩,fun b s p hl h=>?_,gC⟩
  ·rw[←gl];simp[Gh.nb,gj s p h]
  ·rw[←gl];simp[Gh.nb,gj s p h]
  ·have:=(hm.lb b o _ hl).1
   rw[←gl];simp[Gh.nb,hl,br s p h,show b≠w.heap.size from by omega]
  ·have:=(hm.ow b _ hl).1
   rw[←gl];simp[Gh.nb,hl,br s p h,show b≠w.heap.size from by omega]
 refine⟨gw,?_,?_,?_,gY⟩
 ·
  have hB:zAi Γ w' w.heap.size:=⟨by omega,.inl hm.sz,by
   cases gD:Γ.St w.heap.size with
   |none=>rfl
   |some x=>have:=hm.st _ x gD;simp at this⟩
  have cj:∀b,zAi Γ w b→zAi Γ w' b:=fun b h=>⟨by have:=h.1;omega,h.2⟩
  refine⟨fun s p=>?_,fun b o l hl=>?_,fun b l hl=>?_,fun b x hx=>?_,fun b h1 h2=>?_,by have:=hm.sz;omega,hm.bk.trans gC ho hq⟩
  ·rw[←gl]
   simp only[Gh.nb];split
   ·split
    ·exact hf _ _
    ·exact hh
   ·exact gz s p
  ·rw[←gl]at hl
   simp only[Gh.nb]at hl;split at hl
   ·grind
   ·split at hl
    ·rename_i hg;exact cj b (hm.lb b o _ hg)
    ·cases hl
  ·rw[←gl]at hl
   simp only[Gh.nb]at hl;split at hl
   ·grind
   ·split at hl
    ·rename_i hg;exact cj b (hm.ow b _ hg)
    ·cases hl
  ·have:=hm.st b x hx
   rw[gA b (Ky.1 this).1];exact this
  ·rw[gA b (Uw h1 hm.sz)]
   exact hm.fr b h1 h2
 ·
  refine zDx xs [] 0 w.heap.size 0 gG (fun i x hx g hg=>?_) (fun i p' _ hp=>by simpa using glb i p' hp) (fun i v hv=>?_)
  ·have:=gad (i::g) (by simp only[T.inT,hx];exact hg)
   simpa[T.offT,hx]using this
  ·have:=eZ G' ghd i v hv
   rw[J6];simp[yA,World.cell?,gY,this]
 ·
  refine zJw xs [] 0 (fun i u hu=>?_);rw[J6];cases hs:src i with
  |none=>exact b8 i u hu hs G' w' (fun z=>ghd i z)
  |some xq=>
   obtain⟨x,q⟩:=xq;obtain⟨h1,h2,h3,h4⟩:=te i u x q hu hs;have gV:∀g,(T.agg xs).inT (i::g)=u.inT g:=fun g=>by simp only[T.inT,hu]
   refine zGT u q [i] (okTups_get xs gG i u hu) ⟨fun z=>by rw[ghd,h1],fun z hz=>gadm i x q z hs (by rw[gV];exact hz),fun b o fl z hz hl=>⟨glbm b o fl x _ _ hl (hφ i u x q z hu hs),ep b o (hm.lb b o _ hl).1⟩,
    fun b z hl=>gowm b x _ _ hl (hφ i u x q z hu hs),gC⟩ (yD.mono (by simp) u h3) h2
where okTups_get:(xs:List T)→zV xs=aP→ ∀(i:Nat)(x:T),xs[i]? =aN x→x.okTup=aP
 | [],_,_,_,h=>by simp at h
 |y::ys,hk,i,x,h=>by
  simp only[zV,J2]at hk;cases i with
  |zero=>grind
  |succ i=>exact okTups_get ys hk.2 i x (by grind)
end Go.Ab

namespace Go.Ab
open Go
inductive zY where
 |slot (s:Nat) (t:T)
 |zero (u:T)
def zY.tree:zY→T
 |.slot _ t=>t
 |.zero u=>u
def vP:T→Bool
 |.lit _|.ro _=>aQ
 |_=>aP
mutual
def T.zOk:T→Bool
 |.lit v=>v.oneCell'
 |.sl _ xs=>xs.isEmpty
 |.agg xs=>sQ xs
 |.any|.ro _|.same _ _|.addr _ _|.sub _ _ _ _ _|.ptr _|.tup _=>aQ
def sQ:List T→Bool
 | []=>aP
 |x::xs=>x.zOk&&sQ xs
end
def zhd:T→List Nat→Value
 |.agg xs,i::f=>match xs[i]? with
  |some x=>zhd x f
  |none=>.bool aQ
 |.lit v,_=>v
 |.sl _ _,_=>.slice aO 0 0
 |.agg _,[] |.any,_|.ro _,_|.same _ _,_|.addr _ _,_|.sub _ _ _ _ _,_|.ptr _,_|.tup _,_=>.bool aQ
termination_by structural _ f=>f
mutual
def vQ:T→List Value
 |.lit v=>[v]
 |.sl _ _=>[.slice aO 0 0]
 |.agg xs=>uE xs
 |.any|.ro _|.same _ _|.addr _ _|.sub _ _ _ _ _|.ptr _|.tup _=>[]
def uE:List T→List Value
 | []=>[]
 |x::xs=>vQ x++uE xs
end
section
variable {St:Stb}{G:Gh}{w:World}{d:Nat}
mutual
theorem zGb:(u:T)→ ∀(p:List Nat),u.zOk=aP→(∀z,G.hd d (z++p)=tM (zhd u z.reverse))→R St G w d u p
 |.lit v,p,h,hd=>by
  simp only[T.zOk,R]at h ⊢
  have:=hd [];rw[K3]at this;rw[this];exact tW h
 |.sl k xs,p,h,hd=>by simp only[T.zOk,Q6]at h;subst h;have:=hd [];rw[K3]at this;simp only[R];exact .inl ⟨trivial,aO,by rw[this];rfl⟩
 |.agg xs,p,h,hd=>by
  simp only[T.zOk,R]at h ⊢
  exact zJx xs p 0 h (fun i x hx z=>by
   rw[J6];have:=hd (z++[i])
   grind[zhd])
 |.any,_,h,_|.ro _,_,h,_|.same _ _,_,h,_|.addr _ _,_,h,_|.sub _ _ _ _ _,_,h,_|.ptr _,_,h,_|.tup _,_,h,_=>by grind[T.zOk]
theorem zJx:(xs:List T)→ ∀(p:List Nat)(j:Nat),sQ xs=aP→(∀i x,xs[i]? =aN x→ ∀z,G.hd d (z++((j+i)::p))=tM (zhd x z.reverse))→RF St G w d xs p j
 | [],_,_,_,_=>by simp only[RF]
 |x::xs,p,j,h,hd=>by
  simp only[sQ,J2,RF]at h ⊢
  exact⟨zGb x (j::p) h.1 (by simpa using hd 0 x (by simp)),zJx xs p (j+1) h.2 (fun i y hy z=>by
   have:=hd (i+1) y (by grind) z
   grind)⟩
end
end
section
variable {G:Gh}{d:Nat}
mutual
theorem zC4:(u:T)→ ∀(p:List Nat),u.zOk=aP→(∀z,G.hd d (z++p)=tM (zhd u z.reverse))→vals G d u p=vQ u
 |.lit v,p,h,hd=>by
  simp only[T.zOk,vals,vQ]at h ⊢
  have:=hd []
  grind[zhd,tW]
 |.sl k xs,p,h,hd=>by
  have:=hd []
  grind[vals,vQ,zhd,tM,Value.oneCell']
 |.agg xs,p,h,hd=>by
  simp only[T.zOk,vals,vQ]at h ⊢
  exact zBw xs p 0 h (fun i x hx z=>by
   rw[J6];have:=hd (z++[i])
   grind[zhd])
 |.any,_,h,_|.ro _,_,h,_|.same _ _,_,h,_|.addr _ _,_,h,_|.sub _ _ _ _ _,_,h,_|.ptr _,_,h,_|.tup _,_,h,_=>by grind[T.zOk]
theorem zBw:(xs:List T)→ ∀(p:List Nat)(j:Nat),sQ xs=aP→(∀i x,xs[i]? =aN x→ ∀z,G.hd d (z++((j+i)::p))=tM (zhd x z.reverse))→zP G d xs p j=uE xs
 | [],_,_,_,_=>by rfl
 |x::xs,p,j,h,hd=>by
  simp only[sQ,J2,zP,uE]at h ⊢
  rw[zC4 x (j::p) h.1 (by simpa using hd 0 x (by simp)),zBw xs p (j+1) h.2 (fun i y hy z=>by
   have:=hd (i+1) y (by grind) z
   grind)]
end
end
mutual
theorem jM:(u:T)→u.zOk=aP→zO u∧u.okTup=aP
 |.lit _,_=>by simp[zO,yD,T.okTup]
 |.sl _ xs,h=>by simp only[T.zOk,Q6]at h;subst h;simp[zO,yD,yQ,T.okTup]
 |.agg xs,h=>by simp only[T.zOk]at h;simpa only[zO,yD,T.okTup]using kG xs h
 |.any,h|.ro _,h|.same _ _,h|.addr _ _,h|.sub _ _ _ _ _,h|.ptr _,h|.tup _,h=>by grind[T.zOk]
theorem kG:(xs:List T)→sQ xs=aP→yB xs∧zV xs=aP
 | [],_=>by simp[yB,yQ,zV]
 |x::xs,h=>by simp only[sQ,J2]at h;simp only[yB,yQ,zV,J2];exact⟨⟨(jM x h.1).1,(kG xs h.2).1⟩,(jM x h.1).2,(kG xs h.2).2⟩
end
mutual
theorem xP:(u:T)→u.zOk=aP→(vQ u).length=u.size
 |.lit _,_|.sl _ _,_=>by rfl
 |.agg xs,h=>by simp only[T.zOk]at h;simp only[vQ,T.size];exact jB xs h
 |.any,h|.ro _,h|.same _ _,h|.addr _ _,h|.sub _ _ _ _ _,h|.ptr _,h|.tup _,h=>by grind[T.zOk]
theorem jB:(xs:List T)→sQ xs=aP→(uE xs).length=T.sizes xs
 | [],_=>by rfl
 |x::xs,h=>by simp only[sQ,J2]at h;simp only[uE,J9,T.sizes,xP x h.1,jB xs h.2]
end
def zDH(ps:List zY)(i:Nat):Option (Nat×List Nat):=
 match ps[i]? with
 |some (.slot s t)=>if vP t then aN (s,[])else aO
 |_=>aO
def zEI:List zY→Nat→Nat→Option Nat
 | [],_,_=>aO
 |.slot x t::r,i,s=>if vP t&&x==s then aN i else zEI r (i+1) s
 |.zero _::r,i,s=>zEI r (i+1) s
def zEJ(ps:List zY)(s:Nat)(z:List Nat):Option (List Nat):=
 match zEI ps 0 s with
 |some i=>aN (z++[i])
 |none=>aO
def pWr(d:Nat):List zY→Nat→Wr
 | [],_=>[]
 |.slot s t::r,i=>if vP t then(s,aN (cpT d t [i]))::pWr d r (i+1)else pWr d r (i+1)
 |.zero _::r,i=>pWr d r (i+1)
def yM:List zY→List Nat
 | []=>[]
 |.slot s t::r=>if vP t then s::yM r else yM r
 |.zero _::r=>yM r
def vR(ps:List zY):Chg:=(yM ps).map fun s=>(s,1)
def vZ(G:Gh):zY→List Value
 |.slot s t=>vals G s t []
 |.zero u=>vQ u
def pHd(G:Gh)(ps:List zY)(i:Nat)(z:List Nat):Value:=
 match ps[i]? with
 |some (.slot s _)=>G.hd s z
 |some (.zero u)=>tM (zhd u z.reverse)
 |none=>.bool aQ
structure vG (E:Env) (d:Nat) (ps:List zY):Prop where
 slot:∀s t,zY.slot s t∈ps→E s=aN t∧zO t∧t.okTup=aP
 zero:∀u,zY.zero u∈ps→u.zOk=aP
 dist:(d::yM ps).Nodup
theorem jN:(ps:List zY)→ ∀(i0 i s:Nat)(t:T),ps[i]? =aN (.slot s t)→vP t=aP→(yM ps).Nodup→zEI ps i0 s=aN (i0+i)
 | [],_,_,_,_,h,_,_=>by simp at h
 |.slot x u::r,i0,i,s,t,h,hm,hn=>by
  cases i with
  |zero=>simp at h;obtain⟨rfl,rfl⟩:=h;simp[zEI,hm]
  |succ i=>
   simp only[Q9]at h;have gV:s∈yM r:=pSlots_mem r i s t h hm;simp only[zEI]
   by_cases hu:vP u=aP
   ·simp only[yM,hu,if_true,K7]at hn
    have:x≠s:=by grind
    simp only[hu,Jb7,beq_iff_eq,this,if_false];rw[jN r (i0+1) i s t h hm hn.2]
    grind
   ·simp only[yM,hu]at hn
    simp only[hu,Qf,La,if_false];rw[jN r (i0+1) i s t h hm (by grind)]
    grind
 |.zero u::r,i0,i,s,t,h,hm,hn=>by
  cases i with
  |zero=>simp at h
  |succ i=>
   simp only[Q9]at h;simp only[zEI];rw[jN r (i0+1) i s t h hm (by grind[yM])]
   grind
where pSlots_mem:(ps:List zY)→ ∀(i s:Nat)(t:T),ps[i]? =aN (.slot s t)→vP t=aP→s∈yM ps
 | [],_,_,_,h,_=>by simp at h
 |.slot x u::r,i,s,t,h,hm=>by
  cases i with
  |zero=>simp at h;obtain⟨rfl,rfl⟩:=h;simp[yM,hm]
  |succ i=>
   have:=pSlots_mem r i s t (by grind) hm
   grind[yM]
 |.zero u::r,i,s,t,h,hm=>by
  cases i with
  |zero=>simp at h
  |succ i=>simpa only[yM]using pSlots_mem r i s t (by grind) hm
theorem zAL:(ps:List zY)→ ∀(i0 s:Nat),s∉yM ps→zEI ps i0 s=aO
 | [],_,_,_=>by rfl
 |.slot x u::r,i0,s,h=>by
  simp only[zEI]
  by_cases hu:vP u=aP
  ·simp only[yM,hu,if_true,Jl,not_or]at h
   simp only[hu,Jb7,beq_iff_eq,Ne.symm h.1,if_false];exact zAL r _ s h.2
  ·simp only[yM,hu]at h
   simp only[hu,Qf,La,if_false];exact zAL r _ s (by grind)
 |.zero u::r,i0,s,h=>by simp only[zEI];exact zAL r _ s (by grind[yM])
theorem zAl:(ps:List zY)→ ∀(d i0 s:Nat)(x:Option T),(pWr d ps i0).find s=aN x→ ∃i t,ps[i]? =aN (.slot s t)∧vP t=aP∧x=aN (cpT d t [i0+i])
 | [],_,_,_,_,h=>by grind[pWr,Wr.find]
 |.slot y u::r,d,i0,s,x,h=>by
  simp only[pWr]at h;split at h
  ·rename_i hu
   simp only[Wr.find]at h;split at h
   ·rename_i he;subst he;simp at h;exact⟨0,u,by simp,hu,by grind⟩
   ·obtain⟨i,t,h1,h2,h3⟩:=zAl r d (i0+1) s x h
    exact⟨i+1,t,by grind,h2,by grind⟩
  ·obtain⟨i,t,h1,h2,h3⟩:=zAl r d (i0+1) s x h
   exact⟨i+1,t,by grind,h2,by grind⟩
 |.zero u::r,d,i0,s,x,h=>by simp only[pWr]at h;obtain⟨i,t,h1,h2,h3⟩:=zAl r d (i0+1) s x h;exact⟨i+1,t,by grind,h2,by grind⟩
theorem zAm:(ps:List zY)→ ∀(d i0 s:Nat),(pWr d ps i0).find s=aO→s∉yM ps
 | [],_,_,_,_=>by simp[yM]
 |.slot y u::r,d,i0,s,h=>by
  simp only[pWr]at h;simp only[yM];split at h
  ·rename_i hu
   simp only[Wr.find]at h;split at h
   ·cases h
   ·rename_i gj
    simp only[hu,if_true,Jl,not_or];exact⟨fun e=>gj e.symm,zAm r d _ s h⟩
  ·rename_i hu
   simp only[hu];simpa using zAm r d _ s h
 |.zero u::r,d,i0,s,h=>by simp only[pWr]at h;simpa only[yM]using zAm r d _ s h
section
variable {Γ:Ctx}{E:Env}{G:Gh}{tmps:Array Value}{w:World}{d:Nat}{ps:List zY}
theorem zDb(g9:Rep Γ E G tmps w)(h:vG E d ps):
  zV (ps.map zY.tree)=aP∧yB (ps.map zY.tree)∧(∀i z,(pHd G ps i z).oneCell'=aP)∧
  (∀(i:Nat) u x q(z:List Nat),(ps.map zY.tree)[i]? =aN u→zDH ps i=aN (x,q)→zEJ ps x (z++q)=aN (z++[i]))∧
  (∀(i:Nat) u x q,(ps.map zY.tree)[i]? =aN u→zDH ps i=aN (x,q)→(∀z,pHd G ps i z=G.hd x (z++q))∧R Γ.St G w x u q∧zO u∧x≠d)∧
  (∀(i:Nat) u,(ps.map zY.tree)[i]? =aN u→zDH ps i=aO→ ∀(G2:Gh)(w2:World),(∀z,G2.hd d (z++[i])=pHd G ps i z)→R Γ.St G2 w2 d u [i])∧
  (∀s p,(∀n,(s,n)∉(d,0)::vR ps)→zEJ ps s p=aO):=by
 have cY:=K7.1 h.dist;refine⟨?_,?_,?_,?_,?_,?_,?_⟩
 ·have:∀qs:List zY,(∀p∈qs,p∈ps)→zV (qs.map zY.tree)=aP:=by
   intro qs
   induction qs with
   |nil=>intro _;rfl
   |cons q qs ih=>
    intro hq;simp only[Jg,zV,J2];refine⟨?_,by grind⟩;cases q with
    |slot s t=>exact(h.slot s t (hq _ (by simp))).2.2
    |zero u=>exact(jM u (h.zero u (hq _ (by simp)))).2
  grind
 ·have:∀qs:List zY,(∀p∈qs,p∈ps)→yB (qs.map zY.tree):=by
   intro qs
   induction qs with
   |nil=>intro _;trivial
   |cons q qs ih=>
    intro hq;simp only[Jg,yB,yQ];refine⟨?_,by grind⟩;cases q with
    |slot s t=>exact(h.slot s t (hq _ (by simp))).2.1
    |zero u=>exact(jM u (h.zero u (hq _ (by simp)))).1
  grind
 ·intro i z
  unfold pHd;split
  ·exact g9.mem.one _ _
  ·exact jL _
  ·rfl
 ·intro i u x q z hu hs
  rw[Jj]at hu;unfold zDH at hs;cases hp:ps[i]? with
  |none=>grind
  |some p=>
   cases p with
   |zero v=>grind
   |slot s t=>
    simp only[hp]at hs;split at hs
    ·rename_i hm
     simp at hs;obtain⟨rfl,rfl⟩:=hs;simp[zEJ,jN ps 0 i s t hp hm cY.2]
    ·cases hs
 ·intro i u x q hu hs
  rw[Jj]at hu;unfold zDH at hs;cases hp:ps[i]? with
  |none=>grind
  |some p=>
   cases p with
   |zero v=>grind
   |slot s t=>
    simp only[hp]at hs;split at hs
    ·rename_i hm
     simp at hs;obtain⟨rfl,rfl⟩:=hs;simp[hp,zY.tree]at hu;subst hu;obtain⟨h1,h2,h3⟩:=h.slot s t (by grind);refine⟨by grind[pHd],(g9.ent s t h1).2.1,h2,fun e=>cY.1 ?_⟩
     grind[jN.pSlots_mem]
    ·cases hs
 ·intro i u hu hs G2 w2 eb
  rw[Jj]at hu;unfold zDH at hs;cases hp:ps[i]? with
  |none=>grind
  |some p=>
   cases p with
   |zero v=>
    simp[hp,zY.tree]at hu;subst hu;exact zGb v [i] (h.zero v (by grind)) (by grind[pHd])
   |slot s t=>
    simp only[hp]at hs;split at hs
    ·cases hs
    ·rename_i hm
     simp[hp,zY.tree]at hu;subst hu;have h1:=(g9.ent s t (h.slot s t (by grind)).1).2.1;have h2:G2.hd d [i]=G.hd s []:=by have:=eb [];grind[pHd]
     cases t<;>simp[vP]at hm<;>simp only[R]at h1 ⊢ <;>rw[h2]<;>exact h1
 ·intro s p gB
  have:s∉yM ps:=fun gV=>gB 1 (by grind[vR])
  grind[zEJ,zAL]
theorem zBx(g9:Rep Γ E G tmps w)(h:vG E d ps)(G2:Gh):∀(qs:List zY)(i0:Nat),(∀i q,qs[i]? =aN q→ps[i0+i]? =aN q)→(∀i z,G2.hd d (z++[i])=pHd G ps i z)→
  zP G2 d (qs.map zY.tree) [] i0=qs.flatMap (vZ G)
 | [],_,_,_=>by rfl
 |q::qs,i0,hq,eb=>by
  have h0:ps[i0]? =aN q:=by simpa using hq 0 q (by simp)
  have ih:=zBx g9 h G2 qs (i0+1) (fun i p hp=>by rw[show i0+1+i=i0+(i+1)from by omega];simp_all) eb;simp only[Jg,zP,Kv,ih]
  congr 1
  cases q with
  |slot s t=>exact qR t [] [i0] (by grind[pHd])
  |zero u=>exact zC4 u [i0] (h.zero u (by grind)) (by grind[pHd])
end
end Go.Ab

namespace Go.Ab
open Go
section
variable {P:Program}{Γ:Ctx}{E:Env}{o:Oper}{d:Nat}
theorem zFb{G G':Gh}{w':World}{s i:Nat}{t:T}{v:Option Value}(hv:v=aN (mkV G s t []))(gR:∀xs,t≠.tup xs)(hs:∀p,G'.hd s p=G.hd s p)(cZ:∀z,G'.hd d (z++[i])=G.hd s z)
  (hr:R Γ.St G' w' d t [i]):Ent Γ G' w' v s (cpT d t [i]):=by
 have hz:∀z,G'.hd s (z++[])=G'.hd d (z++[i]):=fun z=>by rw[Je,hs,cZ]
 refine⟨?_,?_,uN d t [i]⟩
 ·rw[hv,sZ (G:=G') (G':=G') t [i] [] gR hz,sC G s t [] gR,kE t [] [i] (fun z=>by rw[cZ,Je])]
 ·exact zBq (G:=G') (G':=G') (fun _=>rfl) t [i] [] hz gR (yD.triv (fun _ _=>⟨rfl,rfl⟩) _) hr
theorem jO{G:Gh}{a:Act}{w w':World}{ps:List zY}(g9:Rep Γ E G a.tmps w)(h:vG E d ps)(hd:d<Γ.N){cells:Array Value}{e:TypeId}(hw:w'.heap=w.heap.push (.cells cells e))
  (eZ:∀(o:Nat)(v:Value),(ps.flatMap (vZ G))[o]? =aN v→cells[o]? =aN v)
  (rt:T)(gQ:Value)
  (eR:(∃k cap,rt=.sl k (ps.map zY.tree)∧(∀p∈ps,p.tree.size=k)∧gQ=.slice (aN ⟨w.heap.size,0,aO⟩) ps.length cap∧ps.length≤cap∧cap≤maxLen∧cells.size=cap*k)∨
   ∃p,ps=[p]∧rt=.ptr p.tree∧gQ=.pointer (aN ⟨w.heap.size,0,aO⟩)∧cells.size=p.tree.size)
  (ho:w'.os=w.os:=by rfl)(hq:w'.output=w.output:=by rfl):
  ∃G',Rep Γ (E.app ((d,aN rt)::pWr d ps 0) ((d,0)::vR ps)) G' (a.tmps.setIfInBounds d gQ) w':=by
 obtain⟨f1,f0,f2,f3,f4,f5,f6⟩:=zDb g9 h;have hh:gQ.oneCell'=aP:=by rcases eR with⟨k,cap,_,_,rfl,_⟩|⟨p,_,_,rfl,_⟩<;>rfl
 have cY:=K7.1 h.dist;obtain⟨g1,g2,g3,g4,g5⟩:=zAK g9.mem hw d (ps.map zY.tree) (zDH ps) (zEJ ps) (pHd G ps) gQ (vR ps) f1 f2 hh f3 f4 f5
  (fun G2 eb o v hv=>eZ o v (by rw[zBx g9 h G2 ps 0 (fun i q hq=>by simpa using hq) eb]at hv;exact hv)) f6 (ho:=ho) (hq:=hq)
 refine⟨_,xS g9 (by simp) g1 g2 ?_ ?_⟩
 ·intro s hs
  simp only[Wr.find]at hs;split at hs
  ·cases hs
  ·rename_i gj
   have hns:=zAm ps d 0 s hs;refine⟨fun n hn=>?_,by rw[J7];simp[gj]⟩;simp only[Jl,Us.injEq,vR,Ja]at hn;rcases hn with⟨e1,_⟩|⟨y,hy,e1,_⟩
   ·exact gj e1.symm
   ·exact hns (e1▸hy)
 ·intro s t hs
  simp only[Wr.find]at hs;split at hs
  ·rename_i he
   subst he;simp at hs;subst hs;have fJ:(G.nb d w.heap.size (ps.map zY.tree) (zDH ps) (zEJ ps) (pHd G ps) gQ).hd d []=gQ:=by simp[Gh.nb]
   have how:(G.nb d w.heap.size (ps.map zY.tree) (zDH ps) (zEJ ps) (pHd G ps) gQ).ow w.heap.size=aN (d,[]):=by simp[Gh.nb]
   refine⟨?_,?_,?_⟩
   ·rw[J7]
    rcases eR with⟨k,cap,rfl,_⟩|⟨p,_,rfl,_⟩<;>simp[g9.size,hd,mkV,fJ]
   ·rcases eR with⟨k,cap,rfl,hk,h1,h2,h3,h4⟩|⟨p,rfl,rfl,h1,h4⟩
    ·simp only[R]
     rw[fJ];refine .inr ⟨w.heap.size,0,cap,cells,e,by simpa using h1,g5,by simpa using h2,h3,by omega,how,?_,zLA _ _ _ _ _ (fun x hx=>?_) g3 g4⟩
     ·intro o ho _
      have gu:T.sizes (ps.map zY.tree)=(ps.map zY.tree).length*k:=xI _ (fun x hx=>by obtain⟨p,hp,rfl⟩:=Ja.1 hx;exact hk p hp)
      simp[Gh.nb,zBv (ps.map zY.tree) [] 0 o (by omega)]
     ·obtain⟨p,hp,rfl⟩:=Ja.1 hx
      exact hk p hp
    ·simp only[R]
     rw[fJ];simp only[Jg,Ly,wB,RF]at g3 g4;exact⟨w.heap.size,cells,e,h1,g5,h4,how,g3.1,g4.1⟩
   ·rcases eR with⟨k,cap,rfl,_⟩|⟨p,rfl,rfl,_⟩
    ·simp only[Top];exact f0
    ·simp only[Top];exact f0.1
  ·rename_i gj
   obtain⟨i,u,h1,h2,h3⟩:=zAl ps d 0 s _ hs;simp only[J6]at h3;simp at h3;subst h3;obtain⟨h4,h5,h6⟩:=h.slot s u (Kk h1);have gR:∀xs,u≠.tup xs:=by rintro xs rfl;simp[T.okTup]at h6
   have hi:(ps.map zY.tree)[i]? =aN u:=by simp[h1,zY.tree]
   have hr:=jA _ [] 0 i u g4 hi;simp only[J6]at hr;refine zFb (G:=G) (by rw[J7];simp only[gj,if_false];exact(g9.ent s u h4).1) gR (fun p=>?_) (fun z=>?_) hr
   ·simp[Gh.nb,show s≠d from fun e=>gj e.symm]
   ·simp[Gh.nb,pHd,h1]
inductive sJ (E:Env):Operand→zY→Prop where
 |slot (s:Nat) (t:T):sJ E (.tmp s) (.slot s t)
 |zero (v:Value) (u:T) (h:vQ u=v.cells.toList):sJ E (.const v) (.zero u)
theorem qB{G:Gh}{a:Act}{w:World}{ps:List zY}(g9:Rep Γ E G a.tmps w)(h:vG E d ps){x:Operand}{p:zY}(hp:p∈ps)(hx:sJ E x p):
  (a.eval x).cells.toList=vZ G p:=by
 cases hx with
 |slot s t=>
  obtain⟨h1,h2,h3⟩:=h.slot s t hp;obtain⟨h4,_,_⟩:=g9.ent s t h1;rw[yX h4];cases t with
  |agg xs=>simp[mkV,Value.cells,vals,vZ]
  |tup xs=>simp[T.okTup]at h3
  |_=>
   have:=g9.mem.one s [];simp only[mkV,vals,vZ]
   generalize G.hd s []=v at this
   cases v<;>simp[Value.oneCell',Value.cells]at this ⊢
 |zero v u h=>simp[Act.eval,h,vZ]
def wP(E:Env):List Operand→List zY→Prop
 | [],[]=>True
 |x::xs,p::ps=>sJ E x p∧wP E xs ps
 |_,_=>False
theorem wP.length:(xs:List Operand)→(ps:List zY)→wP E xs ps→xs.length=ps.length
 | [],[],_=>rfl
 |_::xs,_::ps,h=>by simp[wP.length xs ps h.2]
 | [],_::_,h=>by simp[wP]at h
 |_::_,[],h=>by simp[wP]at h
theorem wP.mem:(xs:List Operand)→(ps:List zY)→wP E xs ps→ ∀x∈xs,∃p,p∈ps∧sJ E x p
 | [],_,_,x,hx=>by simp at hx
 |y::xs,p::ps,h,x,hx=>by
  rcases Jl.1 hx with rfl|hx
  ·exact⟨p,by simp,h.1⟩
  ·obtain⟨q,hq,hxq⟩:=wP.mem xs ps h.2 x hx;exact⟨q,by simp[hq],hxq⟩
 |_::_,[],h,_,_=>by simp[wP]at h
theorem zDI{G:Gh}{a:Act}{w:World}{ps:List zY}(g9:Rep Γ E G a.tmps w)(h:vG E d ps):∀(xs:List Operand)(qs:List zY),(∀q∈qs,q∈ps)→wP E xs qs→
  ((xs.map a.eval).flatMap fun v=>v.cells.toList)=qs.flatMap (vZ G)
 | [],[],_,_=>rfl
 |x::xs,q::qs,hq,hx=>by simp only[Jg,Kv,qB g9 h (hq q (by simp)) hx.1,zDI g9 h xs qs (fun p hp=>hq p (by simp[hp])) hx.2]
 | [],_::_,_,hx=>by simp[wP]at hx
 |_::_,[],_,hx=>by simp[wP]at hx
theorem zLB(T':TypeId)(ti:TypeInfo)(z:Value)(u:T)(ho:o.op=.alloc T')(gf:o.dst=aN d)(hd:d<Γ.N)
  (hi:P.info? T'=aN ti)(hz:ti.zero=aN z)(hu:u.zOk=aP)(hv:vQ u=z.cells.toList)(gu:z.cells.size=u.size):
  yW P Γ o E (E.app [(d,aN (.ptr u))] [(d,0)]):=by
 refine yW.value gf fun a w G g9=>?_
 have gN:vG E d [.zero u]:=⟨fun s t h=>by simp at h,fun v h=>by simp at h;subst h;exact hu,by simp[yM]⟩;obtain⟨G',gl⟩:=jO (w':=w.alloc (.cells z.cells T')) g9 gN hd (cells:=z.cells) (e:=T') rfl (fun o v h=>by simpa[hv,vZ]using h) (.ptr u) (.pointer (aN ⟨w.heap.size,0,aO⟩)) (.inr ⟨.zero u,rfl,rfl,rfl,gu⟩);refine⟨_,_,?_,G',by simpa[pWr,vR,yM]using gl⟩;simp[execOp,ho,Instr.alloc,zeroValue,typeInfo,hi,hz,newVar,newRow]
theorem zQD(T':TypeId)(x:Operand)(p:zY)(ho:o.op=.box T' x)(gf:o.dst=aN d)(hd:d<Γ.N)(hx:sJ E x p)(gN:vG E d [p]):
  yW P Γ o E (E.app ((d,aN (.ptr p.tree))::pWr d [p] 0) ((d,0)::vR [p])):=by
 refine yW.value gf fun a w G g9=>?_
 have hc:=qB g9 gN (by simp) hx;have gu:(a.eval x).cells.size=p.tree.size:=by
  rw[←Jv,hc];cases p with
  |slot s t=>
   obtain⟨_,_,h3⟩:=gN.slot s t (by simp);show(vals G s t []).length=t.size;exact xL t [] (by rintro xs rfl;simp[T.okTup]at h3)
  |zero u=>exact xP u (gN.zero u (by simp))
 obtain⟨G',gl⟩:=jO (w':=w.alloc (.cells (a.eval x).cells T')) g9 gN hd (cells:=(a.eval x).cells) (e:=T') rfl (fun o v h=>by rw[←K4,hc];simpa using h) (.ptr p.tree) (.pointer (aN ⟨w.heap.size,0,aO⟩)) (.inr ⟨p,rfl,rfl,rfl,gu⟩)
 refine⟨_,_,?_,G',gl⟩;simp[execOp,ho,Instr.box,newVar,newRow]
theorem zEK(t e:TypeId)(ti:TypeInfo)(z:Value)(k n:Nat)(xs:List Operand)(ps:List zY)(ho:o.op=.buildSlice t n ((xs.zipIdx 0).map fun x=>(x.2,x.1)).toArray)(gf:o.dst=aN d)(hd:d<Γ.N)
  (ht:P.underlying t=aN (.slice e))(hi:P.info? e=aN ti)(hz:ti.zero=aN z)(hk:ti.size=k)(ei:0<k)(hn:xs.length=n)(b9:0<n)(tf:n*k≤2 ^ 24)
  (hx:wP E xs ps)(gN:vG E d ps)(gu:∀p∈ps,p.tree.size=k):
  yW P Γ o E (E.app ((d,aN (.sl k (ps.map zY.tree)))::pWr d ps 0) ((d,0)::vR ps)):=by
 refine yW.value gf fun a w G g9=>?_
 subst hk;have gg:xs.length=ps.length:=wP.length xs ps hx;have hc:=zDI g9 gN xs ps (fun _ h=>h) hx;have eJ:∀v∈xs.map a.eval,v.cells.size=ti.size:=by
  intro v hv;obtain⟨x,ma,rfl⟩:=Ja.1 hv;obtain⟨p,hp,hxp⟩:=wP.mem xs ps hx x ma;rw[←Jv,qB g9 gN hp hxp,←gu p hp];cases p with
  |slot s t=>
   obtain⟨_,_,h3⟩:=gN.slot s t hp;show(vals G s t []).length=t.size;exact xL t [] (by rintro xs rfl;simp[T.okTup]at h3)
  |zero u=>exact xP u (gN.zero u hp)
 have bn:=Great.fill_whole ei (xs.map a.eval) ((Ja2 (n*ti.size)).map (z.cells[· %z.cells.size]!)) eJ (by simp[hn]);have pE:((((xs.zipIdx 0).map fun x=>(x.2,x.1)).toArray).map fun(i,x)=>(i,a.eval x)).toList=((xs.map a.eval).zipIdx 0).map fun x=>(x.2,x.1):=by simp[List.zipIdx_map,Function.comp_def]
 have gr:=run_buildSlice (P:=P) w t e n _ _ ti z ht hi hz (by omega) (by have:=Nat.mul_pos b9 ei;omega) (by rw[pE];exact bn);have gH:((xs.map a.eval).flatMap fun v=>v.cells.toList).toArray.size=n*ti.size:=by rw[Jb5,flat_len (k:=ti.size) _ (fun v hv=>by rw[Jv];exact eJ v hv)];simp[hn]
 obtain⟨G',gl⟩:=jO (w':=w.alloc (.cells ((xs.map a.eval).flatMap fun v=>v.cells.toList).toArray e)) g9 gN hd rfl (fun o v h=>by rw[hc];simpa using h) (.sl ti.size (ps.map zY.tree)) (.slice (aN ⟨w.heap.size,0,aO⟩) n n) (.inl ⟨ti.size,n,rfl,gu,by rw[←gg,hn],by omega,by have:n≤n*ti.size:=Nat.le_mul_of_pos_right n ei;simp only[maxLen];omega,gH⟩)
 refine⟨_,_,?_,G',gl⟩;simp only[execOp,ho,Sem.run_bind,gr,Result.andThen_ok];rfl
where
 flat_len {k:Nat} (vs:List Value) (h:∀v∈vs,v.cells.toList.length=k):(vs.flatMap fun v=>v.cells.toList).length=vs.length*k:=by
  induction vs with
  |nil=>simp
  |cons v vs ih=>simp[Kv,ih (fun u hu=>h u (by simp[hu])),Kz];have:=h v (by simp);simp at this;omega
end
end Go.Ab

namespace Go.Ab
open Go
theorem zGc{α β:Type}(f:α→List β)(x:α)(k:Nat)(hk:(f x).length=k)(ei:0<k):∀(n o:Nat)(v:β),((J1 n x).flatMap f)[o]? =aN v→o<n*k∧(f x)[o%k]? =aN v
 |0,o,v,h=>by simp at h
 |n+1,o,v,h=>by
  rw[Jz,Kv,K2]at h;split at h
  ·grind[Nat.mod_eq_of_lt]
  ·rename_i hge
   rw[hk]at h hge;obtain⟨h1,h2⟩:=zGc f x k hk ei n (o-k) v h
   grind[Nat.mod_eq_sub_mod]
section
variable {P:Program}{Γ:Ctx}{E:Env}{o:Oper}{d:Nat}
theorem zOG(t e:TypeId)(ti:TypeInfo)(z:Value)(u:T)(k:Nat)(x y:Operand)(n c:Nat)(kl kc:IntKind)(ho:o.op=.makeSlice t x y)(gf:o.dst=aN d)(hd:d<Γ.N)
  (ht:P.underlying t=aN (.slice e))(hi:P.info? e=aN ti)(hz:ti.zero=aN z)(hk:ti.size=k)(ei:0<k)(hu:u.zOk=aP)(hv:vQ u=z.cells.toList)(eL:u.size=k)(hb:ti.bytes≤4096)
  (hx:opT E x=aN (.lit (.int kl n)))(hy:opT E y=aN (.lit (.int kc c)))(ml:n≤c)(hc:c≤68719476736):
  yW P Γ o E (E.app [(d,aN (.sl k (J1 n u)))] [(d,0)]):=by
 refine yW.value gf fun a w G g9=>?_
 have h1:=(xC g9 hx).1;have h2:=(xC g9 hy).1;subst hk;have gN:vG E d (J1 n (.zero u)):=⟨by simp,by grind,by
  have:∀m,yM (J1 m (.zero u))=[]:=by intro m;induction m with|zero=>rfl|succ m ih=>grind[yM]
  simp[this]⟩
 have m9:z.cells.size=ti.size:=by grind[xP]
 have pV:(ti.bytes:Int)*(c:Int)≤281474976710656:=by have:ti.bytes*c≤4096*68719476736:=Gi hb hc;omega
 have gr:=run_make (P:=P) w t e ti z ht hi hz kl kc n c (by omega) (by omega) pV (by omega);simp only[Jn]at gr;obtain⟨G',gl⟩:=jO (w':=w.alloc (.cells (madeCells z.cells (c*ti.size)) e)) g9 gN hd rfl (fun i v h=>by
  obtain⟨h3,h4⟩:=zGc (vZ G) (.zero u) ti.size (by grind[vZ]) ei n i v h
  grind[Uw,L3,vZ,madeCells]) (.sl ti.size (J1 n u)) (.slice (aN ⟨w.heap.size,0,aO⟩) n c)
  (.inl ⟨ti.size,c,by simp[zY.tree],fun p hp=>by simp at hp;obtain⟨_,rfl⟩:=hp;exact eL,by simp,by grind,by grind[maxLen],by simp[madeCells]⟩)
 refine⟨.slice (aN ⟨w.heap.size,0,aO⟩) n c,w.alloc (.cells (madeCells z.cells (c*ti.size)) e),?_,G',?_⟩
 ·simp only[execOp,ho,h1,h2,Sem.run_bind,gr,Result.andThen_ok]
  rfl
 ·have h6:∀m i,pWr d (J1 m (.zero u)) i=[]:=by intro m;induction m with|zero=>intro i;rfl|succ m ih=>grind[pWr]
  have h7:vR (J1 n (.zero u))=[]:=by
   have:∀m,yM (J1 m (.zero u))=[]:=by intro m;induction m with|zero=>rfl|succ m ih=>grind[yM]
   grind[vR]
  grind
theorem zDJ(t e:TypeId)(ti:TypeInfo)(k:Nat)(ho:o.op=.buildSlice t 0 #[])(gf:o.dst=aN d)(hd:d<Γ.N)
  (ht:P.underlying t=aN (.slice e))(hi:P.info? e=aN ti):yW P Γ o E (E.app [(d,aN (.sl k []))] [(d,0)]):=by
 refine yW.value gf fun a w G g9=>?_
 have gN:vG E d []:=⟨by simp,by simp,by simp[yM]⟩;obtain⟨G',gl⟩:=jO (w':=w.alloc (.cells #[] e)) g9 gN hd (cells:=#[]) rfl (by simp) (.sl k []) (.slice (aN ⟨w.heap.size,0,aO⟩) 0 0)
  (by simp)
 refine⟨_,_,?_,G',gl⟩;have h0:(Ja2 0:Array Nat)= #[]:=by rfl
 simp[execOp,ho,Instr.buildSlice,run_underlying ht,sizeOf,typeInfo,hi,Instr.fill,newRow,h0]
theorem zGU(k:Nat)(x:Operand)(ho:o.op=.move x∨o.op=.assign x)(hx:x=.const (.slice aO 0 0))(gf:o.dst=aN d)(hd:d<Γ.N):yW P Γ o E (E.app [(d,aN (.sl k []))] [(d,0)]):=by
 refine yW.value gf fun a w G g9=>?_
 refine⟨.slice aO 0 0,w,?_,_,xM g9 rfl hd (fun _=>.slice aO 0 0) (fun _=>rfl) (.sl k []) (.slice aO 0 0) (by simp[mkV,Gh.put]) (by simp[R,Gh.put]) (by simp[Top,yB,yQ])⟩;subst hx;rcases ho with ho|ho<;>simp[execOp,ho,Act.eval]
def Gh.nv(G:Gh)(d:Nat)(src:Nat→Option (Nat×List Nat))(φ:Nat→List Nat→Option (List Nat))(f:Nat→List Nat→Value):Gh where
 hd s z:=if s=d then(match z.getLast? with
  |some i=>f i z.dropLast
  |none=>.bool aQ)else G.hd s z
 ad s z:=if s=d then(match z.getLast? with
  |some i=>(match src i with
   |some (x,q)=>G.ad x (z.dropLast++q)
   |none=>default)
  |none=>default)else G.ad s z
 lb b o:=match G.lb b o with
  |some (fl,s,z)=>(match φ s z with
   |some z'=>aN (fl,d,z')
   |none=>aN (fl,s,z))
  |none=>aO
 ow b:=match G.ow b with
  |some (s,z)=>(match φ s z with
   |some z'=>aN (d,z')
   |none=>aN (s,z))
  |none=>aO
theorem zOH{G:Gh}{a:Act}{w:World}{ps:List zY}(g9:Rep Γ E G a.tmps w)(h:vG E d ps)(hd:d<Γ.N):
  ∃G',Rep Γ (E.app ((d,aN (.agg (ps.map zY.tree)))::pWr d ps 0) ((d,0)::vR ps)) G' (a.tmps.setIfInBounds d (.agg (ps.flatMap (vZ G)).toArray)) w:=by
 obtain⟨f1,f0,f2,f3,f4,f5,f6⟩:=zDb g9 h;have hm:=g9.mem;have gC:Blk w w:=fun b cs e' h=>⟨cs,h,rfl⟩
 generalize gl:G.nv d (zDH ps) (zEJ ps) (pHd G ps)=G'
 have ghd:∀i z,G'.hd d (z++[i])=pHd G ps i z:=by grind[Gh.nv]
 have ghd':∀s z,s≠d→G'.hd s z=G.hd s z:=by grind[Gh.nv]
 have glbm:∀b o fl x z z',G.lb b o=aN (fl,x,z)→zEJ ps x z=aN z'→G'.lb b o=aN (fl,d,z'):=by grind[Gh.nv]
 have gowm:∀b x z z',G.ow b=aN (x,z)→zEJ ps x z=aN z'→G'.ow b=aN (d,z'):=by grind[Gh.nv]
 have gj:∀s p,Off ((d,0)::vR ps) s p→s≠d:=fun s p h e=>absurd (h 0 (by simp[e])) (by simp)
 have gw:tD ((d,0)::vR ps) G w G' w:=by
  refine⟨by grind,fun s p h=>?_,fun b o fl s p _ hl h=>⟨?_,rfl⟩,fun b s p hl h=>?_,gC⟩
  ·grind[Gh.nv]
  all_goals grind[Gh.nv]
 have gv:Mem Γ G' w:=by
  refine⟨fun s p=>?_,fun b o l hl=>?_,fun b l hl=>?_,hm.st,hm.fr,hm.sz,hm.bk⟩
  ·rw[←gl]
   simp only[Gh.nv];split
   ·split
    ·grind
    ·rfl
   ·exact hm.one s p
  ·rw[←gl]at hl
   simp only[Gh.nv]at hl;split at hl
   ·rename_i hg;exact hm.lb b o _ hg
   ·cases hl
  ·rw[←gl]at hl
   simp only[Gh.nv]at hl;split at hl
   ·rename_i hg;exact hm.ow b _ hg
   ·cases hl
 have g4:RF Γ.St G' w d (ps.map zY.tree) [] 0:=by
  refine zJw _ [] 0 (fun i u hu=>?_);rw[J6];cases hs:zDH ps i with
  |none=>grind
  |some xq=>
   obtain⟨x,q⟩:=xq;obtain⟨h1,h2,h3,h4⟩:=f4 i u x q hu hs;refine zGT u q [i] (zAK.okTups_get _ f1 i u hu) ⟨by grind,by grind[Gh.nv],by grind,
    by grind,gC⟩ (by grind[yD.mono]) h2
 refine⟨G',xS g9 (by simp) gw gv ?_ ?_⟩
 ·grind[Wr.find,zAm,vR]
 ·intro s t hs
  simp only[Wr.find]at hs;split at hs
  ·rename_i he
   subst he;simp at hs;subst hs;refine⟨?_,by simpa only[R]using g4,by simp only[Top];exact wL.of_clean _ f0⟩;rw[J7];simp only[g9.size,hd,mkV,if_true];rw[zBx g9 h G' ps 0 (by simp) ghd]
  ·rename_i gj
   obtain⟨i,u,h1,h2,h3⟩:=zAl ps d 0 s _ hs;simp only[J6]at h3;simp at h3;subst h3;obtain⟨h4,h5,h6⟩:=h.slot s u (by grind);have gR:∀xs,u≠.tup xs:=by rintro xs rfl;grind[T.okTup]
   have hi:(ps.map zY.tree)[i]? =aN u:=by simp[h1,zY.tree]
   have hr:=jA _ [] 0 i u g4 hi;simp only[J6]at hr;refine zFb (G:=G) (by rw[J7];simp only[gj,if_false];exact(g9.ent s u h4).1) gR (by grind) (fun z=>?_) hr
   grind[pHd]
theorem zJy(off:Nat):∀(vs:List Value)(i:Nat)(cs:Array Value)(k:Nat),off+i+vs.length≤cs.size→
  ((vs.zipIdx i).foldl (fun cs(x:Value×Nat)=>cs.setIfInBounds (off+x.2) x.1) cs)[k]? =if off+i≤k∧k<off+i+vs.length then vs[k-(off+i)]? else cs[k]?
 | [],i,cs,k,_=>by simp;omega
 |v::vs,i,cs,k,h=>by
  simp only[Jh]at h;simp only[List.zipIdx_cons,List.foldl_cons];rw[zJy off vs (i+1) _ k (by simp;omega)]
  grind
theorem zDK{pv:zY→List Value}(place:Nat→Option (Nat×Nat)):∀(vs:List (Nat×Value))(qs:List (Nat×zY))(ps:List zY)(cs:Array Value),cs.toList=ps.flatMap pv→
  (∀i p,ps[i]? =aN p→place i=aN (((ps.take i).flatMap pv).length,(pv p).length))→
  vs.map (·.1)=qs.map (·.1)→(∀(j:Nat)(v:Nat×Value)(q:Nat×zY),vs[j]? =aN v→qs[j]? =aN q→v.2.cells.toList=pv q.2∧ ∃p,ps[q.1]? =aN p∧(pv p).length=(pv q.2).length)→
  ∃cs',Instr.fill place cs vs=aN cs'∧cs'.toList=(qs.foldl (fun ps q=>ps.set q.1 q.2) ps).flatMap pv
 | [],[],ps,cs,gS,_,_,_=>⟨cs,rfl,gS⟩
 | [],_::_,_,_,_,_,h,_=>by simp at h
 |_::_,[],_,_,_,_,h,_=>by simp at h
 |(i,v)::vs,(i',q)::qs,ps,cs,gS,pD,hi,hq=>by
  simp only[Jg,Qb.injEq]at hi;obtain⟨al,hi⟩:=hi;subst al;obtain⟨h1,p,h2,h3⟩:=hq 0 (i,v) (i,q) rfl rfl;dsimp only at h1 h2 h3;have a7:=pD i p h2;have gI:=(J8.1 h2).1;have ph:ps=ps.take i++p::ps.drop (i+1):=by grind[H6,Qg]
  have gp:ps.set i q=ps.take i++q::ps.drop (i+1):=by grind
  have fF:v.cells.size=(pv p).length:=by grind
  have gJ:cs.size=((ps.take i).flatMap pv).length+((pv p).length+((ps.drop (i+1)).flatMap pv).length):=by grind[Jv]
  have gY:(v.cells.zipIdx.foldl (fun cs(x:Value×Nat)=>cs.setIfInBounds (((ps.take i).flatMap pv).length+x.2) x.1) cs).toList=(ps.set i q).flatMap pv:=by
   rw[gp];simp only[Qa,Kv,←h1];apply Kw;intro k;rw[←Array.foldl_toList,K4,show v.cells.zipIdx.toList=v.cells.toList.zipIdx 0 from by simp,zJy _ _ 0 cs k (by grind)];have ay:cs.toList=((ps.take i).flatMap pv)++(pv p++(ps.drop (i+1)).flatMap pv):=by grind
   have hvl2:v.cells.toList.length=(pv p).length:=by rw[h1,h3]
   rw[←K4,ay]
   grind
  have a8:∀j p',(ps.set i q)[j]? =aN p'→place j=aN ((((ps.set i q).take j).flatMap pv).length,(pv p').length):=by
   intro j p' fj;have htk:(((ps.set i q).take j).flatMap pv).length=((ps.take j).flatMap pv).length:=by
    rw[gp]
    conv=>rhs;rw[ph]
    by_cases hj:j≤i
    ·grind
    ·rw[Q4,Q4]
     simp only[Qa,J9]
     congr 1
     have:j-(ps.take i).length=(j-(ps.take i).length-1)+1:=by simp;omega
     grind
   grind
  have hq':∀(j:Nat)(x:Nat×Value)(y:Nat×zY),vs[j]? =aN x→qs[j]? =aN y→x.2.cells.toList=pv y.2∧ ∃p,(ps.set i q)[y.1]? =aN p∧(pv p).length=(pv y.2).length:=by
   intro j x y hx hy;obtain⟨h6,p',h7,h8⟩:=hq (j+1) x y (by grind) (by grind)
   grind
  obtain⟨cs',h4,h5⟩:=zDK place vs qs (ps.set i q) _ gY a8 hi hq'
  grind[Instr.fill]
theorem kH{t:TypeId}{it:TypeInfo}{fields:Array Field}{z:Value}{places:List (Nat×Nat)}(hi:P.info? t=aN it)(hu:P.underlying t=aN (.struct fields))(hz:it.zero=aN z)
  (hp:fields.toList.mapM (fun f=>(P.info? f.type).map fun i=>(f.offset,i.size))=aN places)(parts:List (Nat×Value)):P.built t parts=Instr.fill (places.toArray[·]?) z.cells parts:=by
 grind[Program.built]
theorem zGV{t e:TypeId}{n:Nat}{it ie:TypeInfo}{z:Value}(hi:P.info? t=aN it)(hu:P.underlying t=aN (.array n e))(hz:it.zero=aN z)
  (he:P.info? e=aN ie)(parts:List (Nat×Value)):P.built t parts=Instr.fill (fun i=>aN (i*ie.size,ie.size)) z.cells parts:=by
 grind[Program.built]
theorem zC5{G:Gh}:(zs:List T)→(zs.map zY.zero).flatMap (vZ G)=uE zs
 | []=>rfl
 |z::zs=>by simp[vZ,uE,←zC5 (G:=G) zs]
theorem zLC(t:TypeId)(place:Nat→Option (Nat×Nat))(z:Value)(zs:List T)(pl:List (Nat×Operand))(qs:List (Nat×zY))(ps:List zY)(ho:o.op=.build t pl.toArray)(gf:o.dst=aN d)(hd:d<Γ.N)
  (hb:∀parts,P.built t parts=Instr.fill place z.cells parts)(hzv:uE zs=z.cells.toList)(hz:sQ zs=aP)(pD:∀i u,zs[i]? =aN u→place i=aN (T.sizes (zs.take i),u.size))
  (gN:qs.foldl (fun ps q=>ps.set q.1 q.2) (zs.map zY.zero)=ps)(gG:vG E d ps)(hix:pl.map (·.1)=qs.map (·.1))
  (hq:∀(j:Nat)(x:Nat×Operand)(q:Nat×zY),pl[j]? =aN x→qs[j]? =aN q→sJ E x.2 q.2∧q.2∈ps∧ ∃u,zs[q.1]? =aN u∧u.size=q.2.tree.size):
  yW P Γ o E (E.app ((d,aN (.agg (ps.map zY.tree)))::pWr d ps 0) ((d,0)::vR ps)):=by
 refine yW.value gf fun a w G g9=>?_
 obtain⟨G',gl⟩:=zOH g9 gG hd;have gu:∀(us:List T),sQ us=aP→((us.map zY.zero).flatMap (vZ G)).length=T.sizes us:=by grind[zC5,jB]
 obtain⟨cs',h1,h2⟩:=zDK (pv:=vZ G) place (pl.map fun x=>(x.1,a.eval x.2)) qs (zs.map zY.zero) z.cells (by rw[zC5,hzv]) (fun i p hp=>by
   rw[Jj]at hp;cases hu:zs[i]? with
   |none=>grind
   |some u=>
    simp[hu]at hp;subst hp;rw[pD i u hu,←Gd,gu _ (zOks_take zs i hz),vZ,xP u (zOks_get zs hz i u hu)])
  (by grind[Function.comp_def]) (fun j v q hv hqj=>by
   rw[Jj]at hv;cases hx:pl[j]? with
   |none=>grind
   |some x=>
    simp[hx]at hv;subst hv;obtain⟨h3,h4,u,h5,h6⟩:=hq j x q hx hqj;refine⟨qB g9 gG h4 h3,.zero u,by simp[h5],?_⟩;rw[vZ,xP u (zOks_get zs hz _ u h5),h6];cases cP:q.2 with
    |slot s t=>
     rw[cP]at h4;obtain⟨_,_,h7⟩:=gG.slot s t h4;exact(xL t [] (by rintro xs rfl;grind[T.okTup])).symm
    |zero u'=>
     rw[cP]at h4;exact(xP u' (gG.zero u' h4)).symm)
 rw[gN]at h2;have h3:cs'=(ps.flatMap (vZ G)).toArray:=by rw[←h2]
 refine⟨_,w,?_,G',gl⟩;have gr:=run_build (P:=P) w t (pl.map fun x=>(x.1,a.eval x.2)).toArray cs' (by grind);simp only[List.map_toArray,execOp,ho,Sem.run_bind]at gr ⊢
 simp_all
where
 zOks_get:(xs:List T)→sQ xs=aP→ ∀(i:Nat)(x:T),xs[i]? =aN x→x.zOk=aP
  | [],_,_,_,h=>by simp at h
  |y::ys,hk,i,x,h=>by
   simp only[sQ,J2]at hk;cases i with
   |zero=>grind
   |succ i=>exact zOks_get ys hk.2 i x (by grind)
 zOks_take:(xs:List T)→ ∀i,sQ xs=aP→sQ (xs.take i)=aP
  | [],i,_=>by simp[sQ]
  |y::ys,0,_=>by simp[sQ]
  |y::ys,i+1,hk=>by
   simp only[sQ,J2,Kj]at hk ⊢
   exact⟨hk.1,zOks_take ys i hk.2⟩
end
end Go.Ab

namespace Go.Ab
open Go
mutual
def wT:T→T→Bool
 |.agg xs,.agg ys=>tX xs ys
 |.agg _,_=>aQ
 |.tup _,_=>aQ
 |_,.agg _=>aQ
 |_,.tup _=>aQ
 |.any,_|.lit _,_|.ro _,_|.same _ _,_|.addr _ _,_|.sub _ _ _ _ _,_|.sl _ _,_|.ptr _,_=>aP
def tX:List T→List T→Bool
 | [],[]=>aP
 |x::xs,y::ys=>wT x y&&tX xs ys
 | [],_::_=>aQ
 |_::_,[]=>aQ
end
mutual
theorem zAn:(x y:T)→wT x y=aP→x.size=y.size
 |.agg xs,.agg ys,h=>by simp only[wT]at h;simp only[T.size];exact zBP xs ys h
 |.agg _,.any,h|.agg _,.lit _,h|.agg _,.ro _,h|.agg _,.same _ _,h|.agg _,.addr _ _,h|.agg _,.sub _ _ _ _ _,h|.agg _,.sl _ _,h|.agg _,.ptr _,h|.agg _,.tup _,h=>by grind[wT]
 |.tup _,_,h=>by grind[wT]
 |.any,y,h|.lit _,y,h|.ro _,y,h|.same _ _,y,h|.addr _ _,y,h|.sub _ _ _ _ _,y,h|.sl _ _,y,h|.ptr _,y,h=>by cases y<;>simp[wT]at h<;>simp[T.size]
theorem zBP:(xs ys:List T)→tX xs ys=aP→T.sizes xs=T.sizes ys
 | [],[],_=>rfl
 |x::xs,y::ys,h=>by simp only[tX,J2]at h;simp only[T.sizes,zAn x y h.1,zBP xs ys h.2]
 | [],_::_,h=>by grind[tX]
 |_::_,[],h=>by grind[tX]
end
section
variable {G:Gh}{w:World}{s:Nat}
mutual
theorem zGd:(t:T)→ ∀(p:List Nat)(b o j:Nat),Loc G w s t p b o→j<t.size→ ∃y,G.lb b (o+j)=aN (aQ,s,y++p)
 |.agg xs,p,b,o,j,h,hj=>by simp only[Loc,T.size]at h hj;exact zJz xs p 0 b o j h.2 hj
 |.any,p,b,o,j,h,hj|.lit _,p,b,o,j,h,hj|.ro _,p,b,o,j,h,hj|.same _ _,p,b,o,j,h,hj|.addr _ _,p,b,o,j,h,hj|.sub _ _ _ _ _,p,b,o,j,h,hj|.sl _ _,p,b,o,j,h,hj|.ptr _,p,b,o,j,h,hj=>by
  simp only[Loc,T.size]at h hj
  simp_all
 |.tup _,_,_,_,_,h,_=>by simp only[Loc]at h
theorem zJz:(xs:List T)→ ∀(p:List Nat)(i b o j:Nat),wB G w s xs p i b o→j<T.sizes xs→ ∃y,G.lb b (o+j)=aN (aQ,s,y++p)
 | [],_,_,_,_,_,_,hj=>by grind[T.sizes]
 |x::xs,p,i,b,o,j,h,hj=>by
  simp only[wB,T.sizes]at h hj
  by_cases gI:j<x.size
  ·obtain⟨y,hy⟩:=zGd x (i::p) b o j h.1 gI
   exact⟨y++[i],by grind⟩
  ·obtain⟨y,hy⟩:=zJz xs p (i+1) b (o+x.size) (j-x.size) h.2 (by omega)
   grind
end
mutual
theorem zLD{G':Gh}{w':World}:(u u0:T)→ ∀(p:List Nat)(b o:Nat),wT u u0=aP→(∀y,u.inT y.reverse=aP→G'.ad s (y++p)=G.ad s (y++p))→
  (∀b o y,G.lb b o=aN (aQ,s,y++p)→G'.lb b o=aN (aQ,s,y++p))→(∀j v,(vals G' s u p)[j]? =aN v→yA w' b (o+j)=aN v)→Loc G w s u0 p b o→Loc G' w' s u p b o
 |.agg xs,.agg ys,p,b,o,h,ha,hl,hc,h0=>by
  simp only[Loc,wT]at h h0 ⊢
  refine⟨by have:=ha [] rfl;grind,zJ0 xs ys p 0 b o h (fun i x hx y hy=>?_) (by omega) (by grind[vals]) h0.2⟩
  grind[Ga,T.inT]
 |.agg _,.any,_,_,_,h,_,_,_,_|.agg _,.lit _,_,_,_,h,_,_,_,_|.agg _,.ro _,_,_,_,h,_,_,_,_|.agg _,.same _ _,_,_,_,h,_,_,_,_|.agg _,.addr _ _,_,_,_,h,_,_,_,_|.agg _,.sub _ _ _ _ _,_,_,_,h,_,_,_,_|.agg _,.sl _ _,_,_,_,h,_,_,_,_|.agg _,.ptr _,_,_,_,h,_,_,_,_|.agg _,.tup _,_,_,_,h,_,_,_,_=>by grind[wT]
 |.tup _,_,_,_,_,h,_,_,_,_=>by grind[wT]
 |.any,u0,p,b,o,h,ha,hl,hc,h0|.lit _,u0,p,b,o,h,ha,hl,hc,h0|.ro _,u0,p,b,o,h,ha,hl,hc,h0|.same _ _,u0,p,b,o,h,ha,hl,hc,h0|.addr _ _,u0,p,b,o,h,ha,hl,hc,h0|.sub _ _ _ _ _,u0,p,b,o,h,ha,hl,hc,h0|.sl _ _,u0,p,b,o,h,ha,hl,hc,h0|.ptr _,u0,p,b,o,h,ha,hl,hc,h0=>by have h1:=vF (by cases u0<;>simp[wT]at h<;>rfl) h0;have h2:=ha [] rfl;rw[K3]at h2;simp only[Loc];exact⟨h2.trans h1.1,by simp_all,by simpa using hc 0 (G'.hd s p) (by simp[vals])⟩
theorem zJ0{G':Gh}{w':World}:(xs ys:List T)→ ∀(p:List Nat)(j b o:Nat),tX xs ys=aP→(∀i x,xs[i]? =aN x→ ∀y,x.inT y.reverse=aP→G'.ad s (y++((j+i)::p))=G.ad s (y++((j+i)::p)))→
  (∀b o y,G.lb b o=aN (aQ,s,y++p)→G'.lb b o=aN (aQ,s,y++p))→(∀i v,(zP G' s xs p j)[i]? =aN v→yA w' b (o+i)=aN v)→wB G w s ys p j b o→wB G' w' s xs p j b o
 | [],[],_,_,_,_,_,_,_,_,_=>by simp only[wB]
 |x::xs,y::ys,p,j,b,o,h,ha,hl,hc,h0=>by
  simp only[tX,J2,wB]at h h0 ⊢
  have hs:=zAn x y h.1;have gR:∀zs,x≠.tup zs:=by rintro zs rfl;grind[wT]
  refine⟨zLD x y (j::p) b o h.1 (fun z hz=>by simpa using ha 0 x (by simp) z hz) (fun b o z hz=>by have:=hl b o (z++[j]) (by grind);grind) (fun i v hv=>hc i v ?_) h0.1,
   zJ0 xs ys p (j+1) b (o+x.size) h.2 (fun i z hz=>by have:=ha (i+1) z (by grind);grind) hl (fun i v hv=>?_) (by grind)⟩
  ·grind[zP]
  ·have:=hc (x.size+i) v (by
    grind[zP,xL])
   grind
 | [],_::_,_,_,_,_,h,_,_,_,_=>by grind[tX]
 |_::_,[],_,_,_,_,h,_,_,_,_=>by grind[tX]
end
end
def zDp(p:zY)(q:List Nat)(s:Nat)(z:List Nat):Option (List Nat):=
 match p with
 |.slot s0 t=>if vP t&&s0==s then aN (z++q)else aO
 |.zero _=>aO
def sHd(G:Gh)(p:zY)(y:List Nat):Value:=
 match p with
 |.slot s _=>G.hd s y
 |.zero u=>tM (zhd u y.reverse)
def sWr(r:Nat)(q:List Nat):zY→Wr
 |.slot s t=>if vP t then[(s,aN (cpT r t q))]else[]
 |.zero _=>[]
def Gh.st(G:Gh)(r:Nat)(q:List Nat)(p:zY):Gh where
 hd s z:=if s=r∧q<:+z then sHd G p (z.take (z.length-q.length))else G.hd s z
 ad s z:=if s=r∧q<:+z∧p.tree.inT (z.take (z.length-q.length)).reverse=aQ then(match p with
  |.slot s0 _=>G.ad s0 (z.take (z.length-q.length))
  |.zero _=>default)else G.ad s z
 lb b o:=match G.lb b o with
  |some (fl,s,z)=>(match zDp p q s z with
   |some z'=>aN (fl,r,z')
   |none=>aN (fl,s,z))
  |none=>aO
 ow b:=match G.ow b with
  |some (s,z)=>(match zDp p q s z with
   |some z'=>aN (r,z')
   |none=>aN (s,z))
  |none=>aO
mutual
theorem zGW{Γ:Ctx}{G:Gh}{w:World}(hm:Mem Γ G w){s:Nat}:(t:T)→ ∀(p:List Nat)(v:Value),v∈vals G s t p→v.oneCell'=aP
 |.agg xs,p,v,h=>by simp only[vals]at h;exact zAM hm xs p 0 v h
 |.any,p,v,h|.lit _,p,v,h|.ro _,p,v,h|.same _ _,p,v,h|.addr _ _,p,v,h|.sub _ _ _ _ _,p,v,h|.sl _ _,p,v,h|.ptr _,p,v,h|.tup _,p,v,h=>by simp only[vals,List.mem_singleton]at h;rw[h];exact hm.one s p
theorem zAM{Γ:Ctx}{G:Gh}{w:World}(hm:Mem Γ G w){s:Nat}:(xs:List T)→ ∀(p:List Nat)(j:Nat)(v:Value),v∈zP G s xs p j→v.oneCell'=aP
 | [],_,_,_,h=>by grind[zP]
 |x::xs,p,j,v,h=>by
  simp only[zP,Jq]at h;rcases h with h|h
  ·exact zGW hm x _ v h
  ·exact zAM hm xs p _ v h
end
mutual
theorem zC6:(u:T)→u.zOk=aP→ ∀v∈vQ u,v.oneCell'=aP
 |.lit v,h,x,hx=>by simp only[vQ,List.mem_singleton]at hx;rw[hx];exact h
 |.sl _ _,_,x,hx=>by simp only[vQ,List.mem_singleton]at hx;rw[hx];rfl
 |.agg xs,h,x,hx=>by simp only[T.zOk]at h;simp only[vQ]at hx;exact zDL xs h x hx
 |.any,h,_,_|.ro _,h,_,_|.same _ _,h,_,_|.addr _ _,h,_,_|.sub _ _ _ _ _,h,_,_|.ptr _,h,_,_|.tup _,h,_,_=>by grind[T.zOk]
theorem zDL:(xs:List T)→sQ xs=aP→ ∀v∈uE xs,v.oneCell'=aP
 | [],_,_,h=>by grind[uE]
 |x::xs,h,v,hv=>by
  simp only[sQ,J2]at h;simp only[uE,Jq]at hv;rcases hv with hv|hv
  ·exact zC6 x h.1 v hv
  ·exact zDL xs h.2 v hv
end
theorem zGX(y q:List Nat):(y++q).take ((y++q).length-q.length)=y:=by simp
theorem zIy{Γ:Ctx}{G G':Gh}{w':World}{s d:Nat}{q:List Nat}{t:T}{v:Option Value}(hv:v=aN (mkV G s t []))(gR:∀xs,t≠.tup xs)(hs:∀p,G'.hd s p=G.hd s p)(cZ:∀z,G'.hd d (z++q)=G.hd s z)
  (hr:R Γ.St G' w' d t q):Ent Γ G' w' v s (cpT d t q):=by
 have hz:∀z,G'.hd s (z++[])=G'.hd d (z++q):=by grind
 refine⟨?_,?_,uN d t q⟩
 ·rw[hv,sZ (G:=G') (G':=G') t q [] gR hz,sC G s t [] gR,kE t [] q (fun z=>by rw[cZ,Je])]
 ·exact zBq (G:=G') (G':=G') (fun _=>rfl) t q [] hz gR (yD.triv (fun _ _=>⟨rfl,rfl⟩) _) hr
section
variable {P:Program}{Γ:Ctx}{E:Env}{o:Oper}
theorem tN:(f:List Nat)→ ∀(t u:T),zO t→zO u→zO (t.set f u)
 | [],t,u,_,hu=>by grind[T.set]
 |i::f,t,u,ht,hu=>by
  cases t with
  |sl k xs=>
   simp only[T.set];split
   ·rename_i x hx
    simp only[zO,yD]at ht ⊢
    exact sets_clean xs i _ ht (tN f x u (wH xs ht i x hx) hu)
   ·exact ht
  |agg xs=>
   simp only[T.set];split
   ·rename_i x hx
    simp only[zO,yD]at ht ⊢
    exact sets_clean xs i _ ht (tN f x u (wH xs ht i x hx) hu)
   ·exact ht
  |tup xs=>
   simp only[T.set];split
   ·rename_i x hx
    simp only[zO,yD]at ht ⊢
    exact sets_clean xs i _ ht (tN f x u (wH xs ht i x hx) hu)
   ·exact ht
  |ptr t=>
   simp only[T.set];split
   ·simp only[zO,yD]at ht ⊢
    exact tN f t u ht hu
   ·exact ht
  |_=>grind[T.set]
where sets_clean:(xs:List T)→ ∀(i:Nat)(y:T),yB xs→zO y→yB (xs.set i y)
 | [],_,_,_,_=>by grind
 |x::xs,0,y,h,hy=>by simp only[K8,yB,yQ]at h ⊢;grind
 |x::xs,i+1,y,h,hy=>by simp only[K9,yB,yQ]at h ⊢;exact⟨h.1,sets_clean xs i y h.2 hy⟩
theorem zFc(T':TypeId)(ti:TypeInfo)(x y:Operand)(r:Nat)(q:List Nat)(tr u0:T)(p:zY)(ho:o.op=.store T' x y)(gf:o.dst=aO)
  (hi:P.info? T'=aN ti)(gu:ti.size=p.tree.size)(pC:0<ti.size)(hx:kZ Γ E x r q)(hr:E r=aN tr)(bF:tr.single=aP)(hg:tr.get q.reverse=aN u0)(hl:tr.locd q.reverse=aP)
  (el:wT p.tree u0=aP)(hy:sJ E y p)(gN:vG E r [p]):
  yW P Γ o E (E.app ((r,aN (tr.set q.reverse p.tree))::sWr r q p) ((r,q.length)::vR [p])):=by
 refine yW.skip gf fun a w G g9=>?_
 have hm:=g9.mem;have pY:=hx a w G g9;obtain⟨e3,e4,e5⟩:=g9.ent r _ hr;have mh:q≠[]:=by rintro rfl;simp[T.locd]at hl
 obtain⟨i0,f0,tx⟩:∃i f,q.reverse=i::f:=by
  cases h:q.reverse with
  |nil=>exact absurd (by simpa using h) mh
  |cons i f=>exact⟨i,f,rfl⟩
 have mN:∀v:T,(tr.set q.reverse v).single=aP∧zO tr:=by
  intro v;rw[tx]at hg ⊢
  cases tr with
  |sl k xs=>exact⟨by simp only[T.set];split<;>rfl,by simpa only[Top,zO,yD]using e5⟩
  |ptr t=>exact⟨by simp only[T.set];split<;>rfl,by simpa only[Top,zO,yD]using e5⟩
  |agg xs=>simp[T.single]at bF
  |tup xs=>simp[T.single]at bF
  |_=>simp[T.get]at hg
 obtain⟨b,ob,cs,et,cz,gC,av⟩:=(kY q.reverse tr u0 [] e4 hg).2 hl;simp only[rp,Kc,Je]at cz;have hru0:=(kY q.reverse tr u0 [] e4 hg).1;have p7:=zBs cz;have hsu:=zAn _ _ el;have hc:=qB g9 gN (by simp) hy;have eJ:(a.eval y).cells.size=p.tree.size:=by
  rw[←Jv,hc];cases p with
  |slot s t=>obtain⟨_,_,h3⟩:=gN.slot s t (by simp);exact xL t [] (by rintro xs rfl;simp[T.okTup]at h3)
  |zero u=>exact xP u (gN.zero u (by simp))
 have gz:∀v∈(a.eval y).cells.toList,v.oneCell'=aP:=by
  rw[hc];intro v hv;cases p with
  |slot s t=>exact zGW hm t [] v hv
  |zero u=>exact zC6 u (gN.zero u (by simp)) v hv
 generalize hJ:w.setRow b (cs.toList.take ob++(a.eval y).cells.toList++cs.toList.drop (ob+(a.eval y).cells.toList.length)).toArray=w'
 have gY:w'.heap[b]? =aN (.cells (cs.toList.take ob++(a.eval y).cells.toList++cs.toList.drop (ob+(a.eval y).cells.toList.length)).toArray et (0,0)):=by rw[←hJ];exact setRow_heap w b cs _ et _ gC
 have gA:∀b',b'≠b→w'.heap[b']? =w.heap[b']?:=fun b' h=>by rw[←hJ];exact setRow_other w b b' _ h
 have gH:w'.heap.size=w.heap.size:=by rw[←hJ];exact size_setRow w b _
 have gJ:(a.eval y).cells.toList.length=u0.size:=by rw[Jv,eJ,hsu]
 have ed:∀k,yA w' b k=if ob≤k∧k<ob+u0.size then(vZ G p)[k-ob]? else yA w b k:=by
  intro k;simp only[yA,World.cell?,gY,gC,Uf,La,if_false];rw[←hc,←gJ]at*
  rw[←K4,←K4 (xs:=cs)];simp only[];have gS:cs.toList.length=cs.size:=Jv ..
  generalize (a.eval y).cells.toList=V at*
  by_cases h1:k<ob
  ·rw[if_neg (by omega),Jb,K5 (by simp;omega),Gl h1]
  ·by_cases h2:k<ob+V.length
   ·rw[if_pos ⟨by omega,h2⟩,Jb,Jd (by simp;omega),K5 (by simp;omega)]
    congr 1;simp;omega
   ·rw[if_neg (by omega),Jb,Jd (by simp;omega),Jd (by simp;omega),L1]
    congr 1;simp;omega
 have f7:∀b' o' fl s z,G.lb b' o'=aN (fl,s,z)→ ¬(s=r∧q<:+z)→yA w' b' o'=yA w b' o':=by
  intro b' o' fl s z h1 h2
  by_cases hb:b'=b
  ·subst hb
   rw[ed];split
   ·rename_i h3
    obtain⟨y',h4⟩:=zGd u0 q b' ob (o'-ob) cz (by omega);rw[show ob+(o'-ob)=o' from by omega,h1]at h4;simp at h4;exact absurd ⟨h4.2.1,y',h4.2.2.symm⟩ h2
   ·rfl
  ·simp[yA,World.cell?,gA b' hb]
 have gZ:Blk w w':=by
  intro b' cs' e' h1
  by_cases hb:b'=b
  ·subst hb
   rw[gC]at h1;simp at h1;obtain⟨rfl,rfl⟩:=h1;exact⟨_,gY,by simp;have:cs.toList.length=cs.size:=Jv ..;omega⟩
  ·exact⟨cs',by rw[gA b' hb];exact h1,rfl⟩
 generalize gl:G.st r q p=G'
 have ghd:∀y',G'.hd r (y'++q)=sHd G p y':=fun y'=>by rw[←gl];simp[Gh.st]
 have ghd':∀s z,¬(s=r∧q<:+z)→G'.hd s z=G.hd s z:=fun s z h=>by rw[←gl];simp only[Gh.st];rw[if_neg h]
 have gad:∀s z,¬(s=r∧q<:+z)→G'.ad s z=G.ad s z:=fun s z h=>by rw[←gl];simp only[Gh.st];rw[if_neg (fun h2=>h ⟨h2.1,h2.2.1⟩)]
 have gadf:∀y',p.tree.inT y'.reverse=aP→G'.ad r (y'++q)=G.ad r (y'++q):=fun y' h=>by rw[←gl];simp only[Gh.st,zGX];rw[if_neg (by simp[h])]
 have gadm:∀s0 t y',p=.slot s0 t→t.inT y'.reverse=aQ→G'.ad r (y'++q)=G.ad s0 y':=fun s0 t y' h1 h2=>by subst h1;rw[←gl];simp only[Gh.st,zGX,zY.tree];rw[if_pos];simp[h2]
 have glb:∀b' o' fl s z,G.lb b' o'=aN (fl,s,z)→zDp p q s z=aO→G'.lb b' o'=aN (fl,s,z):=fun b' o' fl s z h1 h2=>by rw[←gl];simp[Gh.st,h1,h2]
 have glbm:∀b' o' fl s z z',G.lb b' o'=aN (fl,s,z)→zDp p q s z=aN z'→G'.lb b' o'=aN (fl,r,z'):=fun b' o' fl s z z' h1 h2=>by rw[←gl];simp[Gh.st,h1,h2]
 have gow:∀b' s z,G.ow b'=aN (s,z)→zDp p q s z=aO→G'.ow b'=aN (s,z):=fun b' s z h1 h2=>by rw[←gl];simp[Gh.st,h1,h2]
 have gowm:∀b' s z z',G.ow b'=aN (s,z)→zDp p q s z=aN z'→G'.ow b'=aN (r,z'):=fun b' s z z' h1 h2=>by rw[←gl];simp[Gh.st,h1,h2]
 have mY:∀s z,(∀n,(s,n)∉(r,q.length)::vR [p])→zDp p q s z=aO:=by
  intro s z h;cases p with
  |zero u=>rfl
  |slot s0 t=>
   simp only[zDp];rw[if_neg];intro h2;simp only[J2,beq_iff_eq]at h2;obtain⟨h3,rfl⟩:=h2;exact h 1 (by simp[vR,yM,h3])
 have fT:∀z,zDp p q r z=aO:=by
  intro z;cases p with
  |zero u=>rfl
  |slot s0 t=>
   simp only[zDp];rw[if_neg];intro h2;simp only[J2,beq_iff_eq]at h2;obtain⟨h3,rfl⟩:=h2;have:=(K7.1 gN.dist).1;simp[yM,h3]at this
 have cU:∀s z,Off ((r,q.length)::vR [p]) s z→ ¬(s=r∧q<:+z):=by
  rintro s z h ⟨rfl,h2⟩
  have:=h q.length (by simp);have:=h2.length_le;omega
 have gw:tD ((r,q.length)::vR [p]) G w G' w':=by
  refine⟨fun s z h=>ghd' s z (cU s z h),fun s z h=>gad s z (cU s z h),fun b' o' fl s z _ h1 h2=>⟨glb b' o' fl s z h1 (mY s z h2),f7 b' o' fl s z h1 ?_⟩,fun b' s z h1 h2=>gow b' s z h1 (mY s z h2),gZ⟩
  rintro⟨rfl,_⟩
  exact h2 q.length (by simp)
 have ms:zAi Γ w b:=by obtain⟨y',h4⟩:=zGd u0 q b ob 0 cz (by omega);exact hm.lb _ _ _ h4
 have gv:Mem Γ G' w':=by
  refine⟨fun s z=>?_,fun b' o' l hl=>?_,fun b' l hl=>?_,fun b' x' gW=>?_,fun b' h1 h2=>?_,by rw[gH];exact hm.sz,hm.bk.trans gZ (by rw[←hJ];rfl) (by rw[←hJ];rfl)⟩
  ·by_cases h:s=r∧q<:+z
   ·obtain⟨rfl,y',rfl⟩:=h
    rw[ghd];unfold sHd;split
    ·exact hm.one _ _
    ·exact jL _
   ·rw[ghd' s z h];exact hm.one s z
  ·have:∃l',G.lb b' o'=aN l':=by
    rw[←gl]at hl;simp only[Gh.st]at hl;split at hl
    ·exact⟨_,by assumption⟩
    ·cases hl
   obtain⟨l',pL⟩:=this;have:=hm.lb b' o' l' pL;exact⟨by rw[gH];exact this.1,this.2⟩
  ·have:∃l',G.ow b'=aN l':=by
    rw[←gl]at hl;simp only[Gh.st]at hl;split at hl
    ·exact⟨_,by assumption⟩
    ·cases hl
   obtain⟨l',pL⟩:=this;have:=hm.ow b' l' pL;exact⟨by rw[gH];exact this.1,this.2⟩
  ·have hb:b'≠b:=by rintro rfl;rw[ms.2.2]at gW;cases gW
   rw[gA b' hb];exact hm.st b' x' gW
  ·have hb:b'≠b:=by
    rintro rfl
    rcases ms.2.1 with h3|h3
    ·omega
    ·exact h2 h3
   rw[gA b' hb];exact hm.fr b' h1 h2
 have t6:Upd G w G' w' r q:=by refine⟨fun z h=>ghd' r z (fun h2=>h h2.2),fun z h=>gad r z (fun h2=>h h2.2),fun b' o' fl z h1 h=>⟨glb b' o' fl r z h1 (fT z),f7 b' o' fl r z h1 (fun h2=>h h2.2)⟩,fun b' z h1 _=>gow b' r z h1 (fT z),gZ⟩
 have mf:R Γ.St G' w' r p.tree q:=by
  cases hp:p with
  |zero u=>
   refine zGb u q (gN.zero u (by simp[hp])) (fun z=>by rw[ghd];simp[sHd,hp])
  |slot s0 t=>
   obtain⟨h1,h2,h3⟩:=gN.slot s0 t (by simp[hp]);have eR:=(g9.ent s0 t h1).2.1
   by_cases fW:vP t=aP
   ·have tg:s0≠r:=by
     rintro rfl
     have:=(K7.1 gN.dist).1;simp[hp,yM,fW]at this
    refine zGT t [] q h3 ⟨fun z=>by rw[ghd,Je];simp[sHd,hp],fun z hz=>by rw[Je];exact gadm s0 t z hp hz,fun b' o' fl z _ h4=>?_,fun b' z h4=>?_,gZ⟩ (yD.mono (fun _ _=>False.elim) t h2) eR
    ·rw[Je]at h4
     exact⟨glbm b' o' fl s0 z _ h4 (by simp[zDp,hp,fW]),f7 b' o' fl s0 z h4 (fun h5=>tg h5.1)⟩
    ·rw[Je]at h4
     exact gowm b' s0 z _ h4 (by simp[zDp,hp,fW])
   ·have hh:G'.hd r q=G.hd s0 []:=by have:=ghd [];rw[K3]at this;rw[this];simp[sHd,hp]
    cases t<;>simp[vP]at fW<;>simp only[R,zY.tree]at eR ⊢ <;>rw[hh]<;>exact eR
 have fH:vals G' r p.tree q=vZ G p:=by
  cases hp:p with
  |zero u=>exact zC4 u q (gN.zero u (by simp[hp])) (fun z=>by rw[ghd];simp[sHd,hp])
  |slot s0 t=>exact qR t [] q (fun z=>by rw[ghd];simp[sHd,hp])
 have be:∀b' o',Loc G w r u0 q b' o'→Loc G' w' r p.tree q b' o':=by
  intro b' o' h1;have h2:b'=b∧o'=ob:=by have:=(zBs h1).symm.trans p7;simp at this;exact this
  obtain⟨rfl,rfl⟩:=h2;refine zLD p.tree u0 q b' o' el (fun y' h=>gadf y' h) (fun b2 o2 y' h=>glb b2 o2 aQ r _ h (fT _)) (fun j v hv=>?_) h1;rw[fH]at hv;have hj:=(J8.1 hv).1;have pD:(vZ G p).length=u0.size:=by rw[←hc,gJ]
  rw[ed,if_pos ⟨by omega,by omega⟩,show o'+j-o'=j from by omega];exact hv
 have mT:R Γ.St G' w' r (tr.set q.reverse p.tree) []:=by
  have c9:rp q.reverse []=q:=by simp[rp]
  refine zDA q.reverse tr p.tree u0 [] (by rw[c9];exact t6) e4 hg hsu (yD.mono (fun _ _=>False.elim) tr (mN .any).2) (by rw[c9];exact be) (by rw[c9];exact mf)
 have gD:=run_storeCells_at P b ob et (a.eval y).cells.toList 0 cs w gC (by omega) gz;simp only[U1]at gD;rw[hJ]at gD;refine⟨w',?_,G',xS g9 rfl gw gv ?_ ?_⟩
 ·have ta:(a.eval y).cells.size=ti.size:=by rw[eJ,gu]
  simp[execOp,ho,pY,p7,Instr.storeAt,wX,storeVar,sizeOf,typeInfo,hi,ta,gD]
 ·intro s hs
  simp only[Wr.find]at hs;split at hs
  ·cases hs
  ·rename_i gj
   refine⟨fun n hn=>?_,rfl⟩;simp only[Jl,Us.injEq]at hn;rcases hn with⟨h1,_⟩|hn
   ·exact gj h1.symm
   ·cases p with
    |zero u=>simp[vR,yM]at hn
    |slot s0 t=>
     by_cases fW:vP t=aP
     ·simp[vR,yM,fW]at hn
      simp[sWr,fW,Wr.find,hn.1.symm]at hs
     ·simp[vR,yM,fW]at hn
 ·intro s t hs
  simp only[Wr.find]at hs;split at hs
  ·rename_i he
   subst he;simp at hs;subst hs;refine⟨?_,mT,Top.of_clean _ (tN _ _ _ (mN .any).2 ?_)⟩
   ·rw[e3,yE (mN p.tree).1,yE bF]
    congr 1
    exact(ghd' r [] (fun h=>mh (by simpa using h.2))).symm
   ·cases p with
    |zero u=>exact(jM u (gN.zero u (by simp))).1
    |slot s0 t=>exact(gN.slot s0 t (by simp)).2.1
  ·rename_i gj
   cases hp:p with
   |zero u=>simp[sWr,hp,Wr.find]at hs
   |slot s0 t0=>
    by_cases fW:vP t0=aP
    ·simp only[sWr,hp,fW,if_true,Wr.find]at hs
     split at hs
     ·rename_i he
      subst he;simp at hs;subst hs;obtain⟨h1,h2,h3⟩:=gN.slot s0 t0 (by simp[hp]);refine zIy (G:=G) (g9.ent s0 t0 h1).1 (by rintro xs rfl;simp[T.okTup]at h3) (fun z=>ghd' s0 z (fun h=>gj h.1.symm)) (fun z=>by rw[ghd];simp[sHd,hp]) (by rw[hp]at mf;exact mf)
     ·cases hs
    ·simp[sWr,hp,fW,Wr.find]at hs
theorem zGY(T':TypeId)(ti:TypeInfo)(x y:Operand)(r:Nat)(q:List Nat)(tr u0:T)(p:zY)(ho:o.op=.store T' x y)(gf:o.dst=aO)
  (hi:P.info? T'=aN ti)(gu:ti.size=p.tree.size)(pC:0<ti.size)(hx:opT E x=aN (.addr r q))(hr:E r=aN tr)(bF:tr.single=aP)(hg:tr.get q.reverse=aN u0)(hl:tr.locd q.reverse=aP)
  (el:wT p.tree u0=aP)(hy:sJ E y p)(gN:vG E r [p]):
  yW P Γ o E (E.app ((r,aN (tr.set q.reverse p.tree))::sWr r q p) ((r,q.length)::vR [p])):=
 by grind[zFc,kZ.addr]
end
end Go.Ab

namespace Go.Ab
open Go
section
variable {G G':Gh}{s:Nat}
theorem zIz(xs:List T):∀(p:List Nat)(j:Nat),(∀k,j≤k→ ∀z,G'.hd s (z++(k::p))=G.hd s (z++(k::p)))→zP G' s xs p j=zP G s xs p j:=by
 induction xs with
 |nil=>grind[zP]
 |cons z zs ih=>
  intro p j h;simp only[zP];rw[qR z (j::p) (j::p) (h j (Ji _)),ih p (j+1) (by grind)]
theorem zK2(xs:List T):∀(p:List Nat)(j i:Nat)(x y:T),xs[i]? =aN x→(∀k,k≠j+i→ ∀z,G'.hd s (z++(k::p))=G.hd s (z++(k::p)))→
  vals G' s y ((j+i)::p)=vals G s x ((j+i)::p)→zP G' s (xs.set i y) p j=zP G s xs p j:=by
 induction xs with
 |nil=>simp
 |cons z zs ih=>
  intro p j i x y h hz hy;cases i with
  |zero=>
   grind[zP,zIz]
  |succ i=>
   simp only[K9,zP];rw[qR z (j::p) (j::p) (hz j (by omega)),ih p (j+1) i x y (by grind) (by grind) (by grind)]
theorem zGZ:(f:List Nat)→ ∀(t u u0:T)(p:List Nat),t.get f=aN u0→u0.single=aP→u.single=aP→(∀z,(rp f p<:+z→z=rp f p)→G'.hd s z=G.hd s z)→vals G' s (t.set f u) p=vals G s t p
 | [],t,u,u0,p,hg,h0,h1,hh=>by simp[T.get]at hg;subst hg;have:G'.hd s p=G.hd s p:=hh p (by simp[rp]);simp only[T.set];cases t<;>simp[T.single]at h0<;>cases u<;>simp[T.single]at h1<;>simp[vals,this]
 |i::f,t,u,u0,p,hg,h0,h1,hh=>by
  rw[qP]at hh;have hp:G'.hd s p=G.hd s p:=by grind[tV]
  cases t with
  |agg xs=>
   simp only[T.get]at hg;cases hx:xs[i]? with
   |none=>grind
   |some x=>
    rw[hx]at hg;simp only[T.set,hx,vals];refine zK2 xs p 0 i x _ hx (by grind[tK]) ?_;rw[J6];exact zGZ f x u u0 (i::p) hg h0 h1 hh
  |tup xs=>
   grind[T.set,vals]
  |sl k xs=>grind[T.set,vals]
  |ptr t=>grind[T.set,vals]
  |_=>grind[T.get]
theorem zHa(f:List Nat)(t u u0:T)(p:List Nat)(hg:t.get f=aN u0)(h0:u0.single=aP)(h1:u.single=aP)(hh:∀z,(rp f p<:+z→z=rp f p)→G'.hd s z=G.hd s z)(gR:∀xs,t≠.tup xs):
  vO G' s (t.set f u) p=vO G s t p:=by
 have h:=zGZ f t u u0 p hg h0 h1 hh;cases f with
 |nil=>
  simp[T.get]at hg;subst hg;have:G'.hd s p=G.hd s p:=hh p (by simp[rp]);simp only[T.set];cases t<;>simp[T.single]at h0<;>cases u<;>simp[T.single]at h1<;>simp[vO,this]
 |cons i f=>
  rw[qP]at hh;have hp:G'.hd s p=G.hd s p:=by grind[tV]
  cases t with
  |agg xs=>
   grind[T.set,vals,vO]
  |tup xs=>grind
  |sl k xs=>grind[T.set,vO]
  |ptr t=>grind[T.set,vO]
  |_=>grind[T.get]
theorem zK3(xs:List T):∀(p:List Nat)(j:Nat),(∀k,j≤k→ ∀z,G'.hd s (z++(k::p))=G.hd s (z++(k::p)))→sB G' s xs p j=sB G s xs p j:=by
 induction xs with
 |nil=>grind[sB]
 |cons z zs ih=>
  intro p j h;simp only[sB];rw[kE z (j::p) (j::p) (h j (Ji _)),ih p (j+1) (by grind)]
theorem zLE(xs:List T):∀(p:List Nat)(j i:Nat)(x y:T),xs[i]? =aN x→(∀k,k≠j+i→ ∀z,G'.hd s (z++(k::p))=G.hd s (z++(k::p)))→
  vO G' s y ((j+i)::p)=vO G s x ((j+i)::p)→sB G' s (xs.set i y) p j=sB G s xs p j:=by
 induction xs with
 |nil=>simp
 |cons z zs ih=>
  intro p j i x y h hz hy;cases i with
  |zero=>
   grind[sB,zK3]
  |succ i=>
   simp only[K9,sB];rw[kE z (j::p) (j::p) (hz j (by omega)),ih p (j+1) i x y (by grind) (by grind) (by grind)]
def yP:T→Bool
 |.tup xs=>xs.all fun x=>match x with
  |.tup _=>aQ
  |_=>aP
 |_=>aP
theorem zJ1(f:List Nat)(t u u0:T)(p:List Nat)(hg:t.get f=aN u0)(h0:u0.single=aP)(h1:u.single=aP)(hh:∀z,(rp f p<:+z→z=rp f p)→G'.hd s z=G.hd s z)(p6:yP t=aP):
  mkV G' s (t.set f u) p=mkV G s t p:=by
 by_cases ht:∃xs,t=.tup xs
 ·obtain⟨xs,rfl⟩:=ht
  cases f with
  |nil=>grind[T.get,T.single]
  |cons i f=>
   rw[qP]at hh;simp only[T.get]at hg;cases hx:xs[i]? with
   |none=>grind
   |some x=>
    rw[hx]at hg;simp only[T.set,hx,mkV];rw[zLE xs p 0 i x _ hx (fun k hk z=>hh _ (fun h=>absurd h (tK (by omega) z)))];rw[J6];refine zHa f x u u0 (i::p) hg h0 h1 hh ?_
    rintro ys rfl
    simp only[yP]at p6;have:=Ju.1 p6 _ (Kk hx)
    grind
 ·have gR:∀xs,t≠.tup xs:=by grind
  rw[sC G s t p gR,←zHa f t u u0 p hg h0 h1 hh gR];refine sC G' s _ p ?_
  rintro xs ef
  cases f with
  |nil=>grind[T.set,T.single]
  |cons i f=>cases t<;>simp only[T.set]at ef<;>first|grind|grind|cases ef
end
theorem zDy:(f:List Nat)→ ∀(t u:T),Top t→zO u→Top (t.set f u)
 | [],t,u,_,hu=>by grind[T.set,Top.of_clean]
 |i::f,t,u,ht,hu=>by
  cases t with
  |sl k xs=>
   refine Top.of_clean _ (tN (i::f) _ u (by simpa only[Top,zO,yD]using ht) hu)
  |ptr t=>exact Top.of_clean _ (tN (i::f) _ u (by simpa only[Top,zO,yD]using ht) hu)
  |agg xs=>
   simp only[T.set];split
   ·rename_i x hx
    simp only[Top]at ht ⊢
    exact tops_set xs i _ ht (zDy f x u (tops_get xs ht i x hx) hu)
   ·exact ht
  |tup xs=>
   simp only[T.set];split
   ·rename_i x hx
    simp only[Top]at ht ⊢
    exact tops_set xs i _ ht (zDy f x u (tops_get xs ht i x hx) hu)
   ·exact ht
  |_=>grind[T.set]
where
 tops_set:(xs:List T)→ ∀(i:Nat)(y:T),wL xs→Top y→wL (xs.set i y)
  | [],_,_,_,_=>by simp[wL]
  |x::xs,0,y,h,hy=>by simp only[K8,wL]at h ⊢;grind
  |x::xs,i+1,y,h,hy=>by simp only[K9,wL]at h ⊢;exact⟨h.1,tops_set xs i y h.2 hy⟩
 tops_get:(xs:List T)→wL xs→ ∀(i:Nat)(x:T),xs[i]? =aN x→Top x
  | [],_,_,_,h=>by simp at h
  |y::ys,hk,i,x,h=>by
   simp only[wL]at hk;cases i with
   |zero=>grind
   |succ i=>exact tops_get ys hk.2 i x (by grind)
def Gh.tr(G:Gh)(d:Nat)(g:List Nat)(r:Nat)(p:List Nat):Gh where
 hd s z:=if s=d∧g<:+z then G.hd r (z.take (z.length-g.length)++p)else G.hd s z
 ad s z:=if s=d∧g<:+z∧z≠g then G.ad r (z.take (z.length-g.length)++p)else G.ad s z
 lb b o:=match G.lb b o with
  |some (fl,s,z)=>if s=r∧p<:+z∧(fl=aP∨z≠p)then aN (fl,d,z.take (z.length-p.length)++g)else aN (fl,s,z)
  |none=>aO
 ow b:=match G.ow b with
  |some (s,z)=>if s=r∧p<:+z then aN (d,z.take (z.length-p.length)++g)else aN (s,z)
  |none=>aO
theorem zDc{t:T}(h:t.single=aP):t.size=1:=by cases t<;>simp[T.single]at h<;>simp[T.size]
theorem zBy{Γ:Ctx}{E:Env}{G:Gh}{tmps:Array Value}{w:World}(g9:Rep Γ E G tmps w)(d:Nat)(g:List Nat)(r:Nat)(p:List Nat)(td tr u v0:T)(hd:E d=aN td)(hg:td.get g.reverse=aN v0)(mJ:v0.single=aP)(gK:G.hd d g=G.hd r p)(hr:E r=aN tr)
  (hp:tr.get p.reverse=aN u)(hu:u.single=aP)(hF:zO u)(gQ:d≠r)(pF:td.okB [(d,g.length+1),(r,p.length+1)]=aP)(cv:tr.okB [(d,g.length+1),(r,p.length+1)]=aP)(fY:yP td=aP)(eH:yP tr=aP):
  Rep Γ (E.app [(d,aN (td.set g.reverse u)),(r,aN (if p=[]then .same d g else tr.set p.reverse .any))] [(d,g.length+1),(r,p.length+1)]) (G.tr d g r p) tmps w∧ ∀s z,¬(s=d∧g<:+z∧z≠g)→(G.tr d g r p).hd s z=G.hd s z:=by
 obtain⟨d1,d2,d3⟩:=g9.ent d td hd;obtain⟨r1,r2,r3⟩:=g9.ent r tr hr;have hm:=g9.mem;have mf:=(kY p.reverse tr u [] r2 hp).1;simp only[rp,Kc,Je]at mf;have gC:Blk w w:=fun b cs e' h=>⟨cs,h,rfl⟩
 generalize gl:G.tr d g r p=G'
 have ghd:∀z,G'.hd d (z++g)=G.hd r (z++p):=fun z=>by rw[←gl];simp[Gh.tr]
 have ghd0:∀s z,¬(s=d∧g<:+z∧z≠g)→G'.hd s z=G.hd s z:=by
  intro s z h;rw[←gl];simp only[Gh.tr]
  by_cases h2:s=d∧g<:+z
  ·have h3:z=g:=by
    rcases Decidable.em (z=g)with e|e
    ·exact e
    ·exact absurd ⟨h2.1,h2.2,e⟩ h
   subst h3;rw[if_pos h2,h2.1];simpa using gK.symm
  ·rw[if_neg h2]
 have gad0:∀s z,¬(s=d∧g<:+z∧z≠g)→G'.ad s z=G.ad s z:=fun s z h=>by rw[←gl];simp only[Gh.tr];rw[if_neg h]
 have gad:∀z,z≠[]→G'.ad d (z++g)=G.ad r (z++p):=fun z h=>by rw[←gl];simp only[Gh.tr];rw[if_pos (by simpa using h)];simp
 have glb0:∀b o fl s z,G.lb b o=aN (fl,s,z)→ ¬(s=r∧p<:+z∧(fl=aP∨z≠p))→G'.lb b o=aN (fl,s,z):=fun b o fl s z h1 h2=>by rw[←gl];simp only[Gh.tr,h1];rw[if_neg h2]
 have glb:∀b o fl z,G.lb b o=aN (fl,r,z++p)→(fl=aP∨z≠[])→G'.lb b o=aN (fl,d,z++g):=fun b o fl z h1 h2=>by rw[←gl];simp only[Gh.tr,h1];rw[if_pos (by simpa using h2)];simp
 have gow0:∀b s z,G.ow b=aN (s,z)→ ¬(s=r∧p<:+z)→G'.ow b=aN (s,z):=fun b s z h1 h2=>by rw[←gl];simp only[Gh.tr,h1];rw[if_neg h2]
 have gow:∀b z,G.ow b=aN (r,z++p)→G'.ow b=aN (d,z++g):=fun b z h1=>by rw[←gl];simp only[Gh.tr,h1];rw[if_pos (by simp)];simp
 have gB:∀s z,Off [(d,g.length+1),(r,p.length+1)] s z→ ¬(s=d∧g<:+z∧z≠g):=by
  rintro s z h ⟨rfl,⟨y,rfl⟩,h3⟩
  have:=h (g.length+1) (by simp);have:y=[]:=Jr (by simp at this;omega);exact h3 (by simp[this])
 have gw:tD [(d,g.length+1),(r,p.length+1)] G w G' w:=by
  refine⟨fun s z h=>ghd0 s z (gB s z h),fun s z h=>gad0 s z (gB s z h),fun b o fl s z _ h1 h2=>⟨glb0 b o fl s z h1 ?_,rfl⟩,fun b s z h1 h2=>gow0 b s z h1 ?_,gC⟩
  ·rintro⟨rfl,_⟩;exact h2 (p.length+1) (by simp)
  ·rintro⟨rfl,_⟩;exact h2 (p.length+1) (by simp)
 have gv:Mem Γ G' w:=by
  refine⟨fun s z=>?_,fun b o l hl=>?_,fun b l hl=>?_,hm.st,hm.fr,hm.sz,hm.bk⟩
  ·rw[←gl]
   simp only[Gh.tr];split
   ·exact hm.one _ _
   ·exact hm.one _ _
  ·have:∃l',G.lb b o=aN l':=by
    rw[←gl]at hl;simp only[Gh.tr]at hl;split at hl
    ·exact⟨_,by assumption⟩
    ·cases hl
   obtain⟨l',pL⟩:=this;exact hm.lb b o l' pL
  ·have:∃l',G.ow b=aN l':=by
    rw[←gl]at hl;simp only[Gh.tr]at hl;split at hl
    ·exact⟨_,by assumption⟩
    ·cases hl
   obtain⟨l',pL⟩:=this;exact hm.ow b l' pL
 have c9:∀q:List Nat,rp q.reverse []=q:=fun q=>by simp[rp]
 have hud:R Γ.St G' w d u g:=by
  refine tU (G:=G) (w:=w) (s:=r) (p:=p) ⟨⟨ghd,gad,fun b o f z hz _ hl=>⟨glb b o f z hl (.inr hz),rfl⟩,fun b z _ hl=>gow b z hl,gC⟩,fun b o _ hl=>⟨by simpa using glb b o aP [] (by simpa using hl) (.inl rfl),rfl⟩,fun b hl=>by simpa using gow b [] (by simpa using hl)⟩ u
   (yD.mono (fun _ _=>False.elim) u hF) mf
 have mK:Upd G w G' w d g:=⟨fun z h=>ghd0 d z (fun h2=>h h2.2.1),fun z h=>gad0 d z (fun h2=>h h2.2.1),fun b o f z h1 _=>⟨glb0 b o f d z h1 (fun h2=>gQ h2.1),rfl⟩,fun b z h1 _=>gow0 b d z h1 (fun h2=>gQ h2.1),gC⟩;have bf:∀b o,Loc G w d v0 g b o→Loc G' w d u g b o:=by intro b o h1;obtain⟨h2,h3,h4⟩:=vF mJ h1;have h5:G'.ad d g=⟨b,o,aO⟩∧G'.lb b o=aN (aQ,d,g)∧yA w b o=aN (G'.hd d g):=⟨(gad0 d g (fun h=>h.2.2 rfl)).trans h2,glb0 b o aQ d g h3 (fun h=>gQ h.1),by rw[h4,ghd0 d g (fun h=>h.2.2 rfl)]⟩;cases u<;>simp[T.single]at hu<;>simpa only[Loc]using h5
 have bw:R Γ.St G' w d (td.set g.reverse u) []:=
  zDA g.reverse td u v0 [] (by rw[c9];exact mK) d2 hg (by rw[zDc mJ,zDc hu]) (gw.keepR (qQ td d3 pF)) (by rw[c9];exact bf) (by rw[c9];exact hud)
 have hVd:mkV G' d (td.set g.reverse u) []=mkV G d td []:=
  zJ1 g.reverse td u v0 [] hg mJ hu (fun z hz=>ghd0 d z (fun h2=>h2.2.2 (by rw[c9]at hz;exact hz h2.2.1))) fY
 have hRr:p≠[]→R Γ.St G' w r (tr.set p.reverse .any) []:=by intro mi;refine zDA p.reverse tr .any u [] (by rw[c9];exact⟨fun z _=>ghd0 r z (fun h2=>gQ h2.1.symm),fun z _=>gad0 r z (fun h2=>gQ h2.1.symm),fun b o f z h1 h=>⟨glb0 b o f r z h1 (fun h2=>h h2.2.1),rfl⟩,fun b z h1 h=>gow0 b r z h1 (fun h2=>h h2.2),gC⟩) r2 hp (by cases u<;>simp[T.single]at hu<;>simp[T.size]) (gw.keepR (qQ tr r3 cv)) ?_ (by simp only[R]);rw[c9];intro b o h1;obtain⟨h2,h3,h4⟩:=vF hu h1;simp only[Loc];exact⟨(gad0 r p (fun h=>gQ h.1.symm)).trans h2,glb0 b o aQ r p h3 (by simp),by rw[h4,ghd0 r p (fun h=>gQ h.1.symm)]⟩
 have hVr:p≠[]→mkV G' r (tr.set p.reverse .any) []=mkV G r tr []:=fun _=>
  zJ1 p.reverse tr .any u [] hp hu rfl (fun z _=>ghd0 r z (fun h2=>gQ h2.1.symm)) eH
 refine⟨xS g9 rfl gw gv ?_ ?_,ghd0⟩
 ·intro s hs
  simp only[Wr.find]at hs;split at hs
  ·cases hs
  ·rename_i h1
   split at hs
   ·cases hs
   ·rename_i h2
    refine⟨fun n hn=>?_,rfl⟩;simp only[Jl,Us.injEq,List.not_mem_nil,or_false]at hn;rcases hn with⟨e,_⟩|⟨e,_⟩
    ·exact h1 e.symm
    ·exact h2 e.symm
 ·intro s t hs
  simp only[Wr.find]at hs;split at hs
  ·rename_i he
   subst he;simp at hs;subst hs;exact⟨by rw[d1,hVd],bw,zDy _ _ _ d3 hF⟩
  ·split at hs
   ·rename_i he
    subst he;simp at hs
    by_cases mi:p=[]
    ·rw[if_pos mi]at hs
     subst hs;subst mi;simp[T.get]at hp;subst hp;refine⟨?_,?_,by simp[Top]⟩
     ·rw[r1,yE hu,yE rfl,ghd0 r [] (fun h=>gQ h.1.symm)]
     ·simp only[R]
      rw[ghd0 r [] (fun h=>gQ h.1.symm)];have:=ghd [];simpa using this.symm
    ·rw[if_neg mi]at hs
     subst hs;exact⟨by rw[r1,hVr mi],hRr mi,zDy _ _ _ r3 (by simp[zO,yD])⟩
   ·cases hs
theorem zI0{Γ:Ctx}{E:Env}{a:Act}{w:World}(h:Sim Γ E a w)(d:Nat)(g:List Nat)(r:Nat)(p:List Nat)(td tr u:T)(hd:E d=aN td)(hg:td.get g.reverse=aN (.same r p))(hr:E r=aN tr)
  (hp:tr.get p.reverse=aN u)(hu:u.single=aP)(hF:zO u)(gQ:d≠r)(pF:td.okB [(d,g.length+1),(r,p.length+1)]=aP)(cv:tr.okB [(d,g.length+1),(r,p.length+1)]=aP)(fY:yP td=aP)(eH:yP tr=aP):
  Sim Γ (E.app [(d,aN (td.set g.reverse u)),(r,aN (if p=[]then .same d g else tr.set p.reverse .any))] [(d,g.length+1),(r,p.length+1)]) a w:=by
 obtain⟨gM,G,g9⟩:=h;have gK:=(kY g.reverse td _ [] (g9.ent d td hd).2.1 hg).1;simp only[rp,Kc,Je,R]at gK;exact⟨gM,_,(zBy g9 d g r p td tr u _ hd hg rfl gK hr hp hu hF gQ pF cv fY eH).1⟩
end Go.Ab

namespace Go.Ab
open Go
theorem zBz{St:Stb}{G:Gh}{w:World}{s:Nat}{k:Nat}:(xs:List T)→ ∀(p:List Nat)(j b o:Nat),(∀i x,xs[i]? =aN x→Loc G w s x ((j+i)::p) b (o+i*k)∧x.size=k∧R St G w s x ((j+i)::p))→RL St G w s xs p j b o k
 | [],_,_,_,_,_=>by simp only[RL]
 |x::xs,p,j,b,o,h=>by
  obtain⟨h1,h2,h3⟩:=h 0 x (by simp);simp only[RL];refine⟨⟨by simpa using h1,h2⟩,by simpa using h3,zBz xs p (j+1) b (o+k) (fun i y hy=>?_)⟩;have:=h (i+1) y (by simpa using hy)
  rwa [show j+(i+1)=j+1+i from by omega,show o+(i+1)*k=o+k+i*k from by rw[Kz];omega]at this
theorem qC{St:Stb}{G:Gh}{w:World}{s:Nat}{k:Nat}:(xs:List T)→ ∀(p:List Nat)(j b o:Nat),RL St G w s xs p j b o k→wB G w s xs p j b o
 | [],_,_,_,_,_=>by simp only[wB]
 |x::xs,p,j,b,o,h=>by simp only[RL]at h;simp only[wB];exact⟨h.1.1,qC xs p (j+1) b (o+x.size) (by rw[h.1.2];exact h.2.2)⟩
theorem jP{St:Stb}{G:Gh}{w:World}{s:Nat}{k:Nat}:(xs:List T)→ ∀(p:List Nat)(j b o:Nat),RL St G w s xs p j b o k→RF St G w s xs p j∧ ∀x∈xs,x.size=k
 | [],_,_,_,_,_=>by simp[RF]
 |x::xs,p,j,b,o,h=>by simp only[RL]at h;obtain⟨h1,h2⟩:=jP xs p (j+1) b (o+k) h.2.2;exact⟨by simp only[RF];exact⟨h.2.1,h1⟩,fun y hy=>by rcases Jl.1 hy with rfl|hy;exact h.1.2;exact h2 y hy⟩
section
variable {G:Gh}{w:World}{G':Gh}{w':World}{s s':Nat}
mutual
theorem zBQ:(t:T)→ ∀(p p':List Nat)(b o:Nat),(∀z,G'.hd s' (z++p')=G.hd s (z++p))→(∀z,G'.ad s' (z++p')=G.ad s (z++p))→
  (∀b o z,G.lb b o=aN (aQ,s,z++p)→G'.lb b o=aN (aQ,s',z++p')∧yA w' b o=yA w b o)→Loc G w s t p b o→Loc G' w' s' t p' b o
 |.agg xs,p,p',b,o,hh,ha,hl,h=>by
  simp only[Loc]at h ⊢
  exact⟨by have:=ha [];simp at this;rw[this];exact h.1,zFd xs p p' 0 b o hh ha hl h.2⟩
 |.any,p,p',b,o,hh,ha,hl,h|.lit _,p,p',b,o,hh,ha,hl,h|.ro _,p,p',b,o,hh,ha,hl,h|.same _ _,p,p',b,o,hh,ha,hl,h|.addr _ _,p,p',b,o,hh,ha,hl,h|.sub _ _ _ _ _,p,p',b,o,hh,ha,hl,h|.sl _ _,p,p',b,o,hh,ha,hl,h|.ptr _,p,p',b,o,hh,ha,hl,h=>by
  simp only[Loc]at h ⊢
  have h1:=hl b o [] (by simpa using h.2.1);have h2:=ha [];have h3:=hh [];simp only[K3]at h1 h2 h3;exact⟨h2.trans h.1,h1.1,by rw[h1.2,h.2.2,h3]⟩
 |.tup _,_,_,_,_,_,_,_,h=>by simp only[Loc]at h
theorem zFd:(xs:List T)→ ∀(p p':List Nat)(j b o:Nat),(∀z,G'.hd s' (z++p')=G.hd s (z++p))→(∀z,G'.ad s' (z++p')=G.ad s (z++p))→
  (∀b o z,G.lb b o=aN (aQ,s,z++p)→G'.lb b o=aN (aQ,s',z++p')∧yA w' b o=yA w b o)→wB G w s xs p j b o→wB G' w' s' xs p' j b o
 | [],_,_,_,_,_,_,_,_,_=>by simp only[wB]
 |x::xs,p,p',j,b,o,hh,ha,hl,h=>by
  simp only[wB]at h ⊢
  exact⟨zBQ x (j::p) (j::p') b o (fun z=>by have:=hh (z++[j]);simpa using this) (fun z=>by have:=ha (z++[j]);simpa using this) (fun b o z hz=>by have:=hl b o (z++[j]) (by simpa using hz);simpa using this) h.1,
   zFd xs p p' (j+1) b _ hh ha hl h.2⟩
end
end
theorem zBR(G:Gh)(s:Nat):∀(xs us:List T)(p:List Nat)(j:Nat),zP G s (xs++us) p j=zP G s xs p j++zP G s us p (j+xs.length)
 | [],us,p,j=>by simp[zP]
 |x::xs,us,p,j=>by simp[zP,zBR G s xs us p (j+1),L9,Nat.add_comm 1]
theorem zBS:∀(xs us:List T),T.sizes (xs++us)=T.sizes xs+T.sizes us
 | [],us=>by simp[T.sizes]
 |x::xs,us=>by simp[T.sizes,zBS xs us,L9]
theorem zBf:∀(xs us:List T),zV xs=aP→zV us=aP→zV (xs++us)=aP
 | [],us,_,h=>h
 |x::xs,us,h,h'=>by
  simp only[zV,J2,Kl]at h ⊢
  exact⟨h.1,zBf xs us h.2 h'⟩
theorem zBg:∀(xs us:List T),yB xs→yB us→yB (xs++us)
 | [],us,_,h=>h
 |x::xs,us,h,h'=>by
  simp only[yB,yQ,Kl]at h ⊢
  exact⟨h.1,zBg xs us h.2 h'⟩
theorem tY{St:Stb}{G:Gh}{w:World}{s:Nat}{k:Nat}:(xs:List T)→ ∀(p:List Nat)(j b o:Nat),wB G w s xs p j b o→zV xs=aP
 | [],_,_,_,_,_=>rfl
 |x::xs,p,j,b,o,h=>by simp only[wB]at h;simp only[zV,J2];exact⟨one x (j::p) b o h.1,tY (St:=St) (k:=k) xs p (j+1) b _ h.2⟩
where
 one:(t:T)→ ∀(p:List Nat)(b o:Nat),Loc G w s t p b o→t.okTup=aP
  |.agg xs,p,b,o,h=>by simp only[Loc]at h;simp only[T.okTup];exact tY (St:=St) (k:=k) xs p 0 b o h.2
  |.tup _,_,_,_,h=>by simp only[Loc]at h
  |.any,_,_,_,_|.lit _,_,_,_,_|.ro _,_,_,_,_|.same _ _,_,_,_,_|.addr _ _,_,_,_,_|.sub _ _ _ _ _,_,_,_,_|.sl _ _,_,_,_,_|.ptr _,_,_,_,_=>rfl
section
variable {P:Program}
structure zDM (P:Program) (t2:TypeId) (e:TypeId) (ti:TypeInfo) (xv:Value) (m:Nat) (nv:List Value) (w:World):Prop where
 arg:(∃e2 xa c,P.underlying t2=aN (.slice e2)∧xv=.slice xa m c∧ ∀w2:World,w2.heap=w.heap→(Builtin.firstCells ti.size m (.slice xa m c)).run P w2=.ok nv.toArray w2)∨
  ∃k2 k3 z,P.underlying t2=aN (.int k2)∧xv=.int k3 (m:Int)∧ti.zero=aN z∧nv.toArray=Builtin.zeroCells z.cells m∧m*ti.bytes≤2 ^ 47∧z.cells.size=ti.size
theorem zBT{t t2 ty e:TypeId}{ti:TypeInfo}{xv:Value}{m:Nat}{nv:List Value}{w w':World}(ht:P.underlying t=aN (.slice e))(hi:P.info? e=aN ti)
  (hx:zDM P t2 e ti xv m nv w)(hm:m≤68719476736){base:Option Addr}{n cap:Nat}(gL:n+m≤cap)
  (gD:(if let aN a:=base then storeCells (a.add (n*ti.size)) nv else pure ():Sem Unit).run P w=.ok () w'):
  (Builtin.append_ #[t,t2] ty #[.slice base n cap,xv]).run P w=.ok (.slice base (n+m) cap) w':=by
 rcases hx.arg with⟨e2,xa,c,h1,rfl,h2⟩|⟨k2,k3,z,h1,rfl,h2,h3,h4,h5⟩
 ·have h2:=h2 w rfl
  cases base with
  |none=>
   simp at gD;subst gD;simp[Builtin.append_,run_underlying ht,run_underlying h1,sizeOf,typeInfo,hi,Builtin.lenOf,gL,h2]
  |some a=>
   simp only at gD;simp[Builtin.append_,run_underlying ht,run_underlying h1,sizeOf,typeInfo,hi,Builtin.lenOf,gL,h2,gD]
 ·have pc:IntKind.i64.wrap (m:Int)=m:=by rw[IntKind.wrap_i64];omega
  have m8:¬(281474976710656<(m:Int)*(ti.bytes:Int)):=by
   have:((m*ti.bytes:Nat):Int)≤2 ^ 47:=by exact_mod_cast h4
   rw[Qe]at this;omega
  have eW:¬((m:Int)<0):=by omega
  have mj:nv=(Builtin.zeroCells z.cells m).toList:=by rw[←h3]
  by_cases hz:m*ti.size=0
  ·have pG:nv=[]:=by
    apply Jr;rw[mj];simp[Builtin.zeroCells,h5,hz]
   subst pG;cases base with
   |none=>
    simp at gD;subst gD;simp[Builtin.append_,run_underlying ht,run_underlying h1,sizeOf,typeInfo,hi,asInt,asIntOf,pc,m8,eW,gL,hz]
   |some a=>
    simp only[storeCells,Sem.run_pure]at gD;cases gD;simp[Builtin.append_,run_underlying ht,run_underlying h1,sizeOf,typeInfo,hi,asInt,asIntOf,pc,m8,eW,gL,hz,storeCells]
  ·cases base with
   |none=>
    simp at gD;subst gD;simp[Builtin.append_,run_underlying ht,run_underlying h1,sizeOf,typeInfo,zeroValue,hi,h2,asInt,asIntOf,pc,m8,eW,gL]
   |some a=>
    simp only[mj]at gD;simp[Builtin.append_,run_underlying ht,run_underlying h1,sizeOf,typeInfo,zeroValue,hi,h2,asInt,asIntOf,pc,m8,eW,gL,hz,gD]
theorem zGe{t t2 ty e:TypeId}{ti:TypeInfo}{z xv:Value}{m:Nat}{nv olds:List Value}{w:World}(ht:P.underlying t=aN (.slice e))(hi:P.info? e=aN ti)(hz:ti.zero=aN z)
  (hx:zDM P t2 e ti xv m nv w){base:Option Addr}{n cap:Nat}(gP:cap<n+m)(fx:n+m≤68719476736)(hb:ti.bytes≤2048)
  (gA:∀w2:World,w2.heap=w.heap→(Builtin.firstCells ti.size n (.slice base n cap)).run P w2=.ok olds.toArray w2):
  (Builtin.append_ #[t,t2] ty #[.slice base n cap,xv]).run P w=.ok (.slice (aN ⟨w.heap.size,0,aO⟩) (n+m) (grownCap w (n+m) cap e))
    (w.drew.alloc (.cells ((olds++nv).toArray++Builtin.zeroCells z.cells (grownCap w (n+m) cap e-(n+m))) e)):=by
 have hn:¬(n+m≤cap):=by omega
 have m4:¬(9223372036854775807<((n:Int)+(m:Int))):=by omega
 have av:=growslice_fits (need:=n+m) (old:=cap) (bytes:=ti.bytes) gP (Lb (Gi fx hb) (by decide));have m6:¬(281474976710656<Builtin.nextslicecap (n+m) cap*ti.bytes):=by omega
 have ho:=gA w.drew rfl;rcases hx.arg with⟨e2,xa,c,h1,rfl,h2⟩|⟨k2,k3,z',h1,rfl,h2,h3,h4,h5⟩
 ·have h2:=h2 w.drew rfl
  simp[Builtin.append_,run_underlying ht,run_underlying h1,sizeOf,typeInfo,zeroValue,hi,hz,Builtin.lenOf,hn,m4,m6,Question.forced,h2,ho,newRow,grownCap]
  congr 2
  apply Jau;simp
 ·have pc:IntKind.i64.wrap (m:Int)=m:=by rw[IntKind.wrap_i64];omega
  have m8:¬(281474976710656<(m:Int)*(ti.bytes:Int)):=by
   have:((m*ti.bytes:Nat):Int)≤2 ^ 47:=by exact_mod_cast h4
   rw[Qe]at this;omega
  have eW:¬((m:Int)<0):=by omega
  have mj:nv=(Builtin.zeroCells z'.cells m).toList:=by rw[←h3]
  rw[hz]at h2;simp at h2;subst h2
  by_cases bW:m*ti.size=0
  ·have pG:nv=[]:=by
    apply Jr;rw[mj];simp[Builtin.zeroCells,h5,bW]
   subst pG;simp[Builtin.append_,run_underlying ht,run_underlying h1,sizeOf,typeInfo,zeroValue,hi,hz,asInt,asIntOf,pc,m8,eW,hn,m4,m6,Question.forced,bW,ho,newRow,grownCap]
  ·simp[Builtin.append_,run_underlying ht,run_underlying h1,sizeOf,typeInfo,zeroValue,hi,hz,asInt,asIntOf,pc,m8,eW,hn,m4,m6,Question.forced,bW,ho,newRow,grownCap,←h3]
   congr 2
   apply Jau;simp
end
def zB0(s0:Nat)(y:Option Nat)(n:Nat)(s:Nat)(z:List Nat):Option (List Nat):=
 if s=s0 then aN z else if y=aN s then(match z.getLast? with
  |some j=>aN (z.dropLast++[n+j])
  |none=>aO)else aO
def Gh.ip(G:Gh)(d s0:Nat)(y:Option Nat)(b n k oa:Nat)(us:List T)(f2:Nat→List Nat→Value)(gQ:Value):Gh where
 hd s z:=if s=d then(match z.getLast? with
  |some i=>if i<n then G.hd s0 z else f2 (i-n) z.dropLast
  |none=>gQ)else G.hd s z
 ad s z:=if s=d then(match z.getLast? with
  |some i=>if i<n then G.ad s0 z else if(T.agg us).inT ((i-n)::z.dropLast.reverse)then⟨b,oa+(T.agg us).offT ((i-n)::z.dropLast.reverse),aO⟩else(match y with
   |some y=>G.ad y (z.dropLast++[i-n])
   |none=>default)
  |none=>default)else G.ad s z
 lb b' o:=if b'=b∧oa≤o∧o<oa+us.length*k then(match zAk us [] n (o-oa)with
  |some p=>aN (aQ,d,p)
  |none=>aO)else match G.lb b' o with
  |some (fl,s,z)=>(match zB0 s0 y n s z with
   |some z'=>aN (fl,d,z')
   |none=>aN (fl,s,z))
  |none=>aO
 ow b':=match G.ow b' with
  |some (s,z)=>(match zB0 s0 y n s z with
   |some z'=>aN (d,z')
   |none=>aN (s,z))
  |none=>aO
def aWr(d s0:Nat)(y:Option Nat)(k:Nat)(ts:List T):Wr:=(d,aN (.sl k ts))::(s0,aN .any)::(match y with
 |some y=>[(y,aN .any)]
 |none=>[])
def qM(d s0:Nat)(y:Option Nat):Chg:=(d,0)::(s0,1)::(match y with
 |some y=>[(y,1)]
 |none=>[])
structure zDN (Γ:Ctx) (E:Env) (G:Gh) (d s0:Nat) (y:Option Nat) (k n:Nat) (us:List T) (f2:Nat→List Nat→Value) (nv:List Value):Prop where
 size:∀u∈us,u.size=k
 tup:zV us=aP
 clean:yB us
 one:∀j z,(f2 j z).oneCell'=aP
 len:nv.length=us.length*k
 slot:∀y',y=aN y'→y'≠d∧y'≠s0∧E y'=aN (.sl k us)∧ ∀j z,f2 j z=G.hd y' (z++[j])
 none:y=aO→ ∀(j:Nat) u,us[j]? =aN u→ ∀(G2:Gh)(w2:World),(∀z,G2.hd d (z++[n+j])=f2 j z)→R Γ.St G2 w2 d u [n+j]
 vals:∀(G2:Gh),(∀j z,G2.hd d (z++[n+j])=f2 j z)→ ∀(o:Nat)(v:Value),(zP G2 d us [] n)[o]? =aN v→nv[o]? =aN v
theorem zHb{G G2:Gh}{s d:Nat}:(xs:List T)→ ∀(p:List Nat)(j:Nat),(∀i,i<xs.length→ ∀z,G2.hd d (z++((j+i)::p))=G.hd s (z++((j+i)::p)))→zP G2 d xs p j=zP G s xs p j
 | [],_,_,_=>by simp only[zP]
 |x::xs,p,j,h=>by
  simp only[zP];have ih:zP G2 d xs p (j+1)=zP G s xs p (j+1):=zHb xs p (j+1) (fun i hi z=>by rw[show j+1+i=j+(i+1)from by omega];exact h (i+1) (by simpa using hi) z)
  rw[qR x (j::p) (j::p) (by simpa using h 0 (by simp)),ih]
theorem zBh(z:List Nat):z=[]∨ ∃y i,z=y++[i]:=by
 rcases List.eq_nil_or_concat z with h|⟨y,i,h⟩
 ·exact .inl h
 ·exact .inr ⟨y,i,by simpa using h⟩
section
variable {P:Program}{Γ:Ctx}{E:Env}{d:Nat}
theorem kI{G:Gh}{a:Act}{w:World}(g9:Rep Γ E G a.tmps w)(hd:d<Γ.N){t t2 ty e:TypeId}{ti:TypeInfo}{z:Value}{k:Nat}(ht:P.underlying t=aN (.slice e))(hi:P.info? e=aN ti)(hz:ti.zero=aN z)
  (hk:ti.size=k)(_hk0:0<k)(eP:z.cells.size=k)(hb:ti.bytes≤2048){s0:Nat}{y:Option Nat}{xs us:List T}{f2:Nat→List Nat→Value}{nv:List Value}(gU:E s0=aN (.sl k xs))(ew:s0≠d)
  (hn:zDN Γ E G d s0 y k xs.length us f2 nv){xv:Value}(hx:zDM P t2 e ti xv us.length nv w)(gz:∀v∈nv,v.oneCell'=aP)(fx:xs.length+us.length≤68719476736):
  ∃v w',(Builtin.append_ #[t,t2] ty #[G.hd s0 [],xv]).run P w=.ok v w'∧ ∃G',Rep Γ (E.app (aWr d s0 y k (xs++us)) (qM d s0 y)) G' (a.tmps.setIfInBounds d v) w':=by
 have hm:=g9.mem;obtain⟨e1,e2,e3⟩:=g9.ent s0 _ gU;simp only[Top]at e3;simp only[R]at e2;have pg:T.sizes us=us.length*k:=xI us hn.size;have fin:∀(G':Gh)(w':World)(v:Value),tD (qM d s0 y) G w G' w'→Mem Γ G' w'→G'.hd d []=v→R Γ.St G' w' d (.sl k (xs++us)) []→(∀s p,s≠d→G'.hd s p=G.hd s p)→
   Rep Γ (E.app (aWr d s0 y k (xs++us)) (qM d s0 y)) G' (a.tmps.setIfInBounds d v) w':=by
  intro G' w' v gw gv hdv bw hother;refine xS g9 (by simp) gw gv ?_ ?_
  ·intro s hs
   have gj:s≠d:=by rintro rfl;simp[aWr,Wr.find]at hs
   have eE:s≠s0:=by rintro rfl;simp[aWr,Wr.find,gj.symm]at hs
   have ag:∀y',y=aN y'→s≠y':=by
    rintro y' rfl rfl
    simp[aWr,Wr.find,gj.symm,eE.symm]at hs
   refine⟨fun n' hn'=>?_,by rw[J7];simp[gj.symm]⟩;simp only[qM,Jl,Us.injEq]at hn';rcases hn' with⟨h1,_⟩|⟨h1,_⟩|hn'
   ·exact gj h1
   ·exact eE h1
   ·cases y with
    |none=>simp at hn'
    |some y'=>simp at hn';exact ag y' rfl hn'.1
  ·intro s t' hs
   by_cases h1:s=d
   ·subst h1
    simp[aWr,Wr.find]at hs;subst hs;refine⟨?_,bw,by simp only[Top];exact zBg xs us e3 hn.clean⟩;rw[J7];simp[g9.size,hd,mkV,hdv]
   ·have h3:t'=.any∧(s=s0∨y=aN s):=by
     simp only[aWr,Wr.find]at hs;rw[if_neg (fun h=>h1 h.symm)]at hs;split at hs
     ·rename_i h2;simp at hs;exact⟨hs.symm,.inl h2.symm⟩
     ·cases y with
      |none=>simp[Wr.find]at hs
      |some y'=>
       simp only[Wr.find]at hs;split at hs
       ·rename_i h2;simp at hs;exact⟨hs.symm,.inr (by rw[h2])⟩
       ·cases hs
    obtain⟨rfl,h3⟩:=h3;refine⟨?_,by simp only[R],by simp[Top]⟩;rw[J7];simp only[Ne.symm h1,if_false,mkV];rw[hother s [] h1];rcases h3 with rfl|h3
    ·exact e1
    ·obtain⟨_,_,h4,_⟩:=hn.slot s h3
     exact(g9.ent s _ h4).1
 have fU:∀s p,(∀n',(s,n')∉qM d s0 y)→zB0 s0 y xs.length s p=aO:=by
  intro s p h;have h1:s≠s0:=fun e=>h 1 (by simp[qM,e])
  have h2:y≠aN s:=fun e=>h 1 (by simp[qM,e])
  simp[zB0,h1,h2]
 by_cases gL:∃a' c,G.hd s0 []=.slice a' xs.length c∧xs.length+us.length≤c
 ·
  obtain⟨a',c,hh,gL⟩:=gL;rcases e2 with⟨rfl,a1,h1⟩|⟨b,o0,cap,cs,et,h1,h2,h3,h4,h5,h6,h7,h8⟩
  ·rw[h1]at hh
   simp at hh;obtain⟨rfl,rfl⟩:=hh;have eL:us=[]:=Jr (by simp only[G7]at gL;omega);subst eL;have mj:nv=[]:=Jr (by have:=hn.len;simp at this;simp[this]);subst mj;have gr:=zBT (P:=P) (t:=t) (ty:=ty) (w':=w) ht hi hx (by simp) (base:=a1) (n:=0) (cap:=0) (by simp) (by cases a1<;>rfl);refine⟨.slice a1 0 0,w,by rw[h1];exact gr,G.put d (fun _=>.slice a1 0 0),fin _ w _ ?_ (hm.put rfl d _ (fun _=>rfl)) (by rw[Gh.put_self]) (by simp[R,Gh.put]) (fun s p h=>G.put_other _ p h)⟩;have:=G.put_keep (w:=w) (w':=w) rfl d (fun _=>.slice a1 0 0);exact⟨fun s p h=>this.hd s p (fun n hn=>h n (by simp at hn;simp[qM,hn])),fun s p h=>this.ad s p (fun n hn=>h n (by simp at hn;simp[qM,hn])),fun b o f s p h0 h1 h2=>this.lb b o f s p h0 h1 (fun n hn=>h2 n (by simp at hn;simp[qM,hn])),fun b s p h1 h2=>this.ow b s p h1 (fun n hn=>h2 n (by simp at hn;simp[qM,hn])),this.blk⟩
  ·rw[h1]at hh
   simp at hh;obtain⟨rfl,rfl⟩:=hh;have hmk0:us.length*k+xs.length*k≤cap*k:=by rw[←Lh];exact L3 _ (by omega)
   have ac:∀o,o0+(xs.length*k+us.length*k)≤o→o0+xs.length*k≤o:=fun o h=>by omega
   generalize hoa:o0+xs.length*k=oa at h7 ac
   have hmk':oa+us.length*k≤o0+cap*k:=by omega
   have hmk:us.length*k+oa≤cs.size:=by omega
   generalize hJ:w.setRow b (cs.toList.take (oa)++nv++cs.toList.drop (oa+nv.length)).toArray=w'
   have gY:w'.heap[b]? =aN (.cells (cs.toList.take (oa)++nv++cs.toList.drop (oa+nv.length)).toArray et (0,0)):=by rw[←hJ];exact setRow_heap w b cs _ et _ h2
   have gA:∀b',b'≠b→w'.heap[b']? =w.heap[b']?:=fun b' h=>by rw[←hJ];exact setRow_other w b b' _ h
   have gH:w'.heap.size=w.heap.size:=by rw[←hJ];exact size_setRow w b _
   have hcsl:cs.toList.length=cs.size:=Jv ..;have fm:=hn.len;have ed:∀i,yA w' b i=if oa≤i∧i<oa+us.length*k then nv[i-oa]? else yA w b i:=by
    intro i;simp only[yA,World.cell?,gY,h2,Uf,La,if_false];rw[←K4,←K4 (xs:=cs)];simp only[]
    by_cases g1:i<oa
    ·rw[if_neg (by omega),Jb,K5 (by simp;omega),Gl g1]
    ·by_cases g2:i<oa+us.length*k
     ·rw[if_pos ⟨by omega,g2⟩,Jb,Jd (by simp;omega),K5 (by simp;omega)]
      congr 1;simp;omega
     ·rw[if_neg (by omega),Jb,Jd (by simp;omega),Jd (by simp;omega),L1]
      congr 1;simp;omega
   have gV:∀b' o fl s p,G.lb b' o=aN (fl,s,p)→(fl,s,p)≠(aP,s0,[])→ ¬(b'=b∧oa≤o∧o<oa+us.length*k):=by
    rintro b' o fl s p g1 g2 ⟨rfl,g3,g4⟩
    rw[h7 o g3 (by omega)]at g1;simp at g1;exact g2 (by simp[←g1.1,←g1.2.1,←g1.2.2])
   have ep:∀b' o,¬(b'=b∧oa≤o∧o<oa+us.length*k)→yA w' b' o=yA w b' o:=by
    intro b' o g
    by_cases eI:b'=b
    ·subst eI
     rw[ed,if_neg (fun g2=>g ⟨rfl,g2⟩)]
    ·simp[yA,World.cell?,gA b' eI]
   have fV:((cs.toList.take (oa)++nv++cs.toList.drop (oa+nv.length)).toArray).size=cs.size:=by simp;omega
   have gZ:Blk w w':=by
    intro b' cs' e' g1
    by_cases eI:b'=b
    ·subst eI
     rw[h2]at g1;simp at g1;obtain⟨rfl,rfl⟩:=g1;exact⟨_,gY,fV⟩
    ·exact⟨cs',by rw[gA b' eI];exact g1,rfl⟩
   generalize gl:G.ip d s0 y b xs.length k oa us f2 (.slice (aN ⟨b,o0,aO⟩) (xs.length+us.length) cap)=G'
   have ghdr:G'.hd d []=.slice (aN ⟨b,o0,aO⟩) (xs.length+us.length) cap:=by rw[←gl];simp[Gh.ip]
   have ghd1:∀i z,i<xs.length→G'.hd d (z++[i])=G.hd s0 (z++[i]):=fun i z g=>by rw[←gl];simp[Gh.ip,g]
   have ghd2:∀j z,G'.hd d (z++[xs.length+j])=f2 j z:=fun j z=>by rw[←gl];simp[Gh.ip,show¬xs.length+j<xs.length from by omega]
   have ghd0:∀s z,s≠d→G'.hd s z=G.hd s z:=fun s z g=>by rw[←gl];simp[Gh.ip,g]
   have gad0:∀s z,s≠d→G'.ad s z=G.ad s z:=fun s z g=>by rw[←gl];simp[Gh.ip,g]
   have gad1:∀i z,i<xs.length→G'.ad d (z++[i])=G.ad s0 (z++[i]):=fun i z g=>by rw[←gl];simp[Gh.ip,g]
   have gad2:∀j f,(T.agg us).inT (j::f)=aP→G'.ad d (f.reverse++[xs.length+j])=⟨b,oa+(T.agg us).offT (j::f),aO⟩:=fun j f g=>by rw[←gl];simp[Gh.ip,g,show¬xs.length+j<xs.length from by omega]
   have gad3:∀y' j z,y=aN y'→(T.agg us).inT (j::z.reverse)=aQ→G'.ad d (z++[xs.length+j])=G.ad y' (z++[j]):=fun y' j z g1 g2=>by rw[←gl];simp[Gh.ip,g1,g2,show¬xs.length+j<xs.length from by omega]
   have glb2:∀i p,i<us.length*k→zAk us [] xs.length i=aN p→G'.lb b (oa+i)=aN (aQ,d,p):=fun i p g1 g2=>by rw[←gl];simp only[Gh.ip];rw[if_pos (by simp;omega),show oa+i-oa=i from by omega,g2]
   have glb0:∀b' o fl s p,G.lb b' o=aN (fl,s,p)→ ¬(b'=b∧oa≤o∧o<oa+us.length*k)→zB0 s0 y xs.length s p=aO→G'.lb b' o=aN (fl,s,p):=fun b' o fl s p g1 g2 g3=>by rw[←gl];simp only[Gh.ip];rw[if_neg g2,g1];simp[g3]
   have glb1:∀b' o fl s p p',G.lb b' o=aN (fl,s,p)→ ¬(b'=b∧oa≤o∧o<oa+us.length*k)→zB0 s0 y xs.length s p=aN p'→G'.lb b' o=aN (fl,d,p'):=fun b' o fl s p p' g1 g2 g3=>by rw[←gl];simp only[Gh.ip];rw[if_neg g2,g1];simp[g3]
   have gow0:∀b' s p,G.ow b'=aN (s,p)→zB0 s0 y xs.length s p=aO→G'.ow b'=aN (s,p):=fun b' s p g1 g2=>by rw[←gl];simp[Gh.ip,g1,g2]
   have gow1:∀b' s p p',G.ow b'=aN (s,p)→zB0 s0 y xs.length s p=aN p'→G'.ow b'=aN (d,p'):=fun b' s p p' g1 g2=>by rw[←gl];simp[Gh.ip,g1,g2]
   have eC:∀p,zB0 s0 y xs.length s0 p=aN p:=fun p=>by simp[zB0]
   have cR:∀y' z j,y=aN y'→y'≠s0→zB0 s0 y xs.length y' (z++[j])=aN (z++[xs.length+j]):=fun y' z j g1 g2=>by simp[zB0,g1,g2]
   have gj:∀s p,Off (qM d s0 y) s p→s≠d:=fun s p h e=>absurd (h 0 (by simp[qM,e])) (by simp)
   have gw:tD (qM d s0 y) G w G' w':=by
    refine⟨fun s p h=>ghd0 s p (gj s p h),fun s p h=>gad0 s p (gj s p h),fun b' o fl s p _ g1 g2=>?_,fun b' s p g1 g2=>gow0 b' s p g1 (fU s p g2),gZ⟩;have hs:s≠s0:=fun e=>g2 1 (by simp[qM,e])
    have g3:=gV b' o fl s p g1 (by simp[hs]);exact⟨glb0 b' o fl s p g1 g3 (fU s p g2),ep b' o g3⟩
   have ms:=hm.ow b _ h6;have gv:Mem Γ G' w':=by
    refine⟨fun s z=>?_,fun b' o' l hl=>?_,fun b' l hl=>?_,fun b' x' gW=>?_,fun b' g1 g2=>?_,by rw[gH];exact hm.sz,hm.bk.trans gZ (by rw[←hJ];rfl) (by rw[←hJ];rfl)⟩
    ·by_cases g:s=d
     ·subst g
      rcases zBh z with rfl|⟨z',i,rfl⟩
      ·rw[ghdr];rfl
      ·by_cases g1:i<xs.length
       ·rw[ghd1 i z' g1];exact hm.one _ _
       ·have:=ghd2 (i-xs.length) z'
        rw[show xs.length+(i-xs.length)=i from by omega]at this;rw[this];exact hn.one _ _
     ·rw[ghd0 s z g];exact hm.one _ _
    ·have:zAi Γ w b':=by
      rw[←gl]at hl;simp only[Gh.ip]at hl;split at hl
      ·rename_i g;rw[g.1];exact ms
      ·split at hl
       ·rename_i g;exact hm.lb _ _ _ g
       ·cases hl
     exact⟨by rw[gH];exact this.1,this.2⟩
    ·have:zAi Γ w b':=by
      rw[←gl]at hl;simp only[Gh.ip]at hl;split at hl
      ·rename_i g;exact hm.ow _ _ g
      ·cases hl
     exact⟨by rw[gH];exact this.1,this.2⟩
    ·have eI:b'≠b:=by rintro rfl;rw[ms.2.2]at gW;cases gW
     rw[gA b' eI];exact hm.st b' x' gW
    ·have eI:b'≠b:=by
      rintro rfl
      rcases ms.2.1 with g3|g3
      ·omega
      ·exact g2 g3
     rw[gA b' eI];exact hm.fr b' g1 g2
   have pJ:wB G' w' d us [] xs.length b (oa):=by
    refine zDx us [] xs.length b (oa) hn.tup (fun i x gW f hf=>?_) (fun i p' g1 g2=>glb2 i p' (by omega) g2) (fun i v hv=>?_)
    ·have:=gad2 i f (by simp only[T.inT,gW];exact hf)
     simpa[T.offT,gW]using this
    ·have g1:=hn.vals G' ghd2 i v hv
     have g2:=(J8.1 g1).1;rw[ed,if_pos ⟨by omega,by omega⟩,show oa+i-oa=i from by omega];exact g1
   have bw:R Γ.St G' w' d (.sl k (xs++us)) []:=by
    simp only[R];rw[ghdr];refine .inr ⟨b,o0,cap,_,et,by simp,gY,by simp;omega,h4,by rw[fV];exact h5,gow1 b s0 [] [] h6 (eC []),?_,zBz _ _ _ _ _ (fun i x gW=>?_)⟩
    ·intro o g1 g2
     rw[J9,Lh]at g1;exact glb1 b o aP s0 [] [] (h7 o (by omega) g2) (by omega) (eC [])
    ·rw[K2]at gW
     simp only[J6];split at gW
     ·rename_i gI
      obtain⟨g1,g2,g3⟩:=uD xs [] 0 b o0 k i x h8 gW;simp only[J6]at g1 g3;have mn:∀b' o fl z,G.lb b' o=aN (fl,s0,z++[i])→G'.lb b' o=aN (fl,d,z++[i])∧yA w' b' o=yA w b' o:=fun b' o fl z g=>by have g4:=gV b' o fl s0 _ g (by simp);exact⟨glb1 b' o fl s0 _ _ g g4 (eC _),ep b' o g4⟩
      refine⟨zBQ x [i] [i] b _ (fun z=>ghd1 i z gI) (fun z=>gad1 i z gI) (fun b' o z g=>mn b' o aQ z g) g1,g2,?_⟩;refine tU (G:=G) (w:=w) (s:=s0) (p:=[i]) ⟨⟨fun z=>ghd1 i z gI,fun z _=>gad1 i z gI,fun b' o f z _ _ g=>mn b' o f z g,fun b' z _ g=>gow1 b' s0 _ _ g (eC _),gZ⟩,fun b' o _ g=>?_,fun b' g=>gow1 b' s0 _ _ g (eC _)⟩ x (yD.mono (fun _ _=>False.elim) x (wH xs e3 i x gW)) g3;have:=mn b' o aP [] (by simpa using g);simpa using this
     ·rename_i hge
      obtain⟨j,rfl⟩:∃j,i=xs.length+j:=⟨i-xs.length,by omega⟩;rw[show xs.length+j-xs.length=j from by omega]at gW;have g1:=zBN us [] xs.length b (oa) j x pJ gW;rw[show T.sizes (us.take j)=j*k from by rw[xI _ (fun u hu=>hn.size u (List.mem_of_mem_take hu)),Kr,Gx (by have:=(J8.1 gW).1;omega)],show oa+j*k=o0+(xs.length+j)*k from by rw[Lh];omega]at g1
      refine⟨g1,hn.size x (Kk gW),?_⟩;cases hy:y with
      |none=>exact hn.none hy j x gW G' w' (fun z=>ghd2 j z)
      |some y'=>
       obtain⟨y1,y2,y3,y4⟩:=hn.slot y' hy;obtain⟨_,y5,_⟩:=g9.ent y' _ y3;simp only[R]at y5;rcases y5 with⟨rfl,_⟩|⟨b2,o2,cap2,cs2,et2,_,_,_,_,_,_,_,y6⟩
       ·simp at gW
       ·obtain⟨_,_,y7⟩:=uD us [] 0 b2 o2 k j x y6 gW
        simp only[J6]at y7;refine zGT x [j] [xs.length+j] (zAK.okTups_get us hn.tup j x gW) ⟨fun z=>by rw[ghd2,y4],fun z g=>gad3 y' j z hy (by simp only[T.inT,gW];exact g),fun b' o fl z _ g=>?_,fun b' z g=>gow1 b' y' _ _ g (cR y' z j hy y2),gZ⟩ (yD.mono (fun _ _=>False.elim) x (wH us hn.clean j x gW)) y7;have g4:=gV b' o fl y' _ g (by simp[y2]);exact⟨glb1 b' o fl y' _ _ g g4 (cR y' z j hy y2),ep b' o g4⟩
   have gD:=run_storeCells_at P b (oa) et nv 0 cs w h2 (by omega) gz;simp only[U1]at gD;rw[hJ]at gD;have gr:=zBT (P:=P) (t:=t) (ty:=ty) (w':=w') ht hi hx (by omega) (base:=aN ⟨b,o0,aO⟩) gL (by simp only[hk,wO,hoa];exact gD);refine⟨_,w',by rw[h1];exact gr,G',fin G' w' _ gw gv ghdr bw ghd0⟩
 ·
  have bt:∃a' c,G.hd s0 []=.slice a' xs.length c∧ ∀w2:World,w2.heap=w.heap→(Builtin.firstCells ti.size xs.length (.slice a' xs.length c)).run P w2=.ok (zP G s0 xs [] 0).toArray w2:=by
   rcases e2 with⟨rfl,a1,h1⟩|⟨b,o0,cap,cs,et,h1,h2,h3,h4,h5,h6,h7,h8⟩
   ·exact⟨a1,0,h1,fun w2 _=>by cases a1<;>simp[Builtin.firstCells,loadCells,loadCellsFrom,zP]⟩
   ·refine⟨_,_,h1,fun w2 mb=>?_⟩
    have hl:=qC xs [] 0 b o0 h8;refine run_firstCells_some (P:=P) w2 ti.size xs.length ⟨b,o0,aO⟩ _ _ _ ?_ (fun j v hv=>?_)
    ·rw[xF,hk]
     exact xI xs (jP xs [] 0 b o0 h8).2
    ·have:=jK xs [] 0 b o0 hl j v hv
     rw[wO];simp only[yA]at this;simpa[World.cell?,mb]using this
  obtain⟨a',c,hh,gA⟩:=bt;have ef:zV xs=aP∧(∀x∈xs,x.size=k)∧ ∀i x,xs[i]? =aN x→R Γ.St G w s0 x [i]:=by
   rcases e2 with⟨rfl,a1,h1⟩|⟨b,o0,cap,cs,et,h1,h2,h3,h4,h5,h6,h7,h8⟩
   ·simp[zV]
   ·refine⟨tY (St:=Γ.St) (k:=k) xs [] 0 b o0 (qC xs [] 0 b o0 h8),(jP xs [] 0 b o0 h8).2,fun i x gW=>?_⟩
    have:=(uD xs [] 0 b o0 k i x h8 gW).2.2;simpa using this
  have gP:c<xs.length+us.length:=by
   rcases Hv c (xs.length+us.length)with g|g
   ·exact g
   ·exact absurd ⟨a',c,hh,g⟩ gL
  have gr:=zGe (P:=P) (t:=t) (ty:=ty) ht hi hz hx gP fx hb gA;have hge:=grownCap_ge w (xs.length+us.length) c e;have hcm:=grownCap_le_maxLen w (xs.length+us.length) c e (by simp only[maxLen];omega)
  generalize grownCap w (xs.length+us.length) c e=cap' at gr hge hcm
  generalize hJ:w.drew.alloc (.cells ((zP G s0 xs [] 0++nv).toArray++Builtin.zeroCells z.cells (cap'-(xs.length+us.length))) e)=w' at gr
  have hwh:w'.heap=w.heap.push (.cells ((zP G s0 xs [] 0++nv).toArray++Builtin.zeroCells z.cells (cap'-(xs.length+us.length))) e):=by rw[←hJ];rfl
  have cK:T.sizes xs=xs.length*k:=xI xs ef.2.1;obtain⟨g1,g2,g3,g4,g5⟩:=zAK hm hwh d (xs++us) (fun i=>if i<xs.length then aN (s0,[i])else y.map fun y'=>(y',[i-xs.length])) (zB0 s0 y xs.length) (fun i z=>if i<xs.length then G.hd s0 (z++[i])else f2 (i-xs.length) z) (.slice (aN ⟨w.heap.size,0,aO⟩) (xs.length+us.length) cap') ((qM d s0 y).tail)
   (zBf xs us ef.1 hn.tup) (fun i z=>by split;exact hm.one _ _;exact hn.one _ _) rfl
   (fun i u x q z' hu hs=>by
    split at hs
    ·simp at hs;obtain⟨rfl,rfl⟩:=hs;simp[zB0]
    ·rename_i eG
     cases y with
     |none=>simp at hs
     |some y'=>
      simp at hs;obtain⟨rfl,rfl⟩:=hs;have:=(hn.slot y' rfl).2.1;simp[zB0,this,show xs.length+(i-xs.length)=i from by omega])
   (fun i u x q hu hs=>by
    rw[K2]at hu;split at hs
    ·rename_i gI
     rw[if_pos gI]at hu;simp at hs;obtain⟨rfl,rfl⟩:=hs;exact⟨fun z'=>by simp[gI],ef.2.2 i u hu,wH xs e3 i u hu,ew⟩
    ·rename_i eG
     rw[if_neg eG]at hu;cases hy:y with
     |none=>rw[hy]at hs;simp at hs
     |some y'=>
      rw[hy]at hs;simp at hs;obtain⟨rfl,rfl⟩:=hs;obtain⟨y1,y2,y3,y4⟩:=hn.slot y' hy;obtain⟨_,y5,_⟩:=g9.ent y' _ y3;simp only[R]at y5;refine⟨fun z'=>by simp[eG,y4],?_,wH us hn.clean _ u hu,y1⟩;rcases y5 with⟨rfl,_⟩|⟨b2,o2,cap2,cs2,et2,_,_,_,_,_,_,_,y6⟩
      ·simp at hu
      ·have:=(uD us [] 0 b2 o2 k _ u y6 hu).2.2
       simpa using this)
   (fun i u hu hs G2 w2 eb=>by
    rw[K2]at hu;split at hs
    ·cases hs
    ·rename_i eG
     rw[if_neg eG]at hu;cases hy:y with
     |some y'=>rw[hy]at hs;simp at hs
     |none=>
      have:=hn.none hy (i-xs.length) u hu G2 w2 (fun z'=>by rw[show xs.length+(i-xs.length)=i from by omega,eb,if_neg eG])
      rwa [show xs.length+(i-xs.length)=i from by omega]at this)
   (fun G2 eb o v hv=>by
    rw[zBR,J6]at hv;have h1:zP G2 d xs [] 0=zP G s0 xs [] 0:=zHb xs [] 0 (fun i ej z'=>by rw[J6,eb,if_pos ej]);rw[h1]at hv;have mn:(zP G s0 xs [] 0).length=xs.length*k:=by rw[xF,cK]
    have hl2:(zP G2 d us [] xs.length).length=us.length*k:=by rw[xF,pg]
    have ho:o<xs.length*k+us.length*k:=by have:=(J8.1 hv).1;rw[J9]at this;omega
    have fm:=hn.len;rw[Array.getElem?_append_left (by simp;omega),List.getElem?_toArray];rw[K2]at hv ⊢
    split at hv
    ·rename_i gI;rw[if_pos gI];exact hv
    ·rename_i eG;rw[if_neg eG]
     exact hn.vals G2 (fun j z'=>by rw[eb,if_neg (by omega),show xs.length+j-xs.length=j from by omega]) _ v hv)
   (fun s p h=>fU s p (by simpa[qM]using h)) (ho:=by rw[←hJ];rfl) (hq:=by rw[←hJ];rfl)
  refine⟨_,w',by rw[hh];exact gr,_,fin _ w' _ (by simpa[qM]using g1) g2 (by simp[Gh.nb]) ?_ (fun s p h=>by simp[Gh.nb,h])⟩;simp only[R];refine .inr ⟨w.heap.size,0,cap',_,e,by simp[Gh.nb],g5,by simpa using hge,hcm,?_,by simp[Gh.nb],?_,zLA _ _ _ _ _ (fun x gW=>?_) g3 g4⟩
  ·have mn:(zP G s0 xs [] 0).length=xs.length*k:=by rw[xF,cK]
   have fm:=hn.len;simp only[Array.size_append,Jb5,J9,size_zeroCells,eP,mn,fm,←Lh];rw[J6];exact L3 _ (by omega)
  ·intro o ho _
   rw[J9,Lh]at ho;simp[Gh.nb,zBv (xs++us) [] 0 o (by rw[zBS];omega)]
  ·rcases Jq.1 gW with h|h
   ·exact ef.2.1 x h
   ·exact hn.size x h
end
end Go.Ab

namespace Go.Ab
open Go
mutual
def T.flat:T→Bool
 |.lit _|.ro _=>aP
 |.agg xs=>sP xs
 |.any|.same _ _|.addr _ _|.sub _ _ _ _ _|.sl _ _|.ptr _|.tup _=>aQ
def sP:List T→Bool
 | []=>aP
 |x::xs=>x.flat&&sP xs
end
section
variable {St:Stb}{G G2:Gh}{w w2:World}{s d:Nat}
mutual
theorem zGf:(t:T)→ ∀(p p':List Nat),t.flat=aP→(∀z,G2.hd d (z++p')=G.hd s (z++p))→R St G w s t p→R St G2 w2 d t p'
 |.lit _,p,p',_,h,hr=>by have:=h [];simp only[K3]at this;simp only[R]at hr ⊢;rw[this];exact hr
 |.ro _,p,p',_,h,hr=>by have:=h [];simp only[K3]at this;simp only[R]at hr ⊢;rw[this];exact hr
 |.agg xs,p,p',hf,h,hr=>by simp only[R,T.flat]at hr hf ⊢;exact zJ2 xs p p' 0 hf h hr
 |.any,_,_,hf,_,_|.same _ _,_,_,hf,_,_|.addr _ _,_,_,hf,_,_|.sub _ _ _ _ _,_,_,hf,_,_|.sl _ _,_,_,hf,_,_|.ptr _,_,_,hf,_,_|.tup _,_,_,hf,_,_=>by simp[T.flat]at hf
theorem zJ2:(xs:List T)→ ∀(p p':List Nat)(j:Nat),sP xs=aP→(∀z,G2.hd d (z++p')=G.hd s (z++p))→RF St G w s xs p j→RF St G2 w2 d xs p' j
 | [],_,_,_,_,_,_=>by simp only[RF]
 |x::xs,p,p',j,hf,h,hr=>by
  simp only[RF,sP,J2]at hr hf ⊢
  exact⟨zGf x (j::p) (j::p') hf.1 (fun z=>by have:=h (z++[j]);simpa using this) hr.1,zJ2 xs p p' (j+1) hf.2 h hr.2⟩
end
end
mutual
theorem zDO:(t:T)→t.flat=aP→zO t∧t.okTup=aP
 |.lit _,_|.ro _,_=>by simp[zO,yD,T.okTup]
 |.agg xs,h=>by simp only[T.flat]at h;simpa only[zO,yD,T.okTup]using sD xs h
 |.any,h|.same _ _,h|.addr _ _,h|.sub _ _ _ _ _,h|.sl _ _,h|.ptr _,h|.tup _,h=>by simp[T.flat]at h
theorem sD:(xs:List T)→sP xs=aP→yB xs∧zV xs=aP
 | [],_=>by simp[yB,yQ,zV]
 |x::xs,h=>by simp only[sP,J2]at h;simp only[yB,yQ,zV,J2];exact⟨⟨(zDO x h.1).1,(sD xs h.2).1⟩,(zDO x h.1).2,(sD xs h.2).2⟩
end
theorem zFe:(xs:List T)→sP xs=aP→ ∀(i:Nat)(x:T),xs[i]? =aN x→x.flat=aP
 | [],_,_,_,h=>by simp at h
 |y::ys,hk,i,x,h=>by
  simp only[sP,J2]at hk;cases i with
  |zero=>simp at h;subst h;exact hk.1
  |succ i=>exact zFe ys hk.2 i x (by simpa using h)
mutual
def zC7:T→Bool
 |.lit _=>aP
 |.sl _ xs=>jQ xs
 |.agg xs=>jQ xs
 |.ptr t=>zC7 t
 |.any|.ro _|.same _ _|.addr _ _|.sub _ _ _ _ _|.tup _=>aQ
def jQ:List T→Bool
 | []=>aP
 |x::xs=>zC7 x&&jQ xs
end
theorem zHc:(ys:List T)→jQ ys=aP→ ∀u∈ys,∀xs,u≠.tup xs
 | [],_,_,h,_=>by simp at h
 |y::ys,hr,u,h,xs=>by
  simp only[jQ,J2]at hr;rcases Jl.1 h with rfl|h
  ·rintro rfl;simp[zC7]at hr
  ·exact zHc ys hr.2 u h xs
theorem zDd:(ys:List T)→(roT.roTs ys).length=ys.length
 | []=>rfl
 |y::ys=>by simp[roT.roTs,zDd ys]
theorem zDP{k:Nat}:(ys:List T)→(∀u∈ys,u.size=k)→(∀u∈ys,∀xs,u≠.tup xs)→ ∀u∈roT.roTs ys,u.size=k
 | [],_,_,u,h=>by simp[roT.roTs]at h
 |y::ys,h1,h2,u,h=>by
  simp only[roT.roTs,Jl]at h;rcases h with rfl|h
  ·rw[zBO y (h2 y (by simp))];exact h1 y (by simp)
  ·exact zDP ys (fun v hv=>h1 v (by simp[hv])) (fun v hv=>h2 v (by simp[hv])) u h
theorem zHd:(ys:List T)→ ∀(j:Nat)(u:T),(roT.roTs ys)[j]? =aN u→ ∃u0,ys[j]? =aN u0∧u=roT u0
 | [],_,_,h=>by simp[roT.roTs]at h
 |y::ys,j,u,h=>by
  cases j with
  |zero=>simp[roT.roTs]at h;exact⟨y,by simp,h.symm⟩
  |succ j=>
   obtain⟨u0,h1,h2⟩:=zHd ys j u (by simpa[roT.roTs]using h);exact⟨u0,by simpa using h1,h2⟩
theorem zJ3{St:Stb}{G2:Gh}{d:Nat}:(ys:List T)→ ∀(cs':Array Value)(o' k n:Nat),RoL St ys cs' o' k→(∀u∈ys,u.size=k)→(∀j u,ys[j]? =aN u→ ∀z',G2.hd d (z'++[n+j])=tM (zBu u cs' (o'+j*k) z'.reverse))→
  ∀(i:Nat)(v:Value),(zP G2 d (roT.roTs ys) [] n)[i]? =aN v→cs'[o'+i]? =aN v
 | [],_,_,_,_,_,_,_,i,v,hv=>by simp[roT.roTs,zP]at hv
 |y::ys,cs',o',k,n,h,hs,hd,i,v,hv=>by
  simp only[RoL]at h;simp only[roT.roTs,zP]at hv;have gR:∀xs,y≠.tup xs:=by rintro xs rfl;simp only[RoC]at h;exact h.1
  have ae:∀xs,roT y≠.tup xs:=fun xs e=>by cases y<;>simp[roT]at e
  have hl:(vals G2 d (roT y) [n]).length=k:=by rw[xL _ _ ae,zBO y gR,hs y (by simp)]
  rw[K2]at hv;split at hv
  ·exact zDC y cs' o' [n] (fun z'=>by simpa using hd 0 y (by simp) z') h.1 i v hv
  ·have:=zJ3 ys cs' (o'+k) k (n+1) h.2 (fun u hu=>hs u (by simp[hu])) (fun j u hu z'=>by
    have:=hd (j+1) u (by simpa using hu) z'
    rwa [show n+(j+1)=n+1+j from by omega,show o'+(j+1)*k=o'+k+j*k from by rw[Kz];omega]at this) _ v hv
   rwa [hl,show o'+k+(i-k)=o'+i from by omega]at this
mutual
theorem zK4{G:Gh}(hg:∀s z,(G.hd s z).oneCell'=aP){s:Nat}:(t:T)→ ∀(p:List Nat)(v:Value),v∈vals G s t p→v.oneCell'=aP
 |.agg xs,p,v,h=>by simp only[vals]at h;exact zB1 hg xs p 0 v h
 |.any,p,v,h|.lit _,p,v,h|.ro _,p,v,h|.same _ _,p,v,h|.addr _ _,p,v,h|.sub _ _ _ _ _,p,v,h|.sl _ _,p,v,h|.ptr _,p,v,h|.tup _,p,v,h=>by simp only[vals,List.mem_singleton]at h;rw[h];exact hg s p
theorem zB1{G:Gh}(hg:∀s z,(G.hd s z).oneCell'=aP){s:Nat}:(xs:List T)→ ∀(p:List Nat)(j:Nat)(v:Value),v∈zP G s xs p j→v.oneCell'=aP
 | [],_,_,_,h=>by simp[zP]at h
 |x::xs,p,j,v,h=>by
  simp only[zP,Jq]at h;rcases h with h|h
  ·exact zK4 hg x _ v h
  ·exact zB1 hg xs p _ v h
end
theorem zAo{G G2:Gh}{s d:Nat}:(us:List T)→ ∀(n j:Nat),(∀i z,G2.hd d (z++[n+i])=G.hd s (z++[j+i]))→zP G2 d us [] n=zP G s us [] j
 | [],_,_,_=>by simp only[zP]
 |x::xs,n,j,h=>by
  have ih:zP G2 d xs [] (n+1)=zP G s xs [] (j+1):=zAo xs (n+1) (j+1) (fun i z=>by rw[show n+1+i=n+(i+1)from by omega,show j+1+i=j+(i+1)from by omega];exact h (i+1) z)
  simp only[zP];rw[ih,qR x [j] [n] (by simpa using h 0)]
theorem zBU{G G2:Gh}{s d:Nat}:(us:List T)→ ∀(n j:Nat)(q:List Nat),(∀i z,G2.hd d (z++[n+i])=G.hd s (z++((j+i)::q)))→zP G2 d us [] n=zP G s us q j
 | [],_,_,_,_=>by simp only[zP]
 |x::xs,n,j,q,h=>by
  have ih:zP G2 d xs [] (n+1)=zP G s xs q (j+1):=zBU xs (n+1) (j+1) q (fun i z=>by rw[show n+1+i=n+(i+1)from by omega,show j+1+i=j+(i+1)from by omega];exact h (i+1) z)
  simp only[zP];rw[ih,qR x (j::q) [n] (by simpa using h 0)]
section
variable {P:Program}{Γ:Ctx}{E:Env}{o:Oper}{d:Nat}
theorem zJ4{St:Stb}{G:Gh}{w:World}{r:Nat}{q:List Nat}{k:Nat}{us:List T}(h:R St G w r (.sl k us) q){size:Nat}(hk:size=k):
  ∃xa c,G.hd r q=.slice xa us.length c∧ ∀w2:World,w2.heap=w.heap→(Builtin.firstCells size us.length (.slice xa us.length c)).run P w2=.ok (zP G r us q 0).toArray w2:=by
 simp only[R]at h;rcases h with⟨rfl,a1,h1⟩|⟨b,o0,cap,cs,et,h1,h2,h3,h4,h5,h6,h7,h8⟩
 ·exact⟨a1,0,h1,fun w2 _=>by cases a1<;>simp[Builtin.firstCells,loadCells,loadCellsFrom,zP]⟩
 ·refine⟨_,_,h1,fun w2 mb=>?_⟩
  have hl:=qC us q 0 b o0 h8;refine run_firstCells_some (P:=P) w2 size us.length ⟨b,o0,aO⟩ _ _ _ ?_ (fun j v hv=>?_)
  ·rw[xF,hk]
   exact xI us (jP us q 0 b o0 h8).2
  ·have:=jK us q 0 b o0 hl j v hv
   rw[wO];simp only[yA]at this;simpa[World.cell?,mb]using this
theorem jR{G:Gh}{a:Act}{w:World}(g9:Rep Γ E G a.tmps w){s:Nat}{t:T}(h:E s=aN t)(ht:t.single=aP):a.eval (.tmp s)=G.hd s []:=by rw[yX (g9.ent s t h).1,yE ht]
theorem zGg(t e:TypeId)(ti:TypeInfo)(z:Value)(k s0 y:Nat)(xs us:List T)(ho:o.op=.call { callee:=.builtin .append,args:=#[.tmp s0,.tmp y],argTypes:=#[t,t] })(gf:o.dst=aN d)(hd:d<Γ.N)
  (ht:P.underlying t=aN (.slice e))(hi:P.info? e=aN ti)(hz:ti.zero=aN z)(hk:ti.size=k)(ei:0<k)(eP:z.cells.size=k)(hb:ti.bytes≤2048)
  (gU:E s0=aN (.sl k xs))(hy:E y=aN (.sl k us))(ew:s0≠d)(fC:y≠d)(bz:y≠s0)(fx:xs.length+us.length≤68719476736):
  yW P Γ o E (E.app (aWr d s0 (aN y) k (xs++us)) (qM d s0 (aN y))):=by
 refine yW.value gf fun a w G g9=>?_
 obtain⟨_,y2,y3⟩:=g9.ent y _ hy;simp only[Top]at y3;obtain⟨xa,c,h1,h2⟩:=zJ4 (P:=P) y2 hk;have eL:zV us=aP∧ ∀u∈us,u.size=k:=by
  simp only[R]at y2;rcases y2 with⟨rfl,_⟩|⟨b,o0,cap,cs,et,_,_,_,_,_,_,_,h8⟩
  ·simp[zV]
  ·exact⟨tY (St:=Γ.St) (k:=k) us [] 0 b o0 (qC us [] 0 b o0 h8),(jP us [] 0 b o0 h8).2⟩
 have hn:zDN Γ E G d s0 (aN y) k xs.length us (fun j z'=>G.hd y (z'++[j])) (zP G y us [] 0):=
  ⟨eL.2,eL.1,y3,fun j z'=>g9.mem.one _ _,by rw[xF];exact xI us eL.2,fun y' hy'=>by simp at hy';subst hy';exact⟨fC,bz,hy,fun _ _=>rfl⟩,fun h=>by simp at h,
   fun G2 eb o v hv=>by rw[←zAo us xs.length 0 (fun i z'=>by rw[eb,J6])];exact hv⟩
 obtain⟨v,w',gr,G',gl⟩:=kI (P:=P) (ty:=o.type) g9 hd ht hi hz hk ei eP hb gU ew hn (xv:=a.eval (.tmp y)) ⟨.inl ⟨e,xa,c,ht,by rw[jR g9 hy rfl,h1],h2⟩⟩ (fun v hv=>zAM g9.mem us [] 0 v hv) fx;refine⟨v,w',?_,G',gl⟩;rw[←jR g9 gU rfl]at gr;simp[execOp,ho,resolve,invoke,builtin,gr]
theorem zGh(t e:TypeId)(ti:TypeInfo)(z:Value)(k s0:Nat)(y:Operand)(r:Nat)(q:List Nat)(xs us:List T)(ho:o.op=.call { callee:=.builtin .append,args:=#[.tmp s0,y],argTypes:=#[t,t] })(gf:o.dst=aN d)(hd:d<Γ.N)
  (ht:P.underlying t=aN (.slice e))(hi:P.info? e=aN ti)(hz:ti.zero=aN z)(hk:ti.size=k)(ei:0<k)(eP:z.cells.size=k)(hb:ti.bytes≤2048)
  (gU:E s0=aN (.sl k xs))(hy:vK E y=aN (r,q,.sl k us))(hf:sP us=aP)(ew:s0≠d)(fx:xs.length+us.length≤68719476736):
  yW P Γ o E (E.app (aWr d s0 aO k (xs++us)) (qM d s0 aO)):=by
 refine yW.value gf fun a w G g9=>?_
 obtain⟨y2,y1⟩:=uV g9 hy rfl;obtain⟨xa,c,h1,h2⟩:=zJ4 (P:=P) y2 hk;have eL:(∀u∈us,u.size=k)∧ ∀j u,us[j]? =aN u→R Γ.St G w r u (j::q):=by
  simp only[R]at y2;rcases y2 with⟨rfl,_⟩|⟨b,o0,cap,cs,et,_,_,_,_,_,_,_,h8⟩
  ·simp
  ·refine⟨(jP us q 0 b o0 h8).2,fun j u hu=>?_⟩
   have:=(uD us q 0 b o0 k j u h8 hu).2.2;simpa using this
 have gJ:=sD us hf;have hn:zDN Γ E G d s0 aO k xs.length us (fun j z'=>G.hd r (z'++(j::q))) (zP G r us q 0):=
  ⟨eL.1,gJ.2,gJ.1,fun j z'=>g9.mem.one _ _,by rw[xF];exact xI us eL.1,fun y' hy'=>by simp at hy',
   fun _ j u hu G2 w2 eb=>zGf u (j::q) [xs.length+j] (zFe us hf j u hu) (fun z'=>eb z') (eL.2 j u hu),
   fun G2 eb o v hv=>by rw[←zBU us xs.length 0 q (fun i z'=>by rw[eb,J6])];exact hv⟩
 obtain⟨v,w',gr,G',gl⟩:=kI (P:=P) (ty:=o.type) g9 hd ht hi hz hk ei eP hb gU ew hn (xv:=a.eval y) ⟨.inl ⟨e,xa,c,ht,by rw[y1,h1],h2⟩⟩ (fun v hv=>zAM g9.mem us q 0 v hv) fx;refine⟨v,w',?_,G',gl⟩;rw[←jR g9 gU rfl]at gr;simp[execOp,ho,resolve,invoke,builtin,gr]
mutual
theorem zLF:(u:T)→zC7 u=aP→(roT u).flat=aP
 |.agg xs,h=>by simp only[zC7]at h;simp only[roT,T.flat];exact zC8 xs h
 |.lit _,_|.sl _ _,_|.ptr _,_=>by simp[roT,T.flat]
 |.any,h|.ro _,h|.same _ _,h|.addr _ _,h|.sub _ _ _ _ _,h|.tup _,h=>by simp[zC7]at h
theorem zC8:(xs:List T)→jQ xs=aP→sP (roT.roTs xs)=aP
 | [],_=>by simp[roT.roTs,sP]
 |x::xs,h=>by simp only[jQ,J2]at h;simp only[roT.roTs,sP,J2];exact⟨zLF x h.1,zC8 xs h.2⟩
end
theorem zGi(t e:TypeId)(ti:TypeInfo)(z:Value)(k s0:Nat)(y:Operand)(r:Nat)(q:List Nat)(xs ys:List T)(ho:o.op=.call { callee:=.builtin .append,args:=#[.tmp s0,y],argTypes:=#[t,t] })(gf:o.dst=aN d)(hd:d<Γ.N)
  (ht:P.underlying t=aN (.slice e))(hi:P.info? e=aN ti)(hz:ti.zero=aN z)(hk:ti.size=k)(ei:0<k)(eP:z.cells.size=k)(hb:ti.bytes≤2048)
  (gU:E s0=aN (.sl k xs))(hy:vK E y=aN (r,q,.ro (.sl k ys)))(hro:jQ ys=aP)(bz:∀u∈ys,u.size=k)(ew:s0≠d)(fx:xs.length+ys.length≤68719476736):
  yW P Γ o E (E.app (aWr d s0 aO k (xs++roT.roTs ys)) (qM d s0 aO)):=by
 refine yW.value gf fun a w G g9=>?_
 obtain⟨y2,y1⟩:=uV g9 hy rfl;obtain⟨xa,c,h1,h2,h3,h4⟩:=zAI y2;have hf:=zC8 ys hro;have gJ:=sD _ hf;have gg:(roT.roTs ys).length=ys.length:=zDd ys;have gu:∀u∈roT.roTs ys,u.size=k:=zDP ys bz (fun u hu=>zHc ys hro u hu);obtain⟨cs',o',h5,h6⟩:∃(cs':Array Value)(o':Nat),RoL Γ.St ys cs' o' k∧(ys≠[]→ ∃b et fr,xa=aN ⟨b,o',aO⟩∧Γ.St b=aN (.cells cs' et fr)):=by
  by_cases gj:ys=[]
  ·subst gj;exact⟨#[],0,by simp[RoL],fun h=>absurd rfl h⟩
  ·obtain⟨b,o',cs',et,fr,h5,h6,h7⟩:=h4 gj
   exact⟨cs',o',h7,fun _=>⟨b,et,fr,h5,h6⟩⟩
 let f2:Nat→List Nat→Value:=fun j z'=>match ys[j]? with
  |some u=>tM (zBu u cs' (o'+j*k) z'.reverse)
  |none=>.bool aQ
 have hf2:∀j u,ys[j]? =aN u→ ∀z',f2 j z'=tM (zBu u cs' (o'+j*k) z'.reverse):=fun j u hu z'=>by simp[f2,hu]
 let G0:Gh:={ G with hd:=fun s z'=>if s=d then(match z'.getLast? with
  |some j=>f2 j z'.dropLast
  |none=>.bool aQ)else G.hd s z' }
 have hG0:∀j z',G0.hd d (z'++[j])=f2 j z':=fun j z'=>by simp[G0]
 have fH:∀(G2:Gh)(n:Nat),(∀j z',G2.hd d (z'++[n+j])=f2 j z')→ ∀(i:Nat)(v:Value),(zP G2 d (roT.roTs ys) [] n)[i]? =aN v→cs'[o'+i]? =aN v:=by intro G2 n eb i v hv;exact zJ3 ys cs' o' k n h5 bz (fun j u hu z'=>by rw[eb,hf2 j u hu]) i v hv
 have bg:∀w2:World,w2.heap=w.heap→(Builtin.firstCells ti.size ys.length (.slice xa ys.length c)).run P w2=.ok (zP G0 d (roT.roTs ys) [] 0).toArray w2:=by
  intro w2 mb
  by_cases gj:ys=[]
  ·subst gj
   cases xa<;>simp[Builtin.firstCells,loadCells,loadCellsFrom,roT.roTs,zP]
  ·obtain⟨b,et,fr,rfl,h7⟩:=h6 gj
   refine run_firstCells_some (P:=P) w2 ti.size ys.length ⟨b,o',aO⟩ _ _ _ ?_ (fun j v hv=>?_)
   ·rw[xF,hk,xI _ gu,gg]
   ·have:=fH G0 0 (fun j z'=>by rw[J6];exact hG0 j z') j v hv
    rw[wO];have h8:=g9.mem.st b _ h7;simp[World.cell?,mb,h8,this]
 have cS:∀j z',(f2 j z').oneCell'=aP:=fun j z'=>by
  dsimp only[f2];split
  ·exact jL _
  ·rfl
 have hn:zDN Γ E G d s0 aO k xs.length (roT.roTs ys) f2 (zP G0 d (roT.roTs ys) [] 0):=by
  refine⟨gu,gJ.2,gJ.1,cS,by rw[xF];exact xI _ gu,fun y' hy'=>by simp at hy',fun _ j u hu G2 w2 eb=>?_,fun G2 eb i v hv=>?_⟩
  ·obtain⟨u0,bE,rfl⟩:=zHd ys j u hu
   exact zL5 u0 cs' (o'+j*k) [xs.length+j] (fun z'=>by rw[eb z',hf2 j u0 bE]) (zDw ys cs' o' k j u0 h5 bE)
  ·rw[←zAo (roT.roTs ys) xs.length 0 (fun i z'=>by rw[eb,J6];exact(hG0 i z').symm)]
   exact hv
 have b7:∀v∈zP G0 d (roT.roTs ys) [] 0,v.oneCell'=aP:=by
  intro v hv;refine zB1 (fun s z'=>?_) _ [] 0 v hv;simp only[G0];split
  ·split
   ·exact cS _ _
   ·rfl
  ·exact g9.mem.one _ _
 have pW:zDM P t e ti (a.eval y) (roT.roTs ys).length (zP G0 d (roT.roTs ys) [] 0) w:=⟨.inl ⟨e,xa,c,ht,by rw[y1,h1,gg],by rw[gg];exact bg⟩⟩;obtain⟨v,w',gr,G',gl⟩:=kI (P:=P) (ty:=o.type) g9 hd ht hi hz hk ei eP hb gU ew hn pW b7 (by rw[gg];exact fx);refine⟨v,w',?_,G',gl⟩;rw[←jR g9 gU rfl]at gr;simp[execOp,ho,resolve,invoke,builtin,gr]
end
end Go.Ab

namespace Go.Ab
open Go
theorem zDe:(us:List T)→uE us=us.flatMap vQ
 | []=>rfl
 |u::us=>by simp[uE,zDe us]
theorem zAp(u:T)(h:u.zOk=aP):∀m,sQ (J1 m u)=aP
 |0=>rfl
 |m+1=>by simp[Jz,sQ,h,zAp u h m]
section
variable {P:Program}{Γ:Ctx}{E:Env}{o:Oper}{d:Nat}
theorem zDQ(t t2 e:TypeId)(k2:IntKind)(ti:TypeInfo)(z:Value)(u:T)(k s0:Nat)(y:Operand)(kd:IntKind)(m:Nat)(xs:List T)(ho:o.op=.call { callee:=.builtin .append,args:=#[.tmp s0,y],argTypes:=#[t,t2] })(gf:o.dst=aN d)(hd:d<Γ.N)
  (ht:P.underlying t=aN (.slice e))(mO:P.underlying t2=aN (.int k2))(hi:P.info? e=aN ti)(hz:ti.zero=aN z)(hk:ti.size=k)(ei:0<k)(hb:ti.bytes≤2048)(hu:u.zOk=aP)(hv:vQ u=z.cells.toList)(eL:u.size=k)
  (gU:E s0=aN (.sl k xs))(hy:opT E y=aN (.lit (.int kd m)))(ew:s0≠d)(fx:xs.length+m≤68719476736):
  yW P Γ o E (E.app (aWr d s0 aO k (xs++J1 m u)) (qM d s0 aO)):=by
 refine yW.value gf fun a w G g9=>?_
 have eP:z.cells.size=k:=by grind[xP]
 have hzo:=zAp u hu m;have gJ:=kG _ hzo
 let f2:Nat→List Nat→Value:=fun _ z'=>tM (zhd u z'.reverse)
 have hnvl:((Builtin.zeroCells z.cells m).toList).length=m*k:=by grind[Builtin.zeroCells]
 have hn:zDN Γ E G d s0 aO k xs.length (J1 m u) f2 (Builtin.zeroCells z.cells m).toList:=by
  refine⟨by grind,gJ.2,gJ.1,fun _ _=>jL _,by grind,by simp,fun _ j x hx G2 w2 eb=>?_,fun G2 eb i v hv'=>?_⟩
  ·grind[zGb]
  ·have h1:zP G2 d (J1 m u) [] xs.length=uE (J1 m u):=by grind[zBw]
   rw[h1,zDe]at hv';obtain⟨h2,h3⟩:=zGc vQ u k (by grind) ei m i v hv'
   grind[Builtin.zeroCells]
 have gz:∀v∈(Builtin.zeroCells z.cells m).toList,v.oneCell'=aP:=by
  intro v hv';simp only[Builtin.zeroCells,Array.toList_map,Array.toList_range,Ja,Kd]at hv';obtain⟨i,ej,rfl⟩:=hv'
  grind[Nat.mod_lt,zC6]
 have pW:zDM P t2 e ti (a.eval y) (J1 m u).length (Builtin.zeroCells z.cells m).toList w:=by
  refine⟨.inr ⟨k2,kd,z,mO,?_,hz,by simp,?_,by omega⟩⟩
  ·rw[(xC g9 hy).1];simp
  ·simp only[Kn]
   exact Lb (Gi (show m≤68719476736 by omega) hb) (by decide)
 obtain⟨v,w',gr,G',gl⟩:=kI (P:=P) (ty:=o.type) g9 hd ht hi hz hk ei eP hb gU ew hn pW gz (by grind);refine⟨v,w',?_,G',gl⟩;rw[←jR g9 gU rfl]at gr;simp[execOp,ho,resolve,invoke,builtin,gr]
end
end Go.Ab

namespace Go.Ab
open Go
def zHe(G:Gh)(nd:List (Nat×List Nat×T)):Value:=
 match nd with
 | [x]=>vO G x.1 x.2.2 x.2.1
 |nd=>.tuple (nd.map fun x=>vO G x.1 x.2.2 x.2.1).toArray
def FnC(P:Program)(f:FuncId)(us:List T)(res:List T)(rws:List (Nat×T)):Prop:=
 ∀(St:Stb)(W:Nat→Prop)(w:World)(G:Gh)(vs:Array Value),vs.size=us.length→
  (∀(i:Nat) u,us[i]? =aN u→vs[i]? =aN (mkV G i u [])∧R St G w i u [])→Mem ⟨St,W,w,0⟩ G w→
  Calls P f vs w fun e w'=> ∃(S':Stb)(G':Gh)(nd:List (Nat×List Nat×T)),zBp St S' W w.heap.size∧e=.returned (zHe G' nd)∧Mem ⟨S',W,w,0⟩ G' w'∧nd.map (·.2.2)=res∧
   (∀x∈nd,R S' G' w' x.1 x.2.2 x.2.1∧us.length≤x.1)∧(nd.map (·.1)).Nodup∧
   ∀i u',(i,u')∈rws→R S' G' w' i u' []∧ ∃u,us[i]? =aN u∧mkV G' i u' []=mkV G i u []
mutual
def xK:T→Bool
 |.ro _=>aQ
 |.sl _ xs|.agg xs|.tup xs=>xQ xs
 |.ptr t=>xK t
 |.any|.lit _|.same _ _|.addr _ _|.sub _ _ _ _ _=>aP
def xQ:List T→Bool
 | []=>aP
 |x::xs=>xK x&&xQ xs
end
section
variable {St St':Stb}{G:Gh}{w:World}{s:Nat}
mutual
theorem zI1:(t:T)→ ∀(p:List Nat),xK t=aP→R St G w s t p→R St' G w s t p
 |.ro _,_,h,_=>by simp[xK]at h
 |.sl k xs,p,h,hr=>by
  simp only[xK,R]at h hr ⊢
  rcases hr with hr|⟨b,o0,cap,cs,e,h1,h2,h3,h4,h5,h6,h7,h8⟩
  ·exact .inl hr
  ·exact .inr ⟨b,o0,cap,cs,e,h1,h2,h3,h4,h5,h6,h7,zPU xs p 0 b o0 k h h8⟩
 |.agg xs,p,h,hr|.tup xs,p,h,hr=>by simp only[xK,R]at h hr ⊢;exact zPV xs p 0 h hr
 |.ptr t,p,h,hr=>by
  simp only[xK,R]at h hr ⊢
  obtain⟨b,cs,e,h1,h2,h3,h6,h4,h5⟩:=hr;exact⟨b,cs,e,h1,h2,h3,h6,h4,zI1 t _ h h5⟩
 |.any,_,_,hr|.lit _,_,_,hr|.same _ _,_,_,hr|.addr _ _,_,_,hr|.sub _ _ _ _ _,_,_,hr=>by first|(simp only[R];done)|simpa only[R]using hr
theorem zPU:(xs:List T)→ ∀(p:List Nat)(i b o k:Nat),xQ xs=aP→RL St G w s xs p i b o k→RL St' G w s xs p i b o k
 | [],_,_,_,_,_,_,_=>by simp only[RL]
 |x::xs,p,i,b,o,k,h,hr=>by
  simp only[xQ,J2,RL]at h hr ⊢
  exact⟨hr.1,zI1 x _ h.1 hr.2.1,zPU xs p (i+1) b _ k h.2 hr.2.2⟩
theorem zPV:(xs:List T)→ ∀(p:List Nat)(i:Nat),xQ xs=aP→RF St G w s xs p i→RF St' G w s xs p i
 | [],_,_,_,_=>by simp only[RF]
 |x::xs,p,i,h,hr=>by
  simp only[xQ,J2,RF]at h hr ⊢
  exact⟨zI1 x _ h.1 hr.1,zPV xs p (i+1) h.2 hr.2⟩
end
end
section
variable {St St':Stb} (h:∀b x,St b=aN x→St' b=aN x)
 include h
mutual
theorem vS:(t:T)→ ∀(cs:Array Value)(o:Nat),RoC St t cs o→RoC St' t cs o
 |.sl k xs,cs,o,hr=>by
  simp only[RoC]at hr ⊢
  obtain⟨a,c,h1,h2,h3,h4⟩:=hr;refine⟨a,c,h1,h2,h3,fun gj=>?_⟩;obtain⟨b,o',cs',e,fr,h5,h6,h7⟩:=h4 gj;exact⟨b,o',cs',e,fr,h5,h b _ h6,zHf xs cs' o' k h7⟩
 |.agg xs,cs,o,hr=>by simp only[RoC]at hr ⊢;exact zHg xs cs o hr
 |.ptr t,cs,o,hr=>by
  simp only[RoC]at hr ⊢
  obtain⟨b,o',cs',e,fr,h5,h6,h7⟩:=hr;exact⟨b,o',cs',e,fr,h5,h b _ h6,vS t cs' o' h7⟩
 |.ro u,cs,o,hr=>by
  simp only[RoC]at hr ⊢
  obtain⟨f,vs,h1,h2,h3⟩:=hr;exact⟨f,vs,h1,h2,vS u _ _ h3⟩
 |.any,_,_,hr|.lit _,_,_,hr|.same _ _,_,_,hr|.addr _ _,_,_,hr|.sub _ _ _ _ _,_,_,hr|.tup _,_,_,hr=>by first|(simp only[RoC]at hr;done)|simpa only[RoC]using hr
theorem zHf:(xs:List T)→ ∀(cs:Array Value)(o k:Nat),RoL St xs cs o k→RoL St' xs cs o k
 | [],_,_,_,_=>by have _:=h;simp only[RoL]
 |x::xs,cs,o,k,hr=>by simp only[RoL]at hr ⊢;exact⟨vS x cs o hr.1,zHf xs cs _ k hr.2⟩
theorem zHg:(xs:List T)→ ∀(cs:Array Value)(o:Nat),RoF St xs cs o→RoF St' xs cs o
 | [],_,_,_=>by have _:=h;simp only[RoF]
 |x::xs,cs,o,hr=>by simp only[RoF]at hr ⊢;exact⟨vS x cs o hr.1,zHg xs cs _ hr.2⟩
end
end
section
variable {St St':Stb}{G:Gh}{w:World}{s:Nat} (h:∀b x,St b=aN x→St' b=aN x)
 include h
mutual
theorem zGj:(t:T)→ ∀(p:List Nat),R St G w s t p→R St' G w s t p
 |.ro t,_,hr=>by simp only[R]at hr ⊢;exact vS h t _ _ hr
 |.sl k xs,p,hr=>by
  simp only[R]at hr ⊢
  rcases hr with hr|⟨b,o0,cap,cs,e,h1,h2,h3,h4,h5,h6,h7,h8⟩
  ·exact .inl hr
  ·exact .inr ⟨b,o0,cap,cs,e,h1,h2,h3,h4,h5,h6,h7,zJ5 xs p 0 b o0 k h8⟩
 |.agg xs,p,hr|.tup xs,p,hr=>by simp only[R]at hr ⊢;exact zJ6 xs p 0 hr
 |.ptr t,p,hr=>by
  simp only[R]at hr ⊢
  obtain⟨b,cs,e,h1,h2,h3,h6,h4,h5⟩:=hr;exact⟨b,cs,e,h1,h2,h3,h6,h4,zGj t _ h5⟩
 |.any,_,hr|.lit _,_,hr|.same _ _,_,hr|.addr _ _,_,hr|.sub _ _ _ _ _,_,hr=>by first|(simp only[R];done)|simpa only[R]using hr
theorem zJ5:(xs:List T)→ ∀(p:List Nat)(i b o k:Nat),RL St G w s xs p i b o k→RL St' G w s xs p i b o k
 | [],_,_,_,_,_,_=>by have _:=h;simp only[RL]
 |x::xs,p,i,b,o,k,hr=>by simp only[RL]at hr ⊢;exact⟨hr.1,zGj x _ hr.2.1,zJ5 xs p (i+1) b _ k hr.2.2⟩
theorem zJ6:(xs:List T)→ ∀(p:List Nat)(i:Nat),RF St G w s xs p i→RF St' G w s xs p i
 | [],_,_,_=>by have _:=h;simp only[RF]
 |x::xs,p,i,hr=>by simp only[RF]at hr ⊢;exact⟨zGj x _ hr.1,zJ6 xs p (i+1) hr.2⟩
end
end
mutual
def strip:T→T
 |.lit v=>.lit v
 |.ro u=>if u.single then u else .any
 |.sl k xs=>.sl k (wF xs)
 |.agg xs=>.agg (wF xs)
 |.ptr t=>.ptr (strip t)
 |.any|.same _ _|.addr _ _|.sub _ _ _ _ _|.tup _=>.any
def wF:List T→List T
 | []=>[]
 |x::xs=>strip x::wF xs
end
theorem jC:(xs:List T)→(wF xs).length=xs.length
 | []=>rfl
 |x::xs=>by simp[wF,jC xs]
mutual
theorem zDR:(t:T)→(strip t).size=t.size
 |.agg xs=>by simp only[strip,T.size];exact zDf xs
 |.ro u=>by
  simp only[strip];split
  ·rename_i h;cases u<;>simp[T.single]at h<;>simp[T.size]
  ·simp[T.size]
 |.lit _|.sl _ _|.ptr _|.any|.same _ _|.addr _ _|.sub _ _ _ _ _|.tup _=>by simp[strip,T.size]
theorem zDf:(xs:List T)→T.sizes (wF xs)=T.sizes xs
 | []=>rfl
 |x::xs=>by simp only[wF,T.sizes,zDR x,zDf xs]
end
theorem qT{St:Stb}{u:T}(hu:u.single=aP){v:Value}{cs:Array Value}{o:Nat}(h:RoC St u #[v] 0)(hc:cs[o]? =aN v):RoC St u cs o:=by
 cases u<;>simp[T.single]at hu<;>simp only[RoC]at h ⊢ <;>simp at h<;>first
  |exact⟨v,hc,h⟩
  |(obtain⟨rfl,h2⟩:=h;exact⟨hc,h2⟩)
  |(obtain⟨f,vs,rfl,h2⟩:=h;exact⟨f,vs,hc,h2⟩)
  |(obtain⟨a,c,rfl,h2⟩:=h;exact⟨a,c,hc,by simpa using h2⟩)
  |(obtain⟨b,o',rfl,h2⟩:=h;obtain⟨cs',⟨e,f1,f2,h3⟩,h4⟩:=h2;exact⟨b,o',cs',e,(f1,f2),hc,h3,h4⟩)
section
variable {St Sc:Stb}{G:Gh}{w:World}{s:Nat} (gz:∀s p,(G.hd s p).oneCell'=aP) (er:∀b x,St b=aN x→Sc b=aN x) (es:∀b,(∃y,G.ow b=aN (s,y))→Sc b=w.heap[b]?)
 include gz er es
mutual
theorem frz:(t:T)→ ∀(p:List Nat)(b o:Nat)(cs:Array Value)(e:TypeId)(fr:Nat×Nat),w.heap[b]? =aN (.cells cs e fr)→Loc G w s t p b o→R St G w s t p→RoC Sc (strip t) cs o
 |.agg xs,p,b,o,cs,e,fr,hb,hl,hr=>by simp only[Loc,R,strip,RoC]at hl hr ⊢;exact zRJ xs p 0 b o cs e fr hb hl.2 hr
 |.tup _,_,_,_,_,_,_,_,hl,_=>by have _:=es;simp only[Loc]at hl
 |.any,p,b,o,cs,e,fr,hb,hl,hr|.same _ _,p,b,o,cs,e,fr,hb,hl,hr|.addr _ _,p,b,o,cs,e,fr,hb,hl,hr|.sub _ _ _ _ _,p,b,o,cs,e,fr,hb,hl,hr=>by have h1:=(vF rfl hl).2.2;simp only[yA,World.cell?,hb]at h1;simp only[strip,RoC];exact⟨_,by simpa using h1,gz s p⟩
 |.lit v,p,b,o,cs,e,fr,hb,hl,hr=>by
  have h1:=(vF rfl hl).2.2;simp only[yA,World.cell?,hb]at h1;simp only[strip,RoC,R]at hr ⊢
  exact⟨by rw[←hr];simpa using h1,by rw[←hr];exact gz s p⟩
 |.ro u,p,b,o,cs,e,fr,hb,hl,hr=>by
  have h1:=(vF rfl hl).2.2;simp only[yA,World.cell?,hb]at h1;simp only[strip,R]at hr ⊢
  split
  ·rename_i hu
   exact qT hu (vS er u _ _ hr) (by simpa using h1)
  ·simp only[RoC];exact⟨_,by simpa using h1,gz s p⟩
 |.sl k xs,p,b,o,cs,e,fr,hb,hl,hr=>by have h1:=(vF rfl hl).2.2;simp only[yA,World.cell?,hb]at h1;exact qT rfl (zHh (.sl k xs) p rfl hr) (by simpa using h1)
 |.ptr t,p,b,o,cs,e,fr,hb,hl,hr=>by have h1:=(vF rfl hl).2.2;simp only[yA,World.cell?,hb]at h1;exact qT rfl (zHh (.ptr t) p rfl hr) (by simpa using h1)
theorem zRJ:(xs:List T)→ ∀(p:List Nat)(j b o:Nat)(cs:Array Value)(e:TypeId)(fr:Nat×Nat),w.heap[b]? =aN (.cells cs e fr)→wB G w s xs p j b o→RF St G w s xs p j→RoF Sc (wF xs) cs o
 | [],_,_,_,_,_,_,_,_,_,_=>by have _:=gz;have _:=er;have _:=es;simp only[wF,RoF]
 |x::xs,p,j,b,o,cs,e,fr,hb,hl,hr=>by
  simp only[wB,RF,wF,RoF]at hl hr ⊢
  exact⟨frz x _ b o cs e fr hb hl.1 hr.1,by rw[zDR];exact zRJ xs p (j+1) b _ cs e fr hb hl.2 hr.2⟩
theorem zRK:(xs:List T)→ ∀(p:List Nat)(i b o k:Nat)(cs:Array Value)(e:TypeId)(fr:Nat×Nat),w.heap[b]? =aN (.cells cs e fr)→RL St G w s xs p i b o k→RoL Sc (wF xs) cs o k
 | [],_,_,_,_,_,_,_,_,_,_=>by have _:=gz;have _:=er;have _:=es;simp only[wF,RoL]
 |x::xs,p,i,b,o,k,cs,e,fr,hb,hr=>by
  simp only[RL,wF,RoL]at hr ⊢
  exact⟨frz x _ b o cs e fr hb hr.1.1 hr.2.1,zRK xs p (i+1) b _ k cs e fr hb hr.2.2⟩
theorem zHh:(t:T)→ ∀(p:List Nat),t.single=aP→R St G w s t p→RoC Sc (strip t) #[G.hd s p] 0
 |.agg _,_,h,_|.tup _,_,h,_=>by simp[T.single]at h
 |.any,p,_,_|.same _ _,p,_,_|.addr _ _,p,_,_|.sub _ _ _ _ _,p,_,_=>by simp only[strip,RoC];exact⟨_,by simp,gz s p⟩
 |.lit v,p,_,hr=>by simp only[strip,RoC,R]at hr ⊢;exact⟨by simp[hr],by rw[←hr];exact gz s p⟩
 |.ro u,p,_,hr=>by
  simp only[strip,R]at hr ⊢
  split
  ·exact vS er u _ _ hr
  ·simp only[RoC];exact⟨_,by simp,gz s p⟩
 |.sl k xs,p,_,hr=>by
  simp only[strip,R,RoC]at hr ⊢
  rw[jC];rcases hr with⟨rfl,a,h1⟩|⟨b,o0,cap,cs,e,h1,h2,h3,h4,h5,h6,h7,h8⟩
  ·exact⟨a,0,by simp[h1],by simp,by simp[maxLen],fun h=>by simp[wF]at h⟩
  ·exact⟨aN ⟨b,o0,aO⟩,cap,by simp[h1],h3,h4,fun _=>⟨b,o0,cs,e,(0,0),rfl,by rw[es b ⟨_,h6⟩];exact h2,zRK xs p 0 b o0 k cs e (0,0) h2 h8⟩⟩
 |.ptr t,p,_,hr=>by
  simp only[strip,R,RoC]at hr ⊢
  obtain⟨b,cs,e,h1,h2,h3,h6,h4,h5⟩:=hr;exact⟨b,0,cs,e,(0,0),by simp[h1],by rw[es b ⟨_,h6⟩];exact h2,frz t _ b 0 cs e (0,0) h2 h4 h5⟩
end
end
end Go.Ab

namespace Go.Ab
open Go
mutual
def clo(E:Env):T→T
 |.agg ts=>.agg (kJ E ts)
 |.lit v=>.lit v
 |.ro u=>.ro u
 |.same r q=>match uP E 4 r q with
  |some (_,_,.ro u)=>.ro u
  |some (_,_,.lit v)=>.lit v
  |some (_,_,t)=>if t.single then .ro (strip t)else .any
  |none=>.any
 |.sub r q k lo hi=>match uP E 4 r q with
  |some (_,_,.sl k' xs)=>if k=k'∧lo≤hi∧hi≤xs.length then .ro (.sl k (((wF xs).drop lo).take (hi-lo)))else .any
  |_=>.any
 |.sl k xs=>.ro (strip (.sl k xs))
 |.ptr t=>.ro (strip (.ptr t))
 |.any|.addr _ _|.tup _=>.any
def kJ(E:Env):List T→List T
 | []=>[]
 |x::xs=>clo E x::kJ E xs
end
mutual
def uH(E:Env)(rs:List Nat)(s:Nat):T→Bool
 |.agg ts=>qD E rs s ts
 |.same r q|.sub r q _ _ _=>match uP E 4 r q with
  |some (r',_,_)=> !rs.contains r'
  |none=>aP
 |.sl _ _|.ptr _=> !rs.contains s
 |.lit _|.ro _|.any|.addr _ _=>aP
 |.tup _=>aQ
def qD(E:Env)(rs:List Nat)(s:Nat):List T→Bool
 | []=>aP
 |x::xs=>uH E rs s x&&qD E rs s xs
end
theorem zOI{St:Stb}{k:Nat}{xs:List T}{v:Value}{lo hi:Nat}(h:RoC St (.sl k xs) #[v] 0)(h1:lo≤hi)(h2:hi≤xs.length):RoC St (.sl k ((xs.drop lo).take (hi-lo))) #[jI v k lo hi] 0:=by
 simp only[RoC]at h ⊢
 obtain⟨a',c,g4,g5,g6,g7⟩:=h;have hv:v=.slice a' xs.length c:=by grind
 subst hv;have gg:((xs.drop lo).take (hi-lo)).length=hi-lo:=by simp;omega
 refine⟨if c=lo then a' else a'.map (·.add (lo*k)),c-lo,by grind[jI],by omega,by omega,?_⟩;intro gj;have pH:xs≠[]:=by grind
 obtain⟨b,o',cs',e',fr,rfl,h3,h4⟩:=g7 pH;have gJ:c≠lo:=by grind
 grind[wO,zDE,zDD]
section
variable {Γ:Ctx}{E:Env}{G Gc:Gh}{a:Act}{w:World}{Sc:Stb}{rs:List Nat}{s i:Nat} (g9:Rep Γ E G a.tmps w) (er:∀b x,Γ.St b=aN x→Sc b=aN x) (es:∀r,r∉rs→ ∀b,(∃y,G.ow b=aN (r,y))→Sc b=w.heap[b]?) (gF:∀z,Gc.hd i z=G.hd s z)
 include g9 er es gF
mutual
theorem zPW:(t:T)→ ∀(p:List Nat),uH E rs s t=aP→R Γ.St G w s t p→R Sc Gc w i (clo E t) p
 |.agg ts,p,h,hr=>by simp only[uH,clo,R]at h hr ⊢;exact zLG ts p 0 h hr
 |.tup _,_,h,_=>by grind[uH]
 |.lit v,p,_,hr=>by simp only[clo,R]at hr ⊢;grind
 |.ro u,p,_,hr=>by simp only[clo,R]at hr ⊢;grind[vS]
 |.any,_,_,_|.addr _ _,_,_,_=>by simp only[clo,R]
 |.sl k xs,p,h,hr=>by
  simp only[uH,H0,L2,decide_eq_false_iff_not]at h;have:=zHh (fun s p=>g9.mem.one s p) er (es s h) (.sl k xs) p rfl hr;simp only[clo,R]
  grind
 |.ptr t,p,h,hr=>by
  simp only[uH,H0,L2,decide_eq_false_iff_not]at h;have:=zHh (fun s p=>g9.mem.one s p) er (es s h) (.ptr t) p rfl hr;simp only[clo,R]
  grind
 |.same r q,p,h,hr=>by
  simp only[uH,clo,R]at h hr ⊢
  cases hf:uP E 4 r q with
  |none=>simp only[R]
  |some x=>
   obtain⟨r',q',t⟩:=x;simp only[hf,H0,L2,decide_eq_false_iff_not]at h;obtain⟨h1,h2,_⟩:=zAH g9 4 r q r' q' t hf;have h3:Gc.hd i p=G.hd r' q':=by grind
   by_cases hs:t.single=aP
   ·have h4:=zHh (fun s p=>g9.mem.one s p) er (es r' h) t q' hs h1
    cases t with
    |ro u=>simp only[R]at h1 ⊢;grind[vS]
    |lit v=>simp only[R]at h1 ⊢;grind
    |agg _=>grind[T.single]
    |tup _=>grind[T.single]
    |_=>simp only[hs,if_true,R];grind
   ·cases t<;>simp[T.single]at hs<;>simp[T.single,R]
 |.sub r q k lo hi,p,h,hr=>by
  simp only[uH,clo,R]at h hr ⊢
  cases hf:uP E 4 r q with
  |none=>simp only[R]
  |some x=>
   obtain⟨r',q',t⟩:=x;simp only[hf,H0,L2,decide_eq_false_iff_not]at h;obtain⟨h1,h2,_⟩:=zAH g9 4 r q r' q' t hf;cases t with
   |sl k' xs=>
    simp only[];split
    ·rename_i hc
     obtain⟨rfl,fY,eH⟩:=hc;have h4:=zHh (fun s p=>g9.mem.one s p) er (es r' h) (.sl k xs) q' rfl h1;simp only[strip]at h4;simp only[R]
     grind[zOI,jC]
    ·simp only[R]
   |_=>simp only[R]
theorem zLG:(ts:List T)→ ∀(p:List Nat)(j:Nat),qD E rs s ts=aP→RF Γ.St G w s ts p j→RF Sc Gc w i (kJ E ts) p j
 | [],_,_,_,_=>by have _:=g9;have _:=er;have _:=es;have _:=gF;simp only[kJ,RF]
 |x::xs,p,j,h,hr=>by
  simp only[qD,J2,kJ,RF]at h hr ⊢
  exact⟨zPW x _ h.1 hr.1,zLG xs p (j+1) h.2 hr.2⟩
end
end
section
variable {E:Env}{G Gc:Gh}{rs:List Nat}{s i:Nat}
theorem zDS(t:T)(h:t.single=aP):(clo E t).single=aP:=by cases t<;>simp[T.single]at h<;>simp only[clo]<;>first|rfl|(split<;>first|rfl|(split<;>rfl))
mutual
theorem zLH(gF:∀z,Gc.hd i z=G.hd s z):(t:T)→ ∀(p:List Nat),uH E rs s t=aP→vals Gc i (clo E t) p=vals G s t p
 |.agg ts,p,h=>by simp only[uH,clo,vals]at h ⊢;exact zC9 gF ts p 0 h
 |.tup _,_,h=>by grind[uH]
 |.lit _,p,_|.ro _,p,_|.any,p,_|.addr _ _,p,_|.sl _ _,p,_|.ptr _,p,_|.same _ _,p,_|.sub _ _ _ _ _,p,_=>by
  have h1:∀u:T,u.single=aP→vals Gc i u p=[G.hd s p]:=fun u hu=>by cases u<;>simp[T.single]at hu<;>simp[vals,gF]
  rw[h1 _ (zDS _ rfl)];simp[vals]
theorem zC9(gF:∀z,Gc.hd i z=G.hd s z):(ts:List T)→ ∀(p:List Nat)(j:Nat),qD E rs s ts=aP→zP Gc i (kJ E ts) p j=zP G s ts p j
 | [],_,_,_=>by rfl
 |x::xs,p,j,h=>by simp only[qD,J2]at h;simp only[kJ,zP];rw[zLH gF x _ h.1,zC9 gF xs p _ h.2]
end
theorem zGk(gF:∀z,Gc.hd i z=G.hd s z)(t:T)(h:uH E rs s t=aP):mkV Gc i (clo E t) []=mkV G s t []:=by
 cases t with
 |agg ts=>grind[uH,clo,mkV,zC9]
 |tup _=>grind[uH]
 |_=>rw[yE (zDS _ rfl),yE rfl,gF]
end
end Go.Ab
