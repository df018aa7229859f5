/- x -/
import Derived.Orders
import Derived.Laws.AppendOwn
import Derived.Laws.MakeOwn
import Derived.Great.BuildSlice
import Derived.Laws.Tables
open List renaming replicate→J1,length_append→J8,getElem?_eq_some_iff→Ja,getElem?_append_right→Je,mem_map→Jh,append_assoc→Ji,append_nil→Jk,length_replicate→Jl,map_cons→Jm,eq_nil_of_length_eq_zero→Jn,getElem?_map→Jp,all_eq_true→Jr,mem_cons→Js,length_cons→Jx,nil_append→Jy,mem_append→K4,mem_range→K5,getElem?_append_left→K9,getElem?_append→Kb,reverse_reverse→Ki,nodup_cons→Kj,set_cons_succ→Kk,ext_getElem?→Kl,length_set→Kn,replicate_succ→Ks,mem_of_getElem?→Kx,getElem?_drop→Ky,take_succ_cons→L4,set_cons_zero→L5,flatMap_cons→La,contains_eq_mem→Lg,length_nil→Li,drop_eq_getElem_cons→Lv,reverse_nil→H7,reverse_cons→Hy,getElem?_take_of_lt→G4,cons_append→G5,length_take→Ge,map_take→U8,reverse_append→Q8,flatMap_append→Qa,cons→Qm,size_toArray→Qp,take_append→Qv,isEmpty_iff→Qy,map_nil→Ja9,not_mem_nil→Jag,map_toArray→Jai,getElem?_cons_succ→Jaq
open Bool renaming and_eq_true→J3,false_eq_true→Lx,not_eq_true'→Hz,false_and→Jad
open Array renaming getElem?_setIfInBounds→J6,getElem?_toList→K6,length_toList→K8,getD_eq_getD_getElem?→Ka,getElem?_eq_some_iff→Kt,range→Jal,ext'→Jat
open Nat renaming le_refl→J7,zero_add→Jc,lt_or_ge→Jf,le_trans→Ko,mul_le_mul_right→Lh,add_assoc→Lu,succ_mul→Ly,add_mul→H6,mul_le_mul→Uf,lt_of_lt_of_le→Jaf,add_zero→Jan
open Int renaming toNat_natCast→J9,natCast_mul→Jac
open Option renaming map_none→Ub,isSome_none→Qi
open Prod renaming mk→Q6
open Option renaming some→jq,none→jr
open Bool renaming true→js,false→jt
theorem ju{p:Prop}[h:Decidable p](a:¬p):decide p=false:=decide_eq_false a
theorem jw{p:Prop}[h:Decidable p](a:p):decide p=true:=decide_eq_true a
namespace Go.Ab
open Go
inductive T where
 |any
 |lit (v:Value)
 |ro (t:T)
 |same (r:Nat) (p:List Nat)
 |addr (r:Nat) (p:List Nat)
 |sub (r:Nat) (p:List Nat) (k lo hi:Nat)
 |sl (k:Nat) (xs:List T)
 |agg (xs:List T)
 |ptr (t:T)
 |tup (xs:List T)
 |mp (ks:List Value) (xs:List T)
 deriving Inhabited
abbrev Stb:=Nat→Option Obj
mutual
def T.size:T→Nat
 |.agg xs=>T.sizes xs
 |_=>1
def T.sizes:List T→Nat
 | []=>0
 |x::xs=>x.size+T.sizes xs
end
mutual
def RoC(St:Stb):T→Array Value→Nat→Prop
 |.any,cs,o=> ∃v,cs[o]? =jq v∧v.oneCell'=js
 |.lit v,cs,o=>cs[o]? =jq v∧v.oneCell'=js
 |.ro u,cs,o=> ∃f vs,cs[o]? =jq (.func (.func f) #[] vs)∧vs.size+1=u.size∧RoC St u (#[.func (.func f) #[] #[]]++vs) 0
 |.sl k xs,cs,o=> ∃a c,cs[o]? =jq (.slice a xs.length c)∧xs.length≤c∧c≤maxLen∧
   (xs≠[]→ ∃b o' cs' e fr,a=jq ⟨b,o',jr⟩∧St b=jq (.cells cs' e fr)∧RoL St xs cs' o' k)
 |.agg xs,cs,o=>RoF St xs cs o
 |.ptr t,cs,o=> ∃b o' cs' e fr,cs[o]? =jq (.pointer (jq ⟨b,o',jr⟩))∧St b=jq (.cells cs' e fr)∧RoC St t cs' o'
 |.same _ _,_,_=>False
 |.addr _ _,_,_=>False
 |.sub _ _ _ _ _,_,_=>False
 |.tup _,_,_=>False
 |.mp _ _,_,_=>False
def RoL(St:Stb):List T→Array Value→Nat→Nat→Prop
 | [],_,_,_=>True
 |x::xs,cs,o,k=>RoC St x cs o∧RoL St xs cs (o+k) k
def RoF(St:Stb):List T→Array Value→Nat→Prop
 | [],_,_=>True
 |x::xs,cs,o=>RoC St x cs o∧RoF St xs cs (o+x.size)
end
def RoM(St:Stb):List Value→List T→List MapEntry→Prop
 | [],[],[]=>True
 |k::ks,x::xs,e::es=>e.key=k∧RoC St x #[e.val] 0∧RoM St ks xs es
 |_,_,_=>False
structure Gh where
 hd:Nat→List Nat→Value
 ad:Nat→List Nat→Addr
 lb:Nat→Nat→Option (Bool×Nat×List Nat)
 ow:Nat→Option (Nat×List Nat)
def yQ(w:World)(b o:Nat):Option Value:=w.cell? ⟨b,o,jr⟩
mutual
def Loc(G:Gh)(w:World)(s:Nat):T→List Nat→Nat→Nat→Prop
 |.agg xs,p,b,o=>G.ad s p=⟨b,o,jr⟩∧vJ G w s xs p 0 b o
 |.tup _,_,_,_=>False
 |.any,p,b,o|.lit _,p,b,o|.ro _,p,b,o|.same _ _,p,b,o|.addr _ _,p,b,o|.sub _ _ _ _ _,p,b,o|.sl _ _,p,b,o|.ptr _,p,b,o|.mp _ _,p,b,o=>
  G.ad s p=⟨b,o,jr⟩∧G.lb b o=jq (jt,s,p)∧yQ w b o=jq (G.hd s p)
def vJ(G:Gh)(w:World)(s:Nat):List T→List Nat→Nat→Nat→Nat→Prop
 | [],_,_,_,_=>True
 |x::xs,p,j,b,o=>Loc G w s x (j::p) b o∧vJ G w s xs p (j+1) b (o+x.size)
end
def zB4(v:Value)(k lo hi:Nat):Value:=
 match v with
 |.slice a _ c=>.slice (if c=lo then a else a.map (·.add (lo*k))) (hi-lo) (c-lo)
 |v=>v
mutual
def R(St:Stb)(G:Gh)(w:World)(s:Nat):T→List Nat→Prop
 |.any,_=>True
 |.lit v,p=>G.hd s p=v
 |.ro t,p=>RoC St t #[G.hd s p] 0
 |.same r q,p=>G.hd s p=G.hd r q
 |.addr r q,p=>G.hd s p=.pointer (jq (G.ad r q))
 |.sub r q k lo hi,p=>G.hd s p=zB4 (G.hd r q) k lo hi
 |.sl k xs,p=>(xs=[]∧ ∃a,G.hd s p=.slice a 0 0)∨ ∃b o0 cap cs e,G.hd s p=.slice (jq ⟨b,o0,jr⟩) xs.length cap∧
   w.heap[b]? =jq (.cells cs e (0,0))∧xs.length≤cap∧cap≤maxLen∧o0+cap*k≤cs.size∧G.ow b=jq (s,p)∧
   (∀o,o0+xs.length*k≤o→o<o0+cap*k→G.lb b o=jq (js,s,p))∧RL St G w s xs p 0 b o0 k
 |.agg xs,p=>RF St G w s xs p 0
 |.ptr t,p=> ∃b cs e,G.hd s p=.pointer (jq ⟨b,0,jr⟩)∧w.heap[b]? =jq (.cells cs e (0,0))∧cs.size=t.size∧G.ow b=jq (s,p)∧
   Loc G w s t (0::p) b 0∧R St G w s t (0::p)
 |.tup xs,p=>RF St G w s xs p 0
 |.mp ks xs,p=> ∃b ms c,G.hd s p=.map (jq b)∧w.heap[b]? =jq (.map ms c)∧G.ow b=jq (s,p)∧RoM St ks xs ms.toList
def RL(St:Stb)(G:Gh)(w:World)(s:Nat):List T→List Nat→Nat→Nat→Nat→Nat→Prop
 | [],_,_,_,_,_=>True
 |x::xs,p,i,b,o,k=>(Loc G w s x (i::p) b o∧x.size=k)∧R St G w s x (i::p)∧RL St G w s xs p (i+1) b (o+k) k
def RF(St:Stb)(G:Gh)(w:World)(s:Nat):List T→List Nat→Nat→Prop
 | [],_,_=>True
 |x::xs,p,j=>R St G w s x (j::p)∧RF St G w s xs p (j+1)
end
mutual
def xC(φ:Nat→List Nat→Prop):T→Prop
 |.same r p|.addr r p|.sub r p _ _ _=>φ r p
 |.sl _ xs|.agg xs|.tup xs=>xX φ xs
 |.ptr t=>xC φ t
 |.any|.lit _|.ro _|.mp _ _=>True
def xX(φ:Nat→List Nat→Prop):List T→Prop
 | []=>True
 |x::xs=>xC φ x∧xX φ xs
end
mutual
theorem xC.mono{φ ψ:Nat→List Nat→Prop}(h:∀r p,φ r p→ψ r p):(t:T)→xC φ t→xC ψ t
 |.same _ _,ht|.addr _ _,ht|.sub _ _ _ _ _,ht=>h _ _ ht
 |.sl _ xs,ht|.agg xs,ht|.tup xs,ht=>by simp only[xC]at ht ⊢;exact xX.mono h xs ht
 |.ptr t,ht=>by simp only[xC]at ht ⊢;exact xC.mono h t ht
 |.any,_|.lit _,_|.ro _,_|.mp _ _,_=>by simp[xC]
theorem xX.mono{φ ψ:Nat→List Nat→Prop}(h:∀r p,φ r p→ψ r p):(xs:List T)→xX φ xs→xX ψ xs
 | [],_=>trivial
 |x::xs,hx=>⟨xC.mono h x hx.1,xX.mono h xs hx.2⟩
end
mutual
theorem xC.triv{φ:Nat→List Nat→Prop}(h:∀r p,φ r p):(t:T)→xC φ t
 |.same _ _|.addr _ _|.sub _ _ _ _ _=>by simp only[xC];exact h _ _
 |.sl _ xs|.agg xs|.tup xs=>by simp only[xC];exact xX.triv h xs
 |.ptr t=>by simp only[xC];exact xC.triv h t
 |.any|.lit _|.ro _|.mp _ _=>by simp only[xC]
theorem xX.triv{φ:Nat→List Nat→Prop}(h:∀r p,φ r p):(xs:List T)→xX φ xs
 | []=>by simp only[xX]
 |x::xs=>by simp only[xX];exact⟨xC.triv h x,xX.triv h xs⟩
end
abbrev zZ(t:T):Prop:=xC (fun _ _=>False) t
abbrev xE(xs:List T):Prop:=xX (fun _ _=>False) xs
def Blk(w w':World):Prop:=∀(b:Nat) cs e,w.heap[b]? =jq (.cells cs e (0,0))→ ∃cs',w'.heap[b]? =jq (.cells cs' e (0,0))∧cs'.size=cs.size
structure MovesE (G:Gh) (w:World) (G':Gh) (w':World) (s:Nat) (p:List Nat) (s':Nat) (p':List Nat):Prop where
 hd:∀z,G'.hd s' (z++p')=G.hd s (z++p)
 ad:∀z,z≠[]→G'.ad s' (z++p')=G.ad s (z++p)
 lb:∀b o f z,z≠[]→(∃y,G.ow b=jq (s,y))→G.lb b o=jq (f,s,z++p)→G'.lb b o=jq (f,s',z++p')∧yQ w' b o=yQ w b o
 ow:∀b z,z≠[]→G.ow b=jq (s,z++p)→G'.ow b=jq (s',z++p')
 blk:Blk w w'
 mp:∀b z ms c,G.ow b=jq (s,z++p)→w.heap[b]? =jq (.map ms c)→w'.heap[b]? =jq (.map ms c)
structure zGj (G:Gh) (w:World) (G':Gh) (w':World) (s:Nat) (p:List Nat) (s':Nat) (p':List Nat):Prop extends MovesE G w G' w' s p s' p' where
 sp:∀b o,(∃y,G.ow b=jq (s,y))→G.lb b o=jq (js,s,p)→G'.lb b o=jq (js,s',p')∧yQ w' b o=yQ w b o
 ow0:∀b,G.ow b=jq (s,p)→G'.ow b=jq (s',p')
def zAE(G G':Gh)(r:Nat)(p:List Nat):Prop:=G'.hd r p=G.hd r p∧G'.ad r p=G.ad r p
section
variable {St:Stb}{G:Gh}{w:World}{G':Gh}{w':World}{s:Nat}{p:List Nat}{s':Nat}{p':List Nat}
mutual
theorem zEb(hm:MovesE G w G' w' s p s' p'):(t:T)→ ∀(z:List Nat)(b o:Nat),z≠[]→(∃y,G.ow b=jq (s,y))→Loc G w s t (z++p) b o→Loc G' w' s' t (z++p') b o
 |.agg xs,z,b,o,hz,gP,h=>by
  simp only[Loc]at h ⊢
  exact⟨(hm.ad z hz).trans h.1,zHJ hm xs z 0 b o gP h.2⟩
 |.any,z,b,o,hz,gP,h|.lit _,z,b,o,hz,gP,h|.ro _,z,b,o,hz,gP,h|.same _ _,z,b,o,hz,gP,h|.addr _ _,z,b,o,hz,gP,h|.sub _ _ _ _ _,z,b,o,hz,gP,h|.sl _ _,z,b,o,hz,gP,h|.ptr _,z,b,o,hz,gP,h|.mp _ _,z,b,o,hz,gP,h=>by
  simp only[Loc]at h ⊢
  obtain⟨h1,h2,h3⟩:=h;have hl:=hm.lb b o jt z hz gP h2;exact⟨(hm.ad z hz).trans h1,hl.1,by rw[hl.2,h3,hm.hd]⟩
 |.tup _,_,_,_,_,_,h=>by simp only[Loc]at h
theorem zHJ(hm:MovesE G w G' w' s p s' p'):(xs:List T)→ ∀(z:List Nat)(j b o:Nat),(∃y,G.ow b=jq (s,y))→vJ G w s xs (z++p) j b o→vJ G' w' s' xs (z++p') j b o
 | [],_,_,_,_,_,_=>by simp only[vJ]
 |x::xs,z,j,b,o,gP,h=>by
  simp only[vJ]at h ⊢
  exact⟨zEb hm x (j::z) b o (by simp) gP h.1,zHJ hm xs z (j+1) b _ gP h.2⟩
end
mutual
theorem zEc(hm:MovesE G w G' w' s p s' p'):(t:T)→ ∀(z:List Nat),z≠[]→xC (zAE G G') t→R St G w s t (z++p)→R St G' w' s' t (z++p')
 |.any,_,_,_,_=>by simp only[R]
 |.lit _,z,_,_,h=>by simp only[R]at h ⊢;rw[hm.hd];exact h
 |.ro _,z,_,_,h=>by simp only[R]at h ⊢;rw[hm.hd];exact h
 |.same r q,z,_,hk,h=>by simp only[R]at h ⊢;rw[hm.hd,hk.1];exact h
 |.addr r q,z,_,hk,h=>by simp only[R]at h ⊢;rw[hm.hd,hk.2];exact h
 |.sub r q k lo hi,z,_,hk,h=>by simp only[R]at h ⊢;rw[hm.hd,hk.1];exact h
 |.agg xs,z,_,hk,h=>by simp only[R,xC]at h hk ⊢;exact zEd hm xs z 0 hk h
 |.tup xs,z,_,hk,h=>by simp only[R,xC]at h hk ⊢;exact zEd hm xs z 0 hk h
 |.sl k xs,z,hz,hk,h=>by
  simp only[R,xC]at h hk ⊢
  rw[hm.hd];rcases h with h|⟨b,o0,cap,cs,e,h1,h2,h3,h4,h5,h6,h7,h8⟩
  ·exact .inl h
  ·obtain⟨cs',fj,gu⟩:=hm.blk b cs e h2
   exact .inr ⟨b,o0,cap,cs',e,h1,fj,h3,h4,by omega,hm.ow b z hz h6,fun o ho fN=>(hm.lb b o js z hz ⟨_,h6⟩ (h7 o ho (by omega))).1,zIO hm xs z 0 b o0 k ⟨_,h6⟩ hk h8⟩
 |.ptr t,z,hz,hk,h=>by
  simp only[R,xC]at h hk ⊢
  rw[hm.hd];obtain⟨b,cs,e,h1,h2,h3,h6,h4,h5⟩:=h;obtain⟨cs',fj,gu⟩:=hm.blk b cs e h2;exact⟨b,cs',e,h1,fj,by omega,hm.ow b z hz h6,zEb hm t (0::z) b 0 (by simp) ⟨_,h6⟩ h4,zEc hm t (0::z) (by simp) hk h5⟩
 |.mp ks xs,z,hz,_,h=>by
  simp only[R]at h ⊢
  rw[hm.hd];obtain⟨b,ms,c,h1,h2,h3,h4⟩:=h;exact⟨b,ms,c,h1,hm.mp b z ms c h3 h2,hm.ow b z hz h3,h4⟩
theorem zIO(hm:MovesE G w G' w' s p s' p'):(xs:List T)→ ∀(z:List Nat)(i b o k:Nat),(∃y,G.ow b=jq (s,y))→xX (zAE G G') xs→RL St G w s xs (z++p) i b o k→RL St G' w' s' xs (z++p') i b o k
 | [],_,_,_,_,_,_,_,_=>by simp only[RL]
 |x::xs,z,i,b,o,k,gP,hk,h=>by
  simp only[RL,xX]at h hk ⊢
  exact⟨⟨zEb hm x (i::z) b o (by simp) gP h.1.1,h.1.2⟩,zEc hm x (i::z) (by simp) hk.1 h.2.1,zIO hm xs z (i+1) b _ k gP hk.2 h.2.2⟩
theorem zEd(hm:MovesE G w G' w' s p s' p'):(xs:List T)→ ∀(z:List Nat)(j:Nat),xX (zAE G G') xs→RF St G w s xs (z++p) j→RF St G' w' s' xs (z++p') j
 | [],_,_,_,_=>by simp only[RF]
 |x::xs,z,j,hk,h=>by
  simp only[RF,xX]at h hk ⊢
  exact⟨zEc hm x (j::z) (by simp) hk.1 h.1,zEd hm xs z (j+1) hk.2 h.2⟩
end
theorem zAn(hm:zGj G w G' w' s p s' p')(t:T)(hk:xC (zAE G G') t)(h:R St G w s t p):R St G' w' s' t p':=by
 have hd0:G'.hd s' p'=G.hd s p:=by simpa using hm.hd []
 cases t with
 |any=>simp only[R]
 |lit _=>simp only[R]at h ⊢;rw[hd0];exact h
 |ro _=>simp only[R]at h ⊢;rw[hd0];exact h
 |same r q=>simp only[R]at h ⊢;rw[hd0,hk.1];exact h
 |addr r q=>simp only[R]at h ⊢;rw[hd0,hk.2];exact h
 |sub r q k lo hi=>simp only[R]at h ⊢;rw[hd0,hk.1];exact h
 |agg xs=>simp only[R,xC]at h hk ⊢;simpa using zEd hm.toMovesE xs [] 0 hk (by simpa using h)
 |tup xs=>simp only[R,xC]at h hk ⊢;simpa using zEd hm.toMovesE xs [] 0 hk (by simpa using h)
 |sl k xs=>
  simp only[R,xC]at h hk ⊢
  rw[hd0];rcases h with h|⟨b,o0,cap,cs,e,h1,h2,h3,h4,h5,h6,h7,h8⟩
  ·exact .inl h
  ·obtain⟨cs',fj,gu⟩:=hm.blk b cs e h2
   exact .inr ⟨b,o0,cap,cs',e,h1,fj,h3,h4,by omega,hm.ow0 b h6,fun o ho fN=>(hm.sp b o ⟨_,h6⟩ (h7 o ho (by omega))).1,by simpa using zIO hm.toMovesE xs [] 0 b o0 k ⟨_,h6⟩ hk (by simpa using h8)⟩
 |ptr t=>
  simp only[R,xC]at h hk ⊢
  rw[hd0];obtain⟨b,cs,e,h1,h2,h3,h6,h4,h5⟩:=h;obtain⟨cs',fj,gu⟩:=hm.blk b cs e h2;exact⟨b,cs',e,h1,fj,by omega,hm.ow0 b h6,zEb hm.toMovesE t [0] b 0 (by simp) ⟨_,h6⟩ h4,zEc hm.toMovesE t [0] (by simp) hk h5⟩
 |mp ks xs=>
  simp only[R]at h ⊢
  rw[hd0];obtain⟨b,ms,c,h1,h2,h3,h4⟩:=h;exact⟨b,ms,c,h1,hm.mp b [] ms c (by simpa using h3) h2,hm.ow0 b h3,h4⟩
theorem zQn(hm:zGj G w G' w' s p s' p')(t:T)(z:List Nat)(hk:xC (zAE G G') t)(h:R St G w s t (z++p)):R St G' w' s' t (z++p'):=by
 cases z with
 |nil=>exact zAn hm t hk h
 |cons i z=>exact zEc hm.toMovesE t (i::z) (by simp) hk h
end
end Go.Ab

namespace Go.Ab
open Go
def T.get:T→List Nat→Option T
 |t,[]=>jq t
 |.sl _ xs,i::f|.agg xs,i::f|.tup xs,i::f=>match xs[i]? with
  |some x=>x.get f
  |none=>jr
 |.ptr t,i::f=>if i=0 then t.get f else jr
 |.any,_::_|.lit _,_::_|.ro _,_::_|.same _ _,_::_|.addr _ _,_::_|.sub _ _ _ _ _,_::_|.mp _ _,_::_=>jr
termination_by structural _ f=>f
def T.set:T→List Nat→T→T
 |_,[],u=>u
 |.sl k xs,i::f,u=>match xs[i]? with
  |some x=>.sl k (xs.set i (x.set f u))
  |none=>.sl k xs
 |.agg xs,i::f,u=>match xs[i]? with
  |some x=>.agg (xs.set i (x.set f u))
  |none=>.agg xs
 |.tup xs,i::f,u=>match xs[i]? with
  |some x=>.tup (xs.set i (x.set f u))
  |none=>.tup xs
 |.ptr t,i::f,u=>if i=0 then .ptr (t.set f u)else .ptr t
 |.any,_::_,_=>.any
 |.lit v,_::_,_=>.lit v
 |.ro t,_::_,_=>.ro t
 |.same r q,_::_,_=>.same r q
 |.addr r q,_::_,_=>.addr r q
 |.sub r q k lo hi,_::_,_=>.sub r q k lo hi
 |.mp ks xs,_::_,_=>.mp ks xs
termination_by structural _ f _=>f
def T.locd:T→List Nat→Bool
 |_,[]=>jt
 |.sl _ _,_::_|.ptr _,_::_=>js
 |.agg xs,i::f|.tup xs,i::f=>match xs[i]? with
  |some x=>x.locd f
  |none=>jt
 |.any,_::_|.lit _,_::_|.ro _,_::_|.same _ _,_::_|.addr _ _,_::_|.sub _ _ _ _ _,_::_|.mp _ _,_::_=>jt
termination_by structural _ f=>f
abbrev rp(f p:List Nat):List Nat:=f.reverse++p
theorem zBn(i:Nat)(f p:List Nat):rp (i::f) p=rp f (i::p):=by simp[rp]
section
variable {St:Stb}{G:Gh}{w:World}{s:Nat}
theorem qC:(xs:List T)→ ∀(p:List Nat)(i0 b o k i:Nat)(x:T),RL St G w s xs p i0 b o k→xs[i]? =jq x→
  Loc G w s x ((i0+i)::p) b (o+i*k)∧x.size=k∧R St G w s x ((i0+i)::p)
 | [],_,_,_,_,_,_,_,_,h=>by simp at h
 |y::ys,p,i0,b,o,k,i,x,hr,h=>by
  simp only[RL]at hr;cases i with
  |zero=>
   simp at h;subst h;simpa using⟨hr.1.1,hr.1.2,hr.2.1⟩
  |succ i=>
   have:=qC ys p (i0+1) b (o+k) k i x hr.2.2 (by simpa using h);rw[show i0+(i+1)=i0+1+i from by omega,show o+(i+1)*k=o+k+i*k from by rw[Ly];omega];exact this
theorem zBy:(xs:List T)→ ∀(p:List Nat)(j i:Nat)(x:T),RF St G w s xs p j→xs[i]? =jq x→R St G w s x ((j+i)::p)
 | [],_,_,_,_,_,h=>by simp at h
 |y::ys,p,j,i,x,hr,h=>by
  simp only[RF]at hr;cases i with
  |zero=>simp at h;subst h;simpa using hr.1
  |succ i=>
   have:=zBy ys p (j+1) i x hr.2 (by simpa using h)
   rwa [show j+(i+1)=j+1+i from by omega]
theorem zJR:(xs:List T)→ ∀(p:List Nat)(j b o i:Nat)(x:T),vJ G w s xs p j b o→xs[i]? =jq x→
  ∃o',Loc G w s x ((j+i)::p) b o'∧o≤o'∧o'+x.size≤o+T.sizes xs
 | [],_,_,_,_,_,_,_,h=>by simp at h
 |y::ys,p,j,b,o,i,x,hr,h=>by
  simp only[vJ]at hr;cases i with
  |zero=>simp at h;subst h;exact⟨o,by simpa using hr.1,by omega,by simp[T.sizes]⟩
  |succ i=>
   obtain⟨o',h1,h2,h3⟩:=zJR ys p (j+1) b (o+y.size) i x hr.2 (by simpa using h);refine⟨o',?_,by omega,by simp only[T.sizes];omega⟩
   rwa [show j+(i+1)=j+1+i from by omega]
def At(G:Gh)(w:World)(s:Nat)(t:T)(p:List Nat):Prop:=
 ∃b o cs e,Loc G w s t p b o∧w.heap[b]? =jq (.cells cs e (0,0))∧o+t.size≤cs.size
theorem At.field{xs:List T}{p:List Nat}(h:At G w s (.agg xs) p){i:Nat}{x:T}(hx:xs[i]? =jq x):At G w s x (i::p):=by obtain⟨b,o,cs,e,hl,hh,hs⟩:=h;simp only[Loc]at hl;obtain⟨o',h1,h2,h3⟩:=zJR xs p 0 b o i x hl.2 hx;simp only[T.size]at hs;exact⟨b,o',cs,e,by simpa using h1,hh,by omega⟩
theorem zCZ{k:Nat}{xs:List T}{p:List Nat}(h:R St G w s (.sl k xs) p){i:Nat}{x:T}(hx:xs[i]? =jq x):
  At G w s x (i::p)∧R St G w s x (i::p):=by
 simp only[R]at h;have hi:=(Ja.1 hx).1;rcases h with⟨rfl,_⟩|⟨b,o0,cap,cs,e,h1,h2,h3,h4,h5,h6,h7,h8⟩
 ·simp at hx
 ·obtain⟨a1,a2,a3⟩:=qC xs p 0 b o0 k i x h8 hx
  simp only[Jc]at a1 a3;refine⟨⟨b,o0+i*k,cs,e,a1,h2,?_⟩,a3⟩;rw[a2,Lu,←Ly];exact Ko (Nat.add_le_add_left (Lh _ (by omega)) _) h5
theorem zB5{t:T}{p:List Nat}(h:R St G w s (.ptr t) p):At G w s t (0::p)∧R St G w s t (0::p):=by simp only[R]at h;obtain⟨b,cs,e,h1,h2,h3,h6,h4,h5⟩:=h;exact⟨⟨b,0,cs,e,h4,h2,by omega⟩,h5⟩
theorem zAU:(f:List Nat)→ ∀(t u:T)(p:List Nat),At G w s t p→R St G w s t p→t.get f=jq u→At G w s u (rp f p)∧R St G w s u (rp f p)
 | [],t,u,p,ha,h,hg=>by simp[T.get]at hg;subst hg;simpa[rp]using⟨ha,h⟩
 |i::f,t,u,p,ha,h,hg=>by
  rw[zBn];cases t with
  |sl k xs=>
   simp only[T.get]at hg;cases hx:xs[i]? with
   |none=>simp[hx]at hg
   |some x=>rw[hx]at hg;exact zAU f x u _ (zCZ h hx).1 (zCZ h hx).2 hg
  |ptr t=>
   simp only[T.get]at hg;split at hg
   ·rename_i hi;subst hi;exact zAU f t u _ (zB5 h).1 (zB5 h).2 hg
   ·cases hg
  |agg xs=>
   simp only[T.get]at hg;cases hx:xs[i]? with
   |none=>simp[hx]at hg
   |some x=>rw[hx]at hg;exact zAU f x u _ (ha.field hx) (by simp only[R]at h;simpa using zBy xs p 0 i x h hx) hg
  |tup xs=>obtain⟨b,o,cs,e,hl,_⟩:=ha;simp only[Loc]at hl
  |_=>simp[T.get]at hg
theorem zBo:(f:List Nat)→ ∀(t u:T)(p:List Nat),R St G w s t p→t.get f=jq u→R St G w s u (rp f p)∧(t.locd f=js→At G w s u (rp f p))
 | [],t,u,p,h,hg=>by simp[T.get]at hg;subst hg;simpa[rp,T.locd]using h
 |i::f,t,u,p,h,hg=>by
  rw[zBn];cases t with
  |sl k xs=>
   simp only[T.get]at hg;cases hx:xs[i]? with
   |none=>simp[hx]at hg
   |some x=>rw[hx]at hg;exact⟨(zAU f x u _ (zCZ h hx).1 (zCZ h hx).2 hg).2,fun _=>(zAU f x u _ (zCZ h hx).1 (zCZ h hx).2 hg).1⟩
  |ptr t=>
   simp only[T.get]at hg;split at hg
   ·rename_i hi;subst hi;exact⟨(zAU f t u _ (zB5 h).1 (zB5 h).2 hg).2,fun _=>(zAU f t u _ (zB5 h).1 (zB5 h).2 hg).1⟩
   ·cases hg
  |agg xs=>
   simp only[T.get,T.locd]at hg ⊢
   cases hx:xs[i]? with
   |none=>simp[hx]at hg
   |some x=>rw[hx]at hg;exact zBo f x u _ (by simp only[R]at h;simpa using zBy xs p 0 i x h hx) hg
  |tup xs=>
   simp only[T.get,T.locd]at hg ⊢
   cases hx:xs[i]? with
   |none=>simp[hx]at hg
   |some x=>rw[hx]at hg;exact zBo f x u _ (by simp only[R]at h;simpa using zBy xs p 0 i x h hx) hg
  |_=>simp[T.get]at hg
end
structure Upd (G:Gh) (w:World) (G':Gh) (w':World) (s:Nat) (tgt:List Nat):Prop where
 hd:∀p,¬tgt<:+p→G'.hd s p=G.hd s p
 ad:∀p,¬tgt<:+p→G'.ad s p=G.ad s p
 lb:∀b o f p,G.lb b o=jq (f,s,p)→ ¬tgt<:+p→G'.lb b o=jq (f,s,p)∧yQ w' b o=yQ w b o
 ow:∀b p,G.ow b=jq (s,p)→ ¬tgt<:+p→G'.ow b=jq (s,p)
 blk:Blk w w'
 mp:∀b p ms c,G.ow b=jq (s,p)→ ¬tgt<:+p→w.heap[b]? =jq (.map ms c)→w'.heap[b]? =jq (.map ms c)
section
variable {St:Stb}{G:Gh}{w:World}{G':Gh}{w':World}{s:Nat}{tgt:List Nat}
theorem Upd.moves(h:Upd G w G' w' s tgt){p:List Nat}(hp:∀z,¬tgt<:+z++p):zGj G w G' w' s p s p where
 hd z:=h.hd _ (hp z)
 ad z _:=h.ad _ (hp z)
 lb b o f z _ _ hl:=h.lb b o f _ hl (hp z)
 ow b z _ hl:=h.ow b _ hl (hp z)
 sp b o _ hl:=h.lb b o js p hl (hp [])
 ow0 b hl:=h.ow b p hl (hp [])
 blk:=h.blk
 mp b z ms c hl hb:=h.mp b _ ms c hl (hp z) hb
mutual
theorem zEe(hm:Upd G w G' w' s tgt):(t:T)→ ∀(p:List Nat)(b o:Nat),(∀z,¬tgt<:+z++p)→Loc G w s t p b o→Loc G' w' s t p b o
 |.agg xs,p,b,o,hz,h=>by
  simp only[Loc]at h ⊢
  exact⟨(hm.ad p (hz [])).trans h.1,zJS hm xs p 0 b o hz h.2⟩
 |.any,p,b,o,hz,h|.lit _,p,b,o,hz,h|.ro _,p,b,o,hz,h|.same _ _,p,b,o,hz,h|.addr _ _,p,b,o,hz,h|.sub _ _ _ _ _,p,b,o,hz,h|.sl _ _,p,b,o,hz,h|.ptr _,p,b,o,hz,h|.mp _ _,p,b,o,hz,h=>by
  simp only[Loc]at h ⊢
  obtain⟨h1,h2,h3⟩:=h;have hl:=hm.lb b o jt p h2 (hz []);exact⟨(hm.ad p (hz [])).trans h1,hl.1,by rw[hl.2,h3,hm.hd p (hz [])]⟩
 |.tup _,_,_,_,_,h=>by simp only[Loc]at h
theorem zJS(hm:Upd G w G' w' s tgt):(xs:List T)→ ∀(p:List Nat)(j b o:Nat),(∀z,¬tgt<:+z++p)→vJ G w s xs p j b o→vJ G' w' s xs p j b o
 | [],_,_,_,_,_,_=>by simp only[vJ]
 |x::xs,p,j,b,o,hz,h=>by
  simp only[vJ]at h ⊢
  exact⟨zEe hm x (j::p) b o (fun z=>by have:=hz (z++[j]);simpa using this) h.1,zJS hm xs p (j+1) b _ hz h.2⟩
end
theorem zJT(hm:Upd G w G' w' s tgt)(t u:T)(p:List Nat)(b o:Nat)(ht:∀xs,t≠.agg xs)(hu:∀xs,u≠.agg xs)(bQ:∀xs,u≠.tup xs)(hz:¬tgt<:+p)(h:Loc G w s t p b o):Loc G' w' s u p b o:=by
 have h3:G.ad s p=⟨b,o,jr⟩∧G.lb b o=jq (jt,s,p)∧yQ w b o=jq (G.hd s p):=by
  cases t with
  |agg xs=>exact absurd rfl (ht xs)
  |tup xs=>simp only[Loc]at h
  |_=>simpa only[Loc]using h
 obtain⟨h1,h2,h3⟩:=h3;have hl:=hm.lb b o jt p h2 hz;have h4:G'.ad s p=⟨b,o,jr⟩∧G'.lb b o=jq (jt,s,p)∧yQ w' b o=jq (G'.hd s p):=⟨(hm.ad p hz).trans h1,hl.1,by rw[hl.2,h3,hm.hd p hz]⟩;cases u with
 |agg xs=>exact absurd rfl (hu xs)
 |tup xs=>exact absurd rfl (bQ xs)
 |_=>simpa only[Loc]using h4
theorem kL{f p:List Nat}{i i':Nat}(hi:i'≠i)(z:List Nat):¬f.reverse++(i::p)<:+z++(i'::p):=by
 rintro⟨y,hy⟩
 rw[←Ji]at hy;have:=List.append_inj_right' hy rfl;simp at this;exact hi this.symm
theorem zAo{f p:List Nat}{i:Nat}:¬f.reverse++(i::p)<:+p:=by intro h;have:=h.length_le;simp at this;omega
theorem zHK:(xs:List T)→ ∀(i:Nat)(x y:T),xs[i]? =jq x→y.size=x.size→T.sizes (xs.set i y)=T.sizes xs
 | [],_,_,_,h,_=>by simp at h
 |z::zs,i,x,y,h,hs=>by
  cases i with
  |zero=>simp at h;subst h;simp[T.sizes,hs]
  |succ i=>simp only[Kk,T.sizes,zHK zs i x y (by simpa using h) hs]
theorem zEf:(f:List Nat)→ ∀(t u u0:T),t.get f=jq u0→u.size=u0.size→(t.set f u).size=t.size
 | [],t,u,u0,h,hs=>by simp[T.get]at h;subst h;simpa[T.set]using hs
 |i::f,t,u,u0,h,hs=>by
  cases t with
  |sl k xs=>simp only[T.get]at h;cases hx:xs[i]? <;>simp[hx,T.set,T.size]at h ⊢
  |tup xs=>simp only[T.get]at h;cases hx:xs[i]? <;>simp[hx,T.set,T.size]at h ⊢
  |agg xs=>
   simp only[T.get]at h;cases hx:xs[i]? with
   |none=>simp[hx]at h
   |some x=>
    rw[hx]at h;simp only[T.set,hx,T.size];exact zHK xs i x _ hx (zEf f x u u0 h hs)
  |ptr t=>simp only[T.get]at h;split at h<;>simp_all [T.set,T.size]
  |_=>simp[T.get]at h
theorem zJU(hm:Upd G w G' w' s tgt):(xs:List T)→ ∀(p:List Nat)(j b o i:Nat)(x y:T),vJ G w s xs p j b o→xs[i]? =jq x→y.size=x.size→
  (∀i',i'≠j+i→ ∀z,¬tgt<:+z++(i'::p))→(∀o',Loc G w s x ((j+i)::p) b o'→Loc G' w' s y ((j+i)::p) b o')→vJ G' w' s (xs.set i y) p j b o
 | [],_,_,_,_,_,_,_,_,h,_,_,_=>by simp at h
 |z::zs,p,j,b,o,i,x,y,hl,h,hs,hz,hy=>by
  simp only[vJ]at hl;cases i with
  |zero=>
   simp at h;subst h;simp only[L5,vJ,hs];exact⟨by simpa using hy o (by simpa using hl.1),LocF_upd' hm zs p (j+1) b _ (fun i' eL=>hz i' (by omega)) hl.2⟩
  |succ i=>
   simp only[Kk,vJ];refine⟨zEe hm z _ b o (hz j (by omega)) hl.1,zJU hm zs p (j+1) b _ i x y hl.2 (by simpa using h) hs (fun i' eL=>hz i' (by omega)) ?_⟩;rw[show j+1+i=j+(i+1)from by omega];exact hy
where LocF_upd' (hm:Upd G w G' w' s tgt):(xs:List T)→ ∀(p:List Nat)(j b o:Nat),(∀i',j≤i'→ ∀z,¬tgt<:+z++(i'::p))→vJ G w s xs p j b o→vJ G' w' s xs p j b o
 | [],_,_,_,_,_,_=>by simp only[vJ]
 |x::xs,p,j,b,o,hz,h=>by
  simp only[vJ]at h ⊢
  exact⟨zEe hm x (j::p) b o (hz j (J7 _)) h.1,LocF_upd' hm xs p (j+1) b _ (fun i' eL=>hz i' (by omega)) h.2⟩
theorem zIP:(f:List Nat)→ ∀(t u u0:T)(p:List Nat)(b o:Nat),Upd G w G' w' s (rp f p)→Loc G w s t p b o→t.get f=jq u0→u.size=u0.size→
  (∀o',Loc G w s u0 (rp f p) b o'→Loc G' w' s u (rp f p) b o')→Loc G' w' s (t.set f u) p b o
 | [],t,u,u0,p,b,o,hm,hl,hg,hs,hu=>by simp[T.get]at hg;subst hg;simpa[T.set,rp]using hu o (by simpa[rp]using hl)
 |i::f,t,u,u0,p,b,o,hm,hl,hg,hs,hu=>by
  have gM:=hm;rw[zBn]at gM;cases t with
  |sl k xs=>
   have:∃ys,(T.sl k xs).set (i::f) u=.sl k ys:=by simp only[T.set];split<;>exact⟨_,rfl⟩
   obtain⟨ys,hy⟩:=this;rw[hy];exact zJT gM (.sl k xs) (.sl k ys) p b o (by simp) (by simp) (by simp) zAo hl
  |ptr t=>
   have:∃ys,(T.ptr t).set (i::f) u=.ptr ys:=by simp only[T.set];split<;>exact⟨_,rfl⟩
   obtain⟨ys,hy⟩:=this;rw[hy];exact zJT gM (.ptr t) (.ptr ys) p b o (by simp) (by simp) (by simp) zAo hl
  |agg xs=>
   simp only[T.get]at hg;cases hx:xs[i]? with
   |none=>simp[hx]at hg
   |some x=>
    rw[hx]at hg;simp only[T.set,hx];simp only[Loc]at hl ⊢
    refine⟨(gM.ad p zAo).trans hl.1,zJU gM xs p 0 b o i x _ hl.2 hx (zEf f x u u0 hg hs) (fun i' eL z=>kL (by omega) z) ?_⟩;intro o' ho';simp only[Jc]at ho' ⊢
    exact zIP f x u u0 (i::p) b o' gM ho' hg hs (by simpa only[zBn]using hu)
  |tup xs=>simp only[Loc]at hl
  |_=>simp[T.get]at hg
end
end Go.Ab

namespace Go.Ab
open Go
section
variable {St:Stb}{G:Gh}{w:World}{G':Gh}{w':World}{s:Nat}{tgt:List Nat}
theorem zNr(hm:Upd G w G' w' s tgt)(t:T)(p:List Nat)(hz:∀z,¬tgt<:+z++p)(hk:xC (zAE G G') t)(h:R St G w s t p):R St G' w' s t p:=by simpa using zQn (hm.moves hz) t [] hk (by simpa using h)
theorem zQo(hm:Upd G w G' w' s tgt):(xs:List T)→ ∀(p:List Nat)(i b o k:Nat),(∀i',i≤i'→ ∀z,¬tgt<:+z++(i'::p))→xX (zAE G G') xs→RL St G w s xs p i b o k→RL St G' w' s xs p i b o k
 | [],_,_,_,_,_,_,_,_=>by simp only[RL]
 |x::xs,p,i,b,o,k,hz,hk,h=>by
  simp only[RL,xX]at h hk ⊢
  exact⟨⟨zEe hm x (i::p) b o (hz i (J7 _)) h.1.1,h.1.2⟩,zNr hm x (i::p) (hz i (J7 _)) hk.1 h.2.1,
   zQo hm xs p (i+1) b _ k (fun i' eL=>hz i' (by omega)) hk.2 h.2.2⟩
theorem zQp(hm:Upd G w G' w' s tgt):(xs:List T)→ ∀(p:List Nat)(i0 b o k i:Nat)(x y:T),RL St G w s xs p i0 b o k→xs[i]? =jq x→y.size=x.size→xX (zAE G G') xs→
  (∀i',i'≠i0+i→ ∀z,¬tgt<:+z++(i'::p))→(∀o',Loc G w s x ((i0+i)::p) b o'→Loc G' w' s y ((i0+i)::p) b o')→R St G' w' s y ((i0+i)::p)→
  RL St G' w' s (xs.set i y) p i0 b o k
 | [],_,_,_,_,_,_,_,_,_,h,_,_,_,_,_=>by simp at h
 |z::zs,p,i0,b,o,k,i,x,y,hr,h,hs,hk,hz,hl,hy=>by
  simp only[RL,xX]at hr hk;cases i with
  |zero=>
   simp at h;subst h;simp only[L5,RL];exact⟨⟨by simpa using hl o (by simpa using hr.1.1),by omega⟩,by simpa using hy,zQo hm zs p (i0+1) b _ k (fun i' eL=>hz i' (by omega)) hk.2 hr.2.2⟩
  |succ i=>
   simp only[Kk,RL];rw[show i0+(i+1)=i0+1+i from by omega]at hl hy hz;exact⟨⟨zEe hm z _ b o (hz i0 (by omega)) hr.1.1,hr.1.2⟩,zNr hm z _ (hz i0 (by omega)) hk.1 hr.2.1,zQp hm zs p (i0+1) b _ k i x y hr.2.2 (by simpa using h) hs hk.2 hz hl hy⟩
theorem zQq(hm:Upd G w G' w' s tgt):(xs:List T)→ ∀(p:List Nat)(i:Nat),(∀i',i≤i'→ ∀z,¬tgt<:+z++(i'::p))→xX (zAE G G') xs→RF St G w s xs p i→RF St G' w' s xs p i
 | [],_,_,_,_,_=>by simp only[RF]
 |x::xs,p,i,hz,hk,h=>by
  simp only[RF,xX]at h hk ⊢
  exact⟨zNr hm x (i::p) (hz i (J7 _)) hk.1 h.1,zQq hm xs p (i+1) (fun i' eL=>hz i' (by omega)) hk.2 h.2⟩
theorem zLR(hm:Upd G w G' w' s tgt):(xs:List T)→ ∀(p:List Nat)(i0 i:Nat)(x y:T),RF St G w s xs p i0→xs[i]? =jq x→xX (zAE G G') xs→
  (∀i',i'≠i0+i→ ∀z,¬tgt<:+z++(i'::p))→R St G' w' s y ((i0+i)::p)→
  RF St G' w' s (xs.set i y) p i0
 | [],_,_,_,_,_,_,h,_,_,_=>by simp at h
 |z::zs,p,i0,i,x,y,hr,h,hk,hz,hy=>by
  simp only[RF,xX]at hr hk;cases i with
  |zero=>
   simp at h;subst h;simp only[L5,RF];exact⟨by simpa using hy,zQq hm zs p (i0+1) (fun i' eL=>hz i' (by omega)) hk.2 hr.2⟩
  |succ i=>
   simp only[Kk,RF];rw[show i0+(i+1)=i0+1+i from by omega]at hy hz;exact⟨zNr hm z _ (hz i0 (by omega)) hk.1 hr.1,zLR hm zs p (i0+1) i x y hr.2 (by simpa using h) hk.2 hz hy⟩
theorem vZ{φ:Nat→List Nat→Prop}:(xs:List T)→xX φ xs→ ∀(i:Nat)(x:T),xs[i]? =jq x→xC φ x
 | [],_,_,_,h=>by simp at h
 |y::ys,hk,i,x,h=>by
  simp only[xX]at hk;cases i with
  |zero=>simp at h;subst h;exact hk.1
  |succ i=>exact vZ ys hk.2 i x (by simpa using h)
theorem zFu:(f:List Nat)→ ∀(t u u0:T)(p:List Nat),Upd G w G' w' s (rp f p)→R St G w s t p→t.get f=jq u0→u.size=u0.size→xC (zAE G G') t→
  (∀b o,Loc G w s u0 (rp f p) b o→Loc G' w' s u (rp f p) b o)→R St G' w' s u (rp f p)→R St G' w' s (t.set f u) p
 | [],t,u,u0,p,hm,hr,hg,hs,hk,hl,hu=>by simpa[T.set,rp]using hu
 |i::f,t,u,u0,p,hm,hr,hg,hs,hk,hl,hu=>by
  have gM:=hm;rw[zBn]at gM hl hu;cases t with
  |sl k xs=>
   simp only[T.get]at hg;cases hx:xs[i]? with
   |none=>simp[hx]at hg
   |some x=>
    rw[hx]at hg;simp only[T.set,hx];simp only[R,xC]at hr hk ⊢
    rcases hr with⟨rfl,_⟩|⟨b,o0,cap,cs,e,h1,h2,h3,h4,h5,h6,h7,h8⟩
    ·simp at hx
    ·obtain⟨cs',fj,gu⟩:=gM.blk b cs e h2
     refine .inr ⟨b,o0,cap,cs',e,by rw[gM.hd p zAo,Kn];exact h1,fj,by rw[Kn];exact h3,h4,by omega,gM.ow b p h6 zAo,?_,?_⟩
     ·intro o ho fN
      rw[Kn]at ho;exact(gM.lb b o js p (h7 o ho (by omega)) zAo).1
     ·have tu:=qC xs p 0 b o0 k i x h8 hx
      simp only[Jc]at tu;refine zQp gM xs p 0 b o0 k i x _ h8 hx (zEf f x u u0 hg hs) hk (fun i' eL z=>kL (by omega) z) ?_ ?_
      ·intro o' ho'
       simp only[Jc]at ho' ⊢
       exact zIP f x u u0 (i::p) b o' gM ho' hg hs (fun o''=>hl b o'')
      ·simp only[Jc]
       exact zFu f x u u0 (i::p) gM tu.2.2 hg hs (vZ xs hk i x hx) hl hu
  |ptr t=>
   simp only[T.get]at hg;split at hg
   ·rename_i hi;subst hi
    simp only[T.set,if_true];simp only[R,xC]at hr hk ⊢
    obtain⟨b,cs,e,h1,h2,h3,h6,h4,h5⟩:=hr;obtain⟨cs',fj,gu⟩:=gM.blk b cs e h2;refine⟨b,cs',e,by rw[gM.hd p zAo];exact h1,fj,by rw[zEf f t u u0 hg hs];omega,gM.ow b p h6 zAo,zIP f t u u0 (0::p) b 0 gM h4 hg hs (fun o''=>hl b o''),zFu f t u u0 (0::p) gM h5 hg hs hk hl hu⟩
   ·cases hg
  |agg xs=>
   simp only[T.get]at hg;cases hx:xs[i]? with
   |none=>simp[hx]at hg
   |some x=>
    rw[hx]at hg;simp only[T.set,hx];simp only[R,xC]at hr hk ⊢
    refine zLR gM xs p 0 i x _ hr hx hk (fun i' eL z=>kL (by omega) z) ?_;simp only[Jc];exact zFu f x u u0 (i::p) gM (by simpa using zBy xs p 0 i x hr hx) hg hs (vZ xs hk i x hx) hl hu
  |tup xs=>
   simp only[T.get]at hg;cases hx:xs[i]? with
   |none=>simp[hx]at hg
   |some x=>
    rw[hx]at hg;simp only[T.set,hx];simp only[R,xC]at hr hk ⊢
    refine zLR gM xs p 0 i x _ hr hx hk (fun i' eL z=>kL (by omega) z) ?_;simp only[Jc];exact zFu f x u u0 (i::p) gM (by simpa using zBy xs p 0 i x hr hx) hg hs (vZ xs hk i x hx) hl hu
  |_=>simp[T.get]at hg
end
end Go.Ab

namespace Go.Ab
open Go
mutual
def vals(G:Gh)(s:Nat):T→List Nat→List Value
 |.agg xs,p=>yJ G s xs p 0
 |.any,p|.lit _,p|.ro _,p|.same _ _,p|.addr _ _,p|.sub _ _ _ _ _,p|.sl _ _,p|.ptr _,p|.tup _,p|.mp _ _,p=>[G.hd s p]
def yJ(G:Gh)(s:Nat):List T→List Nat→Nat→List Value
 | [],_,_=>[]
 |x::xs,p,j=>vals G s x (j::p)++yJ G s xs p (j+1)
end
def sC(G:Gh)(s:Nat)(t:T)(p:List Nat):Value:=
 match t with
 |.agg xs=>.agg (yJ G s xs p 0).toArray
 |_=>G.hd s p
def kM(G:Gh)(s:Nat):List T→List Nat→Nat→List Value
 | [],_,_=>[]
 |x::xs,p,j=>sC G s x (j::p)::kM G s xs p (j+1)
def mkV(G:Gh)(s:Nat)(t:T)(p:List Nat):Value:=
 match t with
 |.agg xs=>.agg (yJ G s xs p 0).toArray
 |.tup xs=>.tuple (kM G s xs p 0).toArray
 |_=>G.hd s p
mutual
def Top:T→Prop
 |.sl _ xs=>xE xs
 |.ptr t=>zZ t
 |.agg xs|.tup xs=>vV xs
 |.any|.lit _|.ro _|.same _ _|.addr _ _|.sub _ _ _ _ _|.mp _ _=>True
def vV:List T→Prop
 | []=>True
 |x::xs=>Top x∧vV xs
end
mutual
theorem Top.of_clean:(t:T)→zZ t→Top t
 |.sl _ xs,h=>by simpa only[Top,zZ,xC]using h
 |.ptr t,h=>by simpa only[Top,zZ,xC]using h
 |.agg xs,h|.tup xs,h=>by simp only[Top];exact vV.of_clean xs (by simpa only[zZ,xC]using h)
 |.any,_|.lit _,_|.ro _,_|.same _ _,_|.addr _ _,_|.sub _ _ _ _ _,_|.mp _ _,_=>by simp only[Top]
theorem vV.of_clean:(xs:List T)→xE xs→vV xs
 | [],_=>by simp only[vV]
 |x::xs,h=>by simp only[vV];exact⟨Top.of_clean x h.1,vV.of_clean xs h.2⟩
end
abbrev Chg:=List (Nat×Nat)
def Off(chg:Chg)(s:Nat)(p:List Nat):Prop:=∀n,(s,n)∈chg→p.length<n
def zAF(chg:Chg)(r:Nat)(p:List Nat):Bool:=chg.all fun c=>c.1 != r||decide (p.length<c.2)
theorem zOI{chg:Chg}{r:Nat}{p:List Nat}(h:zAF chg r p=js):Off chg r p:=by
 intro n hn;have:=Jr.1 h _ hn
 grind
mutual
def T.okB(chg:Chg):T→Bool
 |.same r p|.addr r p|.sub r p _ _ _=>zAF chg r p
 |.agg xs|.tup xs=>zJV chg xs
 |.any|.lit _|.ro _|.sl _ _|.ptr _|.mp _ _=>js
def zJV(chg:Chg):List T→Bool
 | []=>js
 |x::xs=>x.okB chg&&zJV chg xs
end
mutual
theorem zAK{chg:Chg}:(t:T)→Top t→t.okB chg=js→xC (Off chg) t
 |.same r p,_,h|.addr r p,_,h|.sub r p _ _ _,_,h=>by simp only[T.okB]at h;simp only[xC];exact zOI h
 |.agg xs,ht,h|.tup xs,ht,h=>by simp only[T.okB,Top]at h ht;simp only[xC];exact zGk xs ht h
 |.sl _ xs,ht,_=>by simp only[Top]at ht;simp only[xC];grind[xX.mono]
 |.ptr t,ht,_=>by simp only[Top]at ht;simp only[xC];grind[xC.mono]
 |.any,_,_|.lit _,_,_|.ro _,_,_|.mp _ _,_,_=>by simp only[xC]
theorem zGk{chg:Chg}:(xs:List T)→vV xs→zJV chg xs=js→xX (Off chg) xs
 | [],_,_=>by simp only[xX]
 |x::xs,ht,h=>by simp only[zJV,vV,J3]at h ht;simp only[xX];exact⟨zAK x ht.1 h.1,zGk xs ht.2 h.2⟩
end
abbrev Env:=Nat→Option T
abbrev Wr:=List (Nat×Option T)
def Wr.find(wr:Wr)(s:Nat):Option (Option T):=
 match wr with
 | []=>jr
 |(k,x)::r=>if k=s then jq x else Wr.find r s
def Env.app(E:Env)(wr:Wr)(chg:Chg):Env:=fun s=>
 match wr.find s with
 |some x=>x
 |none=>match E s with
  |some t=>if t.okB chg then jq t else jr
  |none=>jr
structure Ctx where
 St:Stb
 W:Nat→Prop
 w0:World
 N:Nat
def zBp(Γ:Ctx)(w:World)(b:Nat):Prop:=b<w.heap.size∧(Γ.w0.heap.size≤b∨Γ.W b)∧Γ.St b=jr
structure zTB (w w':World):Prop where
 blk:Blk w w'
 os:w'.os=w.os
 out:w'.output=w.output
structure Mem (Γ:Ctx) (G:Gh) (w:World):Prop where
 one:∀s p,(G.hd s p).oneCell'=js
 lb:∀b o l,G.lb b o=jq l→zBp Γ w b
 ow:∀b l,G.ow b=jq l→zBp Γ w b
 st:∀b x,Γ.St b=jq x→w.heap[b]? =jq x
 fr:∀b,b<Γ.w0.heap.size→ ¬Γ.W b→w.heap[b]? =Γ.w0.heap[b]?
 sz:Γ.w0.heap.size≤w.heap.size
 bk:zTB Γ.w0 w
theorem Blk.trans{w w' w'':World}(h:Blk w w')(h':Blk w' w''):Blk w w'':=fun b cs e hb=>by
 obtain⟨cs',h1,h2⟩:=h b cs e hb;obtain⟨cs'',h3,h4⟩:=h' b cs' e h1
 grind
theorem zTB.trans{w w' w'':World}(h:zTB w w')(h':Blk w' w'')(ho:w''.os=w'.os)(hq:w''.output=w'.output):zTB w w'':=⟨h.blk.trans h',ho.trans h.os,hq.trans h.out⟩
def Ent(Γ:Ctx)(G:Gh)(w:World)(v:Option Value)(s:Nat)(t:T):Prop:=v=jq (mkV G s t [])∧R Γ.St G w s t []∧Top t
structure Rep (Γ:Ctx) (E:Env) (G:Gh) (tmps:Array Value) (w:World):Prop where
 size:tmps.size=Γ.N
 ent:∀s t,E s=jq t→Ent Γ G w tmps[s]? s t
 mem:Mem Γ G w
def Sim(Γ:Ctx)(E:Env)(a:Act)(w:World):Prop:=a.defers=[]∧ ∃G,Rep Γ E G a.tmps w
structure zDy (S S':Stb) (W:Nat→Prop) (n:Nat):Prop where
 le:∀b x,S b=jq x→S' b=jq x
 nw:∀b,S b=jr→S' b≠jr→n≤b∨W b
theorem zDy.refl{S:Stb}{W:Nat→Prop}{n:Nat}:zDy S S W n:=⟨fun _ _ h=>h,by grind⟩
theorem zDy.trans{S S' S'':Stb}{W:Nat→Prop}{n:Nat}(h:zDy S S' W n)(h':zDy S' S'' W n):zDy S S'' W n:=
 ⟨fun b x hb=>h'.le b x (h.le b x hb),fun b hb eh=>by
  cases hs:S' b with
  |none=>exact h'.nw b hs eh
  |some x=>exact h.nw b hb (by grind)⟩
abbrev Ctx.at(Γ:Ctx)(S:Stb):Ctx:={ Γ with St:=S }
def jW(Γ:Ctx)(E:Env)(a:Act)(w:World):Prop:=∃S,zDy Γ.St S Γ.W Γ.w0.heap.size∧Sim (Γ.at S) E a w
theorem jW.of{Γ:Ctx}{E:Env}{a:Act}{w:World}(h:Sim Γ E a w):jW Γ E a w:=⟨Γ.St,.refl,h⟩
theorem jW.up{Γ:Ctx}{E:Env}{a:Act}{w:World}{S:Stb}(hS:zDy Γ.St S Γ.W Γ.w0.heap.size)(h:jW (Γ.at S) E a w):jW Γ E a w:=by obtain⟨S',h1,h2⟩:=h;exact⟨S',hS.trans h1,h2⟩
structure sG (chg:Chg) (G:Gh) (w:World) (G':Gh) (w':World):Prop where
 hd:∀s p,Off chg s p→G'.hd s p=G.hd s p
 ad:∀s p,Off chg s p→G'.ad s p=G.ad s p
 lb:∀b o f s p,(∃y,G.ow b=jq (s,y))→G.lb b o=jq (f,s,p)→(∀n,(s,n)∉chg)→G'.lb b o=jq (f,s,p)∧yQ w' b o=yQ w b o
 ow:∀b s p,G.ow b=jq (s,p)→(∀n,(s,n)∉chg)→G'.ow b=jq (s,p)
 blk:Blk w w'
 mp:∀b s p ms c,G.ow b=jq (s,p)→(∀n,(s,n)∉chg)→w.heap[b]? =jq (.map ms c)→w'.heap[b]? =jq (.map ms c)
theorem Off.of_not{chg:Chg}{s:Nat}(h:∀n,(s,n)∉chg)(p:List Nat):Off chg s p:=fun n hn=>absurd hn (h n)
section
variable {Γ:Ctx}{G G':Gh}{w w':World}{s:Nat}{chg:Chg}
mutual
theorem zBq{s':Nat}:(t:T)→ ∀(p p':List Nat),(∀z,G'.hd s' (z++p')=G.hd s (z++p))→vals G' s' t p'=vals G s t p
 |.agg xs,p,p',h=>by simp only[vals];exact zEg xs p p' 0 h
 |.any,p,p',h|.lit _,p,p',h|.ro _,p,p',h|.same _ _,p,p',h|.addr _ _,p,p',h|.sub _ _ _ _ _,p,p',h|.sl _ _,p,p',h|.ptr _,p,p',h|.tup _,p,p',h|.mp _ _,p,p',h=>by simp only[vals];rw[show G'.hd s' p'=G.hd s p from by simpa using h []]
theorem zEg{s':Nat}:(xs:List T)→ ∀(p p':List Nat)(j:Nat),(∀z,G'.hd s' (z++p')=G.hd s (z++p))→yJ G' s' xs p' j=yJ G s xs p j
 | [],_,_,_,_=>by rfl
 |x::xs,p,p',j,h=>by simp only[yJ];rw[zBq x (j::p) (j::p') (fun z=>by have:=h (z++[j]);grind),zEg xs p p' (j+1) h]
end
theorem zBT{s':Nat}(t:T)(p p':List Nat)(h:∀z,G'.hd s' (z++p')=G.hd s (z++p)):sC G' s' t p'=sC G s t p:=by
 unfold sC;split
 ·grind[zEg]
 ·simpa using h []
theorem zNs{s':Nat}:(xs:List T)→ ∀(p p':List Nat)(j:Nat),(∀z,G'.hd s' (z++p')=G.hd s (z++p))→kM G' s' xs p' j=kM G s xs p j
 | [],_,_,_,_=>by rfl
 |x::xs,p,p',j,h=>by simp only[kM];rw[zBT x (j::p) (j::p') (fun z=>by have:=h (z++[j]);simpa using this),zNs xs p p' (j+1) h]
theorem zEN{s':Nat}(t:T)(p p':List Nat)(h:∀z,G'.hd s' (z++p')=G.hd s (z++p)):mkV G' s' t p'=mkV G s t p:=by
 unfold mkV;split
 ·grind[zEg]
 ·grind[zNs]
 ·simpa using h []
theorem sG.moves(hk:sG chg G w G' w')(hs:∀n,(s,n)∉chg)(p:List Nat):zGj G w G' w' s p s p where
 hd _:=hk.hd _ _ (.of_not hs _)
 ad _ _:=hk.ad _ _ (.of_not hs _)
 lb b o f _ _ gP hl:=hk.lb b o f s _ gP hl hs
 ow b _ _ hl:=hk.ow b s _ hl hs
 sp b o gP hl:=hk.lb b o js s _ gP hl hs
 ow0 b hl:=hk.ow b s _ hl hs
 blk:=hk.blk
 mp b _ ms c hl hb:=hk.mp b s _ ms c hl hs hb
theorem sG.keepR(hk:sG chg G w G' w'){t:T}(h:xC (Off chg) t):xC (zAE G G') t:=
 xC.mono (fun r p hr=>⟨hk.hd r p hr,hk.ad r p hr⟩) t h
theorem Ent.keep(hk:sG chg G w G' w')(hs:∀n,(s,n)∉chg){v:Option Value}{t:T}(ht:t.okB chg=js)(h:Ent Γ G w v s t):Ent Γ G' w' v s t:=by
 obtain⟨h1,h2,h3⟩:=h;refine⟨?_,?_,h3⟩
 ·rw[h1,zEN t [] [] (fun z=>hk.hd _ _ (.of_not hs _))]
 ·simpa using zQn (hk.moves hs []) t [] (hk.keepR (zAK t h3 ht)) (by grind)
end
theorem wQ{Γ:Ctx}{E:Env}{G G':Gh}{tmps tmps':Array Value}{w w':World}{wr:Wr}{chg:Chg}(h:Rep Γ E G tmps w)
  (gL:tmps'.size=tmps.size)(hk:sG chg G w G' w')(gz:Mem Γ G' w')
  (gp:∀s,wr.find s=jr→(∀n,(s,n)∉chg)∧tmps'[s]? =tmps[s]?)
  (gQ:∀s t,wr.find s=jq (jq t)→Ent Γ G' w' tmps'[s]? s t):Rep Γ (E.app wr chg) G' tmps' w' where
 size:=by rw[gL,h.size]
 mem:=gz
 ent s t hs:=by
  unfold Env.app at hs;cases hf:wr.find s with
  |some x=>
   grind
  |none=>
   rw[hf]at hs;simp at hs;cases he:E s with
   |none=>grind
   |some u=>
    simp[he]at hs;obtain⟨gD,rfl⟩:=hs;rw[(gp s hf).2];exact Ent.keep hk (gp s hf).1 gD (h.ent s u he)
end Go.Ab

namespace Go.Ab
open Go
mutual
def cpT(s:Nat):T→List Nat→T
 |.lit v,_=>.lit v
 |.ro t,_=>.ro t
 |.same r q,_=>.same r q
 |.addr r q,_=>.addr r q
 |.sub r q k lo hi,_=>.sub r q k lo hi
 |.agg xs,p=>.agg (cpF s xs p 0)
 |.any,p|.sl _ _,p|.ptr _,p|.mp _ _,p|.tup _,p=>.same s p
def cpF(s:Nat):List T→List Nat→Nat→List T
 | [],_,_=>[]
 |x::xs,p,j=>cpT s x (j::p)::cpF s xs p (j+1)
end
mutual
theorem qR(s:Nat):(t:T)→ ∀p,Top (cpT s t p)
 |.agg xs,p=>by simp only[cpT,Top];exact zNt s xs p 0
 |.lit _,_|.ro _,_|.same _ _,_|.addr _ _,_|.sub _ _ _ _ _,_|.any,_|.sl _ _,_|.ptr _,_|.mp _ _,_|.tup _,_=>by simp only[cpT,Top]
theorem zNt(s:Nat):(xs:List T)→ ∀p j,vV (cpF s xs p j)
 | [],_,_=>by simp only[cpF,vV]
 |x::xs,p,j=>by simp only[cpF,vV];exact⟨qR s x _,zNt s xs p _⟩
end
section
variable {St:Stb}{G G':Gh}{w w':World}{s d:Nat}
mutual
theorem zDB(hs:∀p,G'.hd s p=G.hd s p):(t:T)→ ∀(p p':List Nat),(∀z,G'.hd d (z++p')=G.hd s (z++p))→(∀xs,t≠.tup xs)→xC (zAE G G') (cpT s t p)→R St G w s t p→R St G' w' d (cpT s t p) p'
 |.lit _,p,p',hd,_,_,h=>by simp only[cpT,R]at h ⊢;rw[show G'.hd d p'=_ from by simpa using hd []];exact h
 |.ro _,p,p',hd,_,_,h=>by simp only[cpT,R]at h ⊢;rw[show G'.hd d p'=_ from by simpa using hd []];exact h
 |.same r q,p,p',hd,_,hk,h=>by simp only[cpT,R,xC]at h hk ⊢;rw[show G'.hd d p'=_ from by simpa using hd [],hk.1];exact h
 |.addr r q,p,p',hd,_,hk,h=>by simp only[cpT,R,xC]at h hk ⊢;rw[show G'.hd d p'=_ from by simpa using hd [],hk.2];exact h
 |.sub r q k lo hi,p,p',hd,_,hk,h=>by simp only[cpT,R,xC]at h hk ⊢;rw[show G'.hd d p'=_ from by simpa using hd [],hk.1];exact h
 |.any,p,p',hd,_,_,_|.sl _ _,p,p',hd,_,_,_|.ptr _,p,p',hd,_,_,_|.mp _ _,p,p',hd,_,_,_=>by simp only[cpT,R];rw[show G'.hd d p'=_ from by simpa using hd [],hs]
 |.tup xs,_,_,_,h,_,_=>absurd rfl (h xs)
 |.agg xs,p,p',hd,_,hk,h=>by simp only[cpT,R,xC]at h hk ⊢;exact zIQ hs xs p p' 0 hd hk h
theorem zIQ(hs:∀p,G'.hd s p=G.hd s p):(xs:List T)→ ∀(p p':List Nat)(j:Nat),(∀z,G'.hd d (z++p')=G.hd s (z++p))→xX (zAE G G') (cpF s xs p j)→RF St G w s xs p j→RF St G' w' d (cpF s xs p j) p' j
 | [],_,_,_,_,_,_=>by simp only[cpF,RF]
 |x::xs,p,p',j,hd,hk,h=>by
  simp only[cpF,RF,xX]at h hk ⊢
  refine⟨?_,zIQ hs xs p p' (j+1) hd hk.2 h.2⟩
  by_cases hx:∃ys,x=.tup ys
  ·obtain⟨ys,rfl⟩:=hx
   simp only[cpT,R];rw[show G'.hd d (j::p')=_ from by simpa using hd [j],hs]
  ·exact zDB hs x (j::p) (j::p') (fun z=>by have:=hd (z++[j]);simpa using this) (fun ys e=>hx ⟨ys,e⟩) hk.1 h.1
end
mutual
theorem zOJ:(t:T)→ ∀(p p':List Nat),(∀z,G'.hd d (z++p')=G.hd s (z++p))→vals G' d (cpT s t p) p'=vals G s t p
 |.agg xs,p,p',h=>by simp only[cpT,vals];exact zDC xs p p' 0 h
 |.any,p,p',h|.lit _,p,p',h|.ro _,p,p',h|.same _ _,p,p',h|.addr _ _,p,p',h|.sub _ _ _ _ _,p,p',h|.sl _ _,p,p',h|.ptr _,p,p',h|.mp _ _,p,p',h|.tup _,p,p',h=>by simp only[cpT,vals];rw[show G'.hd d p'=G.hd s p from by simpa using h []]
theorem zDC:(xs:List T)→ ∀(p p':List Nat)(j:Nat),(∀z,G'.hd d (z++p')=G.hd s (z++p))→yJ G' d (cpF s xs p j) p' j=yJ G s xs p j
 | [],_,_,_,_=>by rfl
 |x::xs,p,p',j,h=>by simp only[cpF,yJ];rw[zOJ x (j::p) (j::p') (fun z=>by have:=h (z++[j]);grind),zDC xs p p' (j+1) h]
end
theorem zAV(t:T)(p p':List Nat)(ht:∀xs,t≠.tup xs)(h:∀z,G'.hd d (z++p')=G.hd s (z++p)):mkV G' d (cpT s t p) p'=sC G s t p:=by
 cases t with
 |agg xs=>grind[cpT,mkV,sC,zDC]
 |tup xs=>grind
 |_=>simpa[cpT,mkV,sC]using h []
end
theorem zAw(G:Gh)(s:Nat)(t:T)(p:List Nat)(ht:∀xs,t≠.tup xs):mkV G s t p=sC G s t p:=by
 cases t with
 |tup xs=>grind
 |_=>rfl
def Gh.put(G:Gh)(d:Nat)(f:List Nat→Value):Gh:={ G with hd:=fun s z=>if s=d then f z else G.hd s z }
theorem Gh.put_other(G:Gh){d s:Nat}(f:List Nat→Value)(p:List Nat)(h:s≠d):(G.put d f).hd s p=G.hd s p:=by simp[Gh.put,h]
theorem Gh.put_self(G:Gh)(d:Nat)(f:List Nat→Value)(p:List Nat):(G.put d f).hd d p=f p:=by simp[Gh.put]
theorem zQr{d s:Nat}{p:List Nat}(h:Off [(d,0)] s p):s≠d:=by
 rintro rfl
 exact absurd (h 0 (by simp)) (by simp)
theorem Gh.put_keep(G:Gh){w w':World}(hw:w'.heap=w.heap)(d:Nat)(f:List Nat→Value):sG [(d,0)] G w (G.put d f) w' where
 hd s p h:=G.put_other f p (zQr h)
 ad _ _ _:=rfl
 lb b o f' s p _ h _:=⟨h,by grind[yQ,World.cell?]⟩
 ow b s p h _:=h
 blk b cs e h:=by grind
 mp b s p ms c _ _ h:=by grind
theorem Mem.put{Γ:Ctx}{G:Gh}{w w':World}(h:Mem Γ G w)(hw:w'.heap=w.heap)(d:Nat)(f:List Nat→Value)(hf:∀z,(f z).oneCell'=js)(ho:w'.os=w.os:=by rfl)(hq:w'.output=w.output:=by rfl):Mem Γ (G.put d f) w' where
 one s p:=by unfold Gh.put;dsimp only;split;exact hf p;exact h.one s p
 lb b o l hl:=by have:=h.lb b o l hl;exact⟨by rw[hw];exact this.1,this.2⟩
 ow b l hl:=by have:=h.ow b l hl;exact⟨by rw[hw];exact this.1,this.2⟩
 st b x hx:=by rw[hw];exact h.st b x hx
 fr b h1 h2:=by rw[hw];exact h.fr b h1 h2
 sz:=by rw[hw];exact h.sz
 bk:=h.bk.trans (fun b cs e hb=>by grind) ho hq
theorem uL(d:Nat)(x:Option T)(s:Nat):Wr.find [(d,x)] s=if d=s then jq x else jr:=by rfl
theorem vH{Γ:Ctx}{E:Env}{G:Gh}{tmps:Array Value}{w w':World}(h:Rep Γ E G tmps w)(hw:w'.heap=w.heap){d:Nat}(hd:d<Γ.N)
  (f:List Nat→Value)(hf:∀z,(f z).oneCell'=js)(t:T)(v:Value)(hv:v=mkV (G.put d f) d t [])(hr:R Γ.St (G.put d f) w' d t [])(ht:Top t)(ho:w'.os=w.os:=by rfl)(hq:w'.output=w.output:=by rfl):
  Rep Γ (E.app [(d,jq t)] [(d,0)]) (G.put d f) (tmps.setIfInBounds d v) w':=by
 refine wQ h (by simp) (G.put_keep hw d f) (h.mem.put hw d f hf ho hq) ?_ ?_
 ·grind[uL]
 ·intro s t' hs
  rw[uL]at hs;split at hs
  ·rename_i he
   subst he;simp at hs;subst hs;refine⟨?_,hr,ht⟩;rw[J6];simp[h.size,hd,hv]
  ·cases hs
def wC(P:Program)(Γ:Ctx)(o:Oper)(E E':Env):Prop:=
 ∀(a:Act)(w:World)(K:Act→World→Prop)(Q:Exit→Act→World→Prop),Sim Γ E a w→(∀a' w',jW Γ E' a' w'→K a' w')→o.wp P a w K Q
def opT(E:Env):Operand→Option T
 |.tmp s=>E s
 |.const v=>if v.oneCell' then jq (.lit v)else jr
 |.func f=>jq (.lit (.func (.func f) #[] #[]))
 |.global _=>jr
def uY(x:Operand)(t:T):T:=match x with
 |.tmp s=>cpT s t []
 |_=>t
section
variable {P:Program}{Γ:Ctx}{E E':Env}{o:Oper}{d:Nat}
theorem wG{a:Act}{s:Nat}{v:Value}(h:a.tmps[s]? =jq v):a.eval (.tmp s)=v:=by simp[Act.eval,Ka,h]
theorem wC.value(ho:o.dst=jq d)
  (h:∀(a:Act)(w:World)(G:Gh),Rep Γ E G a.tmps w→ ∃v w',(execOp a.eval o).run P w=.ok (.value v) w'∧ ∃G',Rep Γ E' G' (a.tmps.setIfInBounds d v) w'):wC P Γ o E E':=by
 intro a w K Q ⟨gJ,G,gc⟩ hK;obtain⟨v,w',gx,G',eS⟩:=h a w G gc;unfold Oper.wp;rw[gx,Oper.upon_value];refine hK _ _ ?_;rw[ho];exact .of ⟨gJ,G',eS⟩
theorem wC.skip(ho:o.dst=jr)
  (h:∀(a:Act)(w:World)(G:Gh),Rep Γ E G a.tmps w→ ∃w',(execOp a.eval o).run P w=.ok .skip w'∧ ∃G',Rep Γ E' G' a.tmps w'):wC P Γ o E E':=by
 intro a w K Q ⟨gJ,G,gc⟩ hK;obtain⟨w',gx,G',eS⟩:=h a w G gc;unfold Oper.wp;rw[gx,Oper.upon_skip];refine hK _ _ ?_;rw[ho];exact .of ⟨gJ,G',eS⟩
theorem opd{G:Gh}{a:Act}{w:World}(gc:Rep Γ E G a.tmps w){x:Operand}{t:T}(hx:opT E x=jq t)(ht:∀xs,t≠.tup xs):
  ∃f:List Nat→Value,(∀z,(f z).oneCell'=js)∧(∀d,(∀s,x=.tmp s→s≠d)→T.okB [(d,0)] (uY x t)=js→
   a.eval x=mkV (G.put d f) d (uY x t) []∧R Γ.St (G.put d f) w d (uY x t) [])∧Top (uY x t):=by
 cases x with
 |tmp s=>
  obtain⟨h1,h2,h3⟩:=gc.ent s t hx;refine⟨fun z=>G.hd s z,fun z=>gc.mem.one s z,?_,qR s t []⟩;intro d gf gD;have ek:=gf s rfl;have hk:=G.put_keep (w:=w) (w':=w) rfl d (fun z=>G.hd s z);have hz:∀z,(G.put d (fun z=>G.hd s z)).hd d (z++[])=G.hd s (z++[]):=by grind[Gh.put_self]
  refine⟨?_,?_⟩
  ·grind[wG,uY,zAV,zAw]
  ·exact zDB (fun p=>G.put_other _ p ek) t [] [] hz ht (hk.keepR (zAK _ (qR s t []) gD)) h2
 |const v=>
  simp only[opT]at hx;split at hx
  ·rename_i gn
   simp at hx;subst hx;exact⟨fun _=>v,fun _=>gn,fun d _ _=>⟨by simp[Act.eval,uY,mkV,Gh.put],by simp[uY,R,Gh.put]⟩,by simp[uY,Top]⟩
  ·cases hx
 |func f=>
  simp only[opT]at hx;simp at hx;subst hx;exact⟨fun _=>.func (.func f) #[] #[],fun _=>rfl,fun d _ _=>⟨by simp[Act.eval,uY,mkV,Gh.put],by simp[uY,R,Gh.put]⟩,by simp[uY,Top]⟩
 |global g=>cases hx
theorem zNu(x:Operand)(t:T)(ho:o.op=.move x∨o.op=.assign x)(gg:o.dst=jq d)(hd:d<Γ.N)(hx:opT E x=jq t)(ht:∀xs,t≠.tup xs)
  (gf:∀s,x=.tmp s→s≠d)(gD:T.okB [(d,0)] (uY x t)=js):wC P Γ o E (E.app [(d,jq (uY x t))] [(d,0)]):=by
 refine wC.value gg fun a w G gc=>?_
 obtain⟨f,hf,h1,h2⟩:=opd gc hx ht;obtain⟨h3,h4⟩:=h1 d gf gD;refine⟨a.eval x,w,?_,_,vH gc rfl hd f hf _ _ h3 h4 h2⟩;rcases ho with ho|ho<;>simp[execOp,ho]
theorem xD{G:Gh}{a:Act}{w:World}(gc:Rep Γ E G a.tmps w){x:Operand}{v:Value}(hx:opT E x=jq (.lit v)):a.eval x=v∧v.oneCell'=js:=by
 cases x with
 |tmp s=>
  obtain⟨h1,h2,_⟩:=gc.ent s _ hx;simp only[R]at h2;refine⟨?_,by rw[←h2];exact gc.mem.one s []⟩
  grind[wG,mkV]
 |const u=>
  simp only[opT]at hx;split at hx
  ·simp at hx;subst hx;exact⟨rfl,by assumption⟩
  ·cases hx
 |func f=>simp only[opT]at hx;simp at hx;subst hx;exact⟨rfl,rfl⟩
 |global g=>cases hx
theorem tX(v:Value)(hv:v.oneCell'=js)(gg:o.dst=jq d)(hd:d<Γ.N)
  (h:∀(a:Act)(w:World)(G:Gh),Rep Γ E G a.tmps w→(execOp a.eval o).run P w=.ok (.value v) w):wC P Γ o E (E.app [(d,jq (.lit v))] [(d,0)]):=by
 refine wC.value gg fun a w G gc=>?_
 exact⟨v,w,h a w G gc,_,vH gc rfl hd (fun _=>v) (fun _=>hv) (.lit v) v (by simp[mkV,Gh.put]) (by simp[R,Gh.put]) (by simp[Top])⟩
def zIR(op:BinOp)(k:IntKind)(a b:Int):Option Value:=
 match op with
 |.add=>jq (.int k (k.wrap (a+b)))
 |.sub=>jq (.int k (k.wrap (a-b)))
 |.mul=>jq (.int k (k.wrap (a*b)))
 |.quo=>if b=0 then jr else jq (.int k (k.wrap (a.tdiv b)))
 |.rem=>if b=0 then jr else jq (.int k (a.tmod b))
 |.eql=>jq (.bool (a==b))
 |.neq=>jq (.bool (a != b))
 |.lss=>jq (.bool (decide (a<b)))
 |.leq=>jq (.bool (decide (a≤b)))
 |.gtr=>jq (.bool (decide (a> b)))
 |.geq=>jq (.bool (decide (a≥b)))
 |_=>jr
theorem zQs{op:BinOp}{k:IntKind}{a b:Int}{v:Value}(h:zIR op k a b=jq v):v.oneCell'=js:=by cases op<;>simp[zIR]at h<;>first|(subst h;rfl)|(obtain⟨_,rfl⟩:=h;rfl)
theorem uF(op:BinOp)(xt yt:TypeId)(x y:Operand)(k:IntKind)(m n:Int)(v:Value)(ho:o.op=.binOp op xt x y yt)(gg:o.dst=jq d)(hd:d<Γ.N)
  (hx:opT E x=jq (.lit (.int k m)))(hy:opT E y=jq (.lit (.int k n)))(hv:zIR op k m n=jq v):wC P Γ o E (E.app [(d,jq (.lit v))] [(d,0)]):=by
 refine tX v (zQs hv) gg hd fun a w G gc=>?_
 have h1:=(xD gc hx).1;have h2:=(xD gc hy).1;cases op<;>simp[zIR]at hv<;>
  first
   |(subst hv;simp[execOp,ho,h1,h2,eqGuard,binOp,Op.intArith,Op.intCmp];done)
   |(obtain⟨h0,rfl⟩:=hv;simp[execOp,ho,h1,h2,eqGuard,binOp,Op.intDiv,h0])
theorem zWY(xt:TypeId)(x:Operand)(b:Bool)(ho:o.op=.unOp .not xt x)(gg:o.dst=jq d)(hd:d<Γ.N)
  (hx:opT E x=jq (.lit (.bool b))):wC P Γ o E (E.app [(d,jq (.lit (.bool !b)))] [(d,0)]):=by
 refine tX _ rfl gg hd fun a w G gc=>?_
 have h1:=(xD gc hx).1;simp[execOp,ho,h1,Op.unary]
theorem zWZ(xt:TypeId)(x:Operand)(k:IntKind)(n:Int)(ho:o.op=.unOp .neg xt x)(gg:o.dst=jq d)(hd:d<Γ.N)
  (hx:opT E x=jq (.lit (.int k n))):wC P Γ o E (E.app [(d,jq (.lit (.int k (k.wrap (0-n)))))] [(d,0)]):=by
 refine tX _ rfl gg hd fun a w G gc=>?_
 have h1:=(xD gc hx).1;simp[execOp,ho,h1,Op.unary,Op.intArith]
theorem zTC(src dst:TypeId)(ds:TypeDesc)(x:Operand)(k k':IntKind)(n:Int)(ho:o.op=.convert src dst x)(gg:o.dst=jq d)(hd:d<Γ.N)
  (hs:P.underlying src=jq ds)(ht:P.underlying dst=jq (.int k'))(hx:opT E x=jq (.lit (.int k n))):
  wC P Γ o E (E.app [(d,jq (.lit (.int k' (k'.wrap n))))] [(d,0)]):=by
 refine tX _ rfl gg hd fun a w G gc=>?_
 have h1:=(xD gc hx).1;simp[execOp,ho,h1,convert,run_underlying hs,run_underlying ht,Conv.intToInt]
theorem zTD(c x y:Operand)(b:Bool)(t:T)(ho:o.op=.pick c x y)(gg:o.dst=jq d)(hd:d<Γ.N)
  (hc:opT E c=jq (.lit (.bool b)))(hx:opT E (if b then x else y)=jq t)(ht:∀xs,t≠.tup xs)
  (gf:∀s,(if b then x else y)=.tmp s→s≠d)(gD:T.okB [(d,0)] (uY (if b then x else y) t)=js):wC P Γ o E (E.app [(d,jq (uY (if b then x else y) t))] [(d,0)]):=by
 refine wC.value gg fun a w G gc=>?_
 obtain⟨f,hf,h1,h2⟩:=opd gc hx ht;obtain⟨h3,h4⟩:=h1 d gf gD;refine⟨a.eval (if b then x else y),w,?_,_,vH gc rfl hd f hf _ _ h3 h4 h2⟩;have h5:=(xD gc hc).1;cases b<;>simp[execOp,ho,h5,asBool]
end
end Go.Ab

namespace Go.Ab
open Go
def qU(E:Env):Nat→Nat→List Nat→Option (Nat×List Nat×T)
 |0,_,_=>jr
 |n+1,r,q=>match E r with
  |some t=>match t.get q.reverse with
   |some (.same r' q')=>qU E n r' q'
   |some u=>jq (r,q,u)
   |none=>jr
  |none=>jr
def uJ(E:Env):Operand→Option (Nat×List Nat×T)
 |.tmp s=>qU E 4 s []
 |_=>jr
def T.single:T→Bool
 |.agg _|.tup _=>jt
 |_=>js
theorem xF{G:Gh}{s:Nat}{t:T}{p:List Nat}(h:t.single=js):mkV G s t p=G.hd s p:=by cases t<;>simp[T.single]at h<;>rfl
section
variable {P:Program}{Γ:Ctx}{E:Env}{o:Oper}{d:Nat}
theorem zDa{G:Gh}{a:Act}{w:World}(gc:Rep Γ E G a.tmps w):∀(n s:Nat)(p:List Nat)(r:Nat)(q:List Nat)(u:T),qU E n s p=jq (r,q,u)→
  R Γ.St G w r u q∧G.hd s p=G.hd r q∧(∃t,E r=jq t∧t.get q.reverse=jq u)
 |0,_,_,_,_,_,h=>by simp[qU]at h
 |n+1,s,p,r,q,u,h=>by
  simp only[qU]at h;split at h
  ·rename_i t ht
   obtain⟨_,h4,_⟩:=gc.ent _ _ ht;split at h
   ·rename_i r' q' hg
    obtain⟨h1,h2,h3⟩:=zDa gc n r' q' r q u h;have h5:=(zBo p.reverse t _ [] h4 hg).1;simp only[rp,Ki,Jk,R]at h5;exact⟨h1,h5.trans h2,h3⟩
   ·rename_i u' aC hg
    simp at h;obtain⟨rfl,rfl,rfl⟩:=h;have h5:=(zBo p.reverse t _ [] h4 hg).1;simp only[rp,Ki,Jk]at h5;exact⟨h5,rfl,t,ht,hg⟩
   ·cases h
  ·cases h
theorem qD{G:Gh}{a:Act}{w:World}(gc:Rep Γ E G a.tmps w){x:Operand}{r:Nat}{q:List Nat}{u:T}(h:uJ E x=jq (r,q,u))(hu:u.single=js):
  R Γ.St G w r u q∧a.eval x=G.hd r q:=by
 cases x with
 |tmp s=>
  obtain⟨h1,h2,_⟩:=zDa gc 4 s [] r q u h;refine⟨h1,?_⟩;rw[←h2];simp only[uJ,qU]at h;split at h
  ·rename_i t ht
   obtain⟨h3,_,_⟩:=gc.ent s _ ht;rw[wG h3];simp only[H7,T.get]at h;have:t.single=js:=by cases t<;>first|rfl|(simp at h;obtain⟨_,_,rfl⟩:=h;simp[T.single]at hu)
   exact xF this
  ·cases h
 |_=>simp[uJ]at h
theorem zIS{St:Stb}{G:Gh}{w:World}{s:Nat}{k:Nat}{xs:List T}{p:List Nat}(h:R St G w s (.sl k xs) p):∃a c,G.hd s p=.slice a xs.length c:=by
 simp only[R]at h;rcases h with⟨rfl,a,h⟩|⟨b,_,cap,_,_,h,_⟩
 ·exact⟨a,0,h⟩
 ·exact⟨_,_,h⟩
theorem zDb{St:Stb}{G:Gh}{w:World}{s:Nat}{k:Nat}{xs:List T}{p:List Nat}(h:R St G w s (.ro (.sl k xs)) p):∃a c,G.hd s p=.slice a xs.length c∧xs.length≤c∧c≤maxLen∧
   (xs≠[]→ ∃b o' cs' e fr,a=jq ⟨b,o',jr⟩∧St b=jq (.cells cs' e fr)∧RoL St xs cs' o' k):=by
 simp only[R,RoC]at h;obtain⟨a,c,h1,h2,h3,h4⟩:=h;exact⟨a,c,by simpa using h1,h2,h3,h4⟩
def zJW:T→Option Nat
 |.sl _ xs|.ro (.sl _ xs)=>jq xs.length
 |.lit (.slice _ n _)=>jq n
 |.lit (.string s)=>jq s.size
 |_=>jr
def zTE:T→TypeDesc→Bool
 |.lit (.string _),.string=>js
 |.sl _ _,.slice _|.ro (.sl _ _),.slice _|.lit (.slice _ _ _),.slice _=>js
 |_,_=>jt
theorem zQt(x:Operand)(t:TypeId)(ds:TypeDesc)(r:Nat)(q:List Nat)(u:T)(n:Nat)(ho:o.op=.call { callee:=.builtin .len,args:=#[x],argTypes:=#[t] })(gg:o.dst=jq d)(hd:d<Γ.N)
  (ht:P.underlying t=jq ds)(hx:uJ E x=jq (r,q,u))(hl:zJW u=jq n)(pR:zTE u ds=js):
  wC P Γ o E (E.app [(d,jq (.lit (.int .i64 n)))] [(d,0)]):=by
 refine tX (.int .i64 n) rfl gg hd fun a w G gc=>?_
 have hu:u.single=js:=by cases u<;>simp[zJW]at hl<;>rfl
 obtain⟨h1,h2⟩:=qD gc hx hu;have h3:(Builtin.len_ #[t] o.type #[G.hd r q]).run P w=.ok (.int .i64 n) w:=by
  cases u with
  |sl k xs=>
   obtain⟨a',c,h4⟩:=zIS h1;simp[zJW]at hl;subst hl;cases ds<;>simp[zTE]at pR
   simp[Builtin.len_,run_underlying ht,h4,goInt]
  |ro t'=>
   cases t'<;>simp[zJW]at hl
   obtain⟨a',c,h4,_⟩:=zDb h1;subst hl;cases ds<;>simp[zTE]at pR
   simp[Builtin.len_,run_underlying ht,h4,goInt]
  |lit v=>
   simp only[R]at h1;cases v<;>simp[zJW]at hl<;>(subst hl;cases ds<;>simp[zTE]at pR;simp[Builtin.len_,run_underlying ht,h1,goInt])
  |_=>simp[zJW]at hl
 simp[execOp,ho,resolve,invoke,builtin,h2,h3]
theorem zCw{G:Gh}{w:World}{s:Nat}{t:T}{p:List Nat}{b o:Nat}(h:Loc G w s t p b o):G.ad s p=⟨b,o,jr⟩:=by cases t<;>simp only[Loc]at h<;>first|exact h.1|exact h.elim
theorem uG(b o n:Nat):(⟨b,o,jr⟩:Addr).add n=⟨b,o+n,jr⟩:=by
 unfold Addr.add;split
 ·rename_i h;subst h;rfl
 ·rfl
theorem zTF{St:Stb}{G:Gh}{w:World}{s:Nat}{k:Nat}{xs:List T}{p:List Nat}(h:R St G w s (.sl k xs) p){i:Nat}(hi:i<xs.length):
  ∃b o0 cap,G.hd s p=.slice (jq ⟨b,o0,jr⟩) xs.length cap∧G.ad s (i::p)=⟨b,o0+i*k,jr⟩:=by
 simp only[R]at h;rcases h with⟨rfl,_⟩|⟨b,o0,cap,cs,e,h1,h2,h3,h4,h5,h6,h7,h8⟩
 ·simp at hi
 ·have:=(qC xs p 0 b o0 k i xs[i] h8 (by simp[hi])).1
  simp only[Jc]at this;exact⟨b,o0,cap,h1,zCw this⟩
theorem zQu(x y:Operand)(t e:TypeId)(ti:TypeInfo)(r:Nat)(q:List Nat)(k:Nat)(xs:List T)(kd:IntKind)(i:Int)(ho:o.op=.indexAddr t x y)(gg:o.dst=jq d)(hd:d<Γ.N)
  (ht:P.underlying t=jq (.slice e))(he:P.info? e=jq ti)(hk:ti.size=k)(hx:uJ E x=jq (r,q,.sl k xs))(hy:opT E y=jq (.lit (.int kd i)))(h0:0≤i)(h1:i.toNat<xs.length):
  wC P Γ o E (E.app [(d,jq (.addr r (i.toNat::q)))] [(d,0)]):=by
 refine wC.value gg fun a w G gc=>?_
 obtain⟨g1,g2⟩:=qD gc hx rfl;have g3:=(xD gc hy).1;obtain⟨b,o0,cap,g4,g5⟩:=zTF g1 h1;refine⟨.pointer (jq (G.ad r (i.toNat::q))),w,?_,_,vH gc rfl hd (fun _=>.pointer (jq (G.ad r (i.toNat::q)))) (fun _=>rfl) _ _ (by simp[mkV,Gh.put]) (by simp[R,Gh.put]) (by simp[Top])⟩;have gE:i<(xs.length:Int):=by omega
 simp[execOp,ho,Instr.indexAt,g3,g2,g4,asIntOf,run_underlying ht,h0,gE,sizeOf,typeInfo,he,hk,uG,g5]
theorem zFO{St:Stb}:(xs:List T)→ ∀(cs:Array Value)(o k i:Nat)(x:T),RoL St xs cs o k→xs[i]? =jq x→RoC St x cs (o+i*k)
 | [],_,_,_,_,_,_,h=>by simp at h
 |y::ys,cs,o,k,i,x,hr,h=>by
  simp only[RoL]at hr;cases i with
  |zero=>simp at h;subst h;simpa using hr.1
  |succ i=>
   have:=zFO ys cs (o+k) k i x hr.2 (by simpa using h)
   rwa [show o+(i+1)*k=o+k+i*k from by rw[Ly];omega]
theorem zNv{St:Stb}:(xs:List T)→ ∀(cs:Array Value)(o i:Nat)(x:T),RoF St xs cs o→xs[i]? =jq x→RoC St x cs (o+T.sizes (xs.take i))
 | [],_,_,_,_,_,h=>by simp at h
 |y::ys,cs,o,i,x,hr,h=>by
  simp only[RoF]at hr;cases i with
  |zero=>simp at h;subst h;simpa[T.sizes]using hr.1
  |succ i=>
   have:=zNv ys cs (o+y.size) i x hr.2 (by simpa using h)
   rwa [L4,T.sizes,←Lu]
theorem zQv(x y:Operand)(t e:TypeId)(ti:TypeInfo)(r:Nat)(q:List Nat)(k:Nat)(xs:List T)(kd:IntKind)(i:Int)(u:T)(ho:o.op=.indexAddr t x y)(gg:o.dst=jq d)(hd:d<Γ.N)
  (ht:P.underlying t=jq (.slice e))(he:P.info? e=jq ti)(hk:ti.size=k)(hx:uJ E x=jq (r,q,.ro (.sl k xs)))(hy:opT E y=jq (.lit (.int kd i)))(h0:0≤i)(h1:xs[i.toNat]? =jq u):
  wC P Γ o E (E.app [(d,jq (.ro (.ptr u)))] [(d,0)]):=by
 refine wC.value gg fun a w G gc=>?_
 obtain⟨g1,g2⟩:=qD gc hx rfl;have g3:=(xD gc hy).1;have iQ:i.toNat<xs.length:=(Ja.1 h1).1;obtain⟨a',c,g4,_,_,g5⟩:=zDb g1;obtain⟨b,o',cs',e',fr,rfl,g6,g7⟩:=g5 (by rintro rfl;simp at iQ);have g8:=zFO xs cs' o' k i.toNat u g7 h1;refine⟨.pointer (jq ⟨b,o'+i.toNat*k,jr⟩),w,?_,_,vH gc rfl hd (fun _=>.pointer (jq ⟨b,o'+i.toNat*k,jr⟩)) (fun _=>rfl) _ _ (by simp[mkV,Gh.put]) ?_ (by simp[Top])⟩
 ·have gE:i<(xs.length:Int):=by omega
  simp[execOp,ho,Instr.indexAt,g3,g2,g4,asIntOf,run_underlying ht,h0,gE,sizeOf,typeInfo,he,hk,uG]
 ·simp only[R,Gh.put_self,RoC]
  exact⟨b,_,cs',e',fr,by simp,g6,g8⟩
theorem zEh:(xs:List T)→ ∀{G:Gh}{w:World}{s:Nat}(p:List Nat)(j b o i:Nat)(x:T),vJ G w s xs p j b o→xs[i]? =jq x→
  Loc G w s x ((j+i)::p) b (o+T.sizes (xs.take i))
 | [],_,_,_,_,_,_,_,_,_,_,h=>by simp at h
 |y::ys,G,w,s,p,j,b,o,i,x,hr,h=>by
  simp only[vJ]at hr;cases i with
  |zero=>simp at h;subst h;simpa[T.sizes]using hr.1
  |succ i=>
   have:=zEh ys p (j+1) b (o+y.size) i x hr.2 (by simpa using h)
   rwa [show j+(i+1)=j+1+i from by omega,L4,T.sizes,←Lu]
theorem tT{P:Program}{w:World}(a:Addr):(Instr.sureAddr (.pointer (jq a))).run P w=.ok a w:=rfl
theorem zCx{P:Program}{w:World}{S:TypeId}{fs:Array Field}{f:Field}{fi:TypeInfo}{j:Nat}{b o':Nat}(hS:P.underlying S=jq (.struct fs))(hf:fs[j]? =jq f)(hi:P.info? f.type=jq fi)(hz:fi.size≠0):
  (Instr.fieldAt S (.pointer (jq ⟨b,o',jr⟩)) j).run P w=.ok (.pointer (jq ⟨b,o'+f.offset,jr⟩)) w:=by
 simp[Instr.fieldAt,run_underlying hS,hf,tT,fieldPlace,sizeOf,typeInfo,hi,hz,uG]
theorem zYJ(x:Operand)(S:TypeId)(fs:Array Field)(f:Field)(fi:TypeInfo)(j:Nat)(r:Nat)(q:List Nat)(xs:List T)(u:T)(ho:o.op=.fieldAddr S x j)(gg:o.dst=jq d)(hd:d<Γ.N)
  (hS:P.underlying S=jq (.struct fs))(hf:fs[j]? =jq f)(hi:P.info? f.type=jq fi)(hz:fi.size≠0)(hx:uJ E x=jq (r,q,.ptr (.agg xs)))(hu:xs[j]? =jq u)(gC:T.sizes (xs.take j)=f.offset):
  wC P Γ o E (E.app [(d,jq (.addr r (j::0::q)))] [(d,0)]):=by
 refine wC.value gg fun a w G gc=>?_
 obtain⟨g1,g2⟩:=qD gc hx rfl;simp only[R]at g1;obtain⟨b,cs,e,g4,_,_,_,g5,_⟩:=g1;simp only[Loc]at g5;have g6:=zEh xs (0::q) 0 b 0 j u g5.2 hu;simp only[Jc]at g6;refine⟨.pointer (jq (G.ad r (j::0::q))),w,?_,_,vH gc rfl hd (fun _=>.pointer (jq (G.ad r (j::0::q)))) (fun _=>rfl) _ _ (by simp[mkV,Gh.put]) (by simp[R,Gh.put]) (by simp[Top])⟩;have g7:=zCx (w:=w) (b:=b) (o':=0) hS hf hi hz;simp[execOp,ho,g2,g4,g7,zCw g6,gC]
theorem zLS(x:Operand)(S:TypeId)(fs:Array Field)(f:Field)(fi:TypeInfo)(j:Nat)(r:Nat)(q:List Nat)(t:T)(xs:List T)(u:T)(ho:o.op=.fieldAddr S x j)(gg:o.dst=jq d)(hd:d<Γ.N)
  (hS:P.underlying S=jq (.struct fs))(hf:fs[j]? =jq f)(hi:P.info? f.type=jq fi)(hz:fi.size≠0)(hx:opT E x=jq (.addr r q))(hr:E r=jq t)(hg:t.get q.reverse=jq (.agg xs))(hl:t.locd q.reverse=js)
  (hu:xs[j]? =jq u)(gC:T.sizes (xs.take j)=f.offset):
  wC P Γ o E (E.app [(d,jq (.addr r (j::q)))] [(d,0)]):=by
 refine wC.value gg fun a w G gc=>?_
 cases x with
 |tmp s=>
  obtain⟨h1,h2,_⟩:=gc.ent s _ hx;obtain⟨_,h4,_⟩:=gc.ent r _ hr;simp only[R]at h2;obtain⟨b,o',cs,e,h6,_,_⟩:=(zBo q.reverse t _ [] h4 hg).2 hl;simp only[rp,Ki,Jk]at h6;have h7:=zCw h6;simp only[Loc]at h6;have g6:=zEh xs q 0 b o' j u h6.2 hu;simp only[Jc]at g6;refine⟨.pointer (jq (G.ad r (j::q))),w,?_,_,vH gc rfl hd (fun _=>.pointer (jq (G.ad r (j::q)))) (fun _=>rfl) _ _ (by simp[mkV,Gh.put]) (by simp[R,Gh.put]) (by simp[Top])⟩;have g7:=zCx (w:=w) (b:=b) (o':=o') hS hf hi hz;simp[execOp,ho,wG h1,mkV,h2,h7,g7,zCw g6,gC]
 |const v=>simp only[opT]at hx;split at hx<;>simp at hx
 |func f=>simp[opT]at hx
 |global g=>simp[opT]at hx
theorem zGl{G:Gh}{a:Act}{w:World}(gc:Rep Γ E G a.tmps w){x:Operand}{u:T}(hx:opT E x=jq (.ro u)):RoC Γ.St u #[a.eval x] 0:=by
 cases x with
 |tmp s=>
  obtain⟨h1,h2,_⟩:=gc.ent s _ hx;simp only[R]at h2;rw[wG h1,xF rfl];exact h2
 |const v=>simp only[opT]at hx;split at hx<;>simp at hx
 |func f=>simp[opT]at hx
 |global g=>simp[opT]at hx
theorem zQw(x:Operand)(S:TypeId)(fs:Array Field)(f:Field)(fi:TypeInfo)(j:Nat)(xs:List T)(u:T)(ho:o.op=.fieldAddr S x j)(gg:o.dst=jq d)(hd:d<Γ.N)
  (hS:P.underlying S=jq (.struct fs))(hf:fs[j]? =jq f)(hi:P.info? f.type=jq fi)(hz:fi.size≠0)(hx:opT E x=jq (.ro (.ptr (.agg xs))))(hu:xs[j]? =jq u)(gC:T.sizes (xs.take j)=f.offset):
  wC P Γ o E (E.app [(d,jq (.ro (.ptr u)))] [(d,0)]):=by
 refine wC.value gg fun a w G gc=>?_
 have h1:=zGl gc hx;simp only[RoC]at h1;obtain⟨b,o',cs',e,fr,h2,h3,h4⟩:=h1;have h5:=zNv xs cs' o' j u h4 hu;refine⟨.pointer (jq ⟨b,o'+f.offset,jr⟩),w,?_,_,vH gc rfl hd (fun _=>.pointer (jq ⟨b,o'+f.offset,jr⟩)) (fun _=>rfl) _ _ (by simp[mkV,Gh.put]) ?_ (by simp[Top])⟩
 ·have g7:=zCx (w:=w) (b:=b) (o':=o') hS hf hi hz
  have h6:a.eval x=.pointer (jq ⟨b,o',jr⟩):=by simpa using h2
  simp[execOp,ho,h6,g7]
 ·simp only[R,Gh.put_self,RoC]
  exact⟨b,o'+f.offset,cs',e,fr,by simp,h3,by rw[←gC];exact h5⟩
def zGm:TypeDesc→Bool
 |.struct _|.array _ _=>js
 |_=>jt
theorem kN{P:Program}{w:World}{t:TypeId}{ds:TypeDesc}(ht:P.underlying t=jq ds):(isAgg t).run P w=.ok (zGm ds) w:=by cases ds<;>simp[isAgg,run_underlying ht,zGm]
theorem vA{G:Gh}{w:World}{s:Nat}{t:T}{p:List Nat}{b o:Nat}(ht:t.single=js)(h:Loc G w s t p b o):G.ad s p=⟨b,o,jr⟩∧G.lb b o=jq (jt,s,p)∧yQ w b o=jq (G.hd s p):=by cases t<;>simp[T.single]at ht<;>simpa only[Loc]using h
mutual
theorem zQx{G:Gh}{w:World}{s:Nat}:(t:T)→ ∀(p:List Nat)(b o:Nat),Loc G w s t p b o→ ∀(i:Nat)(v:Value),(vals G s t p)[i]? =jq v→yQ w b (o+i)=jq v
 |.agg xs,p,b,o,h,i,v,hv=>by simp only[Loc,vals]at h hv;exact zAS xs p 0 b o h.2 i v hv
 |.any,p,b,o,h,i,v,hv|.lit _,p,b,o,h,i,v,hv|.ro _,p,b,o,h,i,v,hv|.same _ _,p,b,o,h,i,v,hv|.addr _ _,p,b,o,h,i,v,hv|.sub _ _ _ _ _,p,b,o,h,i,v,hv|.sl _ _,p,b,o,h,i,v,hv|.ptr _,p,b,o,h,i,v,hv|.mp _ _,p,b,o,h,i,v,hv=>by
  simp only[Loc,vals]at h hv;cases i with
  |zero=>simp at hv;rw[←hv];exact h.2.2
  |succ i=>simp at hv
 |.tup _,_,_,_,h,_,_,_=>by simp only[Loc]at h
theorem zAS{G:Gh}{w:World}{s:Nat}:(xs:List T)→ ∀(p:List Nat)(j b o:Nat),vJ G w s xs p j b o→ ∀(i:Nat)(v:Value),(yJ G s xs p j)[i]? =jq v→yQ w b (o+i)=jq v
 | [],_,_,_,_,_,i,v,hv=>by simp[yJ]at hv
 |x::xs,p,j,b,o,h,i,v,hv=>by
  simp only[vJ,yJ]at h hv;rw[Kb]at hv;split at hv
  ·exact zQx x (j::p) b o h.1 i v hv
  ·rename_i hge
   have gv:=vF (G:=G) (s:=s) x (j::p) (fun ys e=>by subst e;simp only[Loc]at h;exact h.1);have:=zAS xs p (j+1) b (o+x.size) h.2 _ v hv
   rwa [show o+x.size+(i-(vals G s x (j::p)).length)=o+i from by omega]at this
theorem vF{G:Gh}{s:Nat}:(t:T)→ ∀(p:List Nat),(∀xs,t≠.tup xs)→(vals G s t p).length=t.size
 |.agg xs,p,_=>by simp only[vals,T.size];exact wP xs p 0
 |.any,_,_|.lit _,_,_|.ro _,_,_|.same _ _,_,_|.addr _ _,_,_|.sub _ _ _ _ _,_,_|.sl _ _,_,_|.ptr _,_,_|.mp _ _,_,_|.tup _,_,_=>by simp[vals,T.size]
theorem wP{G:Gh}{s:Nat}:(xs:List T)→ ∀(p:List Nat)(j:Nat),(yJ G s xs p j).length=T.sizes xs
 | [],_,_=>by simp[yJ,T.sizes]
 |x::xs,p,j=>by
  simp only[yJ,J8,T.sizes,wP xs p (j+1)]
  by_cases hx:∃ys,x=.tup ys
  ·obtain⟨ys,rfl⟩:=hx;simp[vals,T.size]
  ·rw[vF x (j::p) (fun ys e=>hx ⟨ys,e⟩)]
end
theorem zFv{P:Program}{G:Gh}{w:World}{s:Nat}{t:T}{p:List Nat}{b o':Nat}{T':TypeId}{ds:TypeDesc}{ti:TypeInfo}(hT:P.underlying T'=jq ds)(hi:P.info? T'=jq ti)(hl:Loc G w s t p b o')
  (eI:zGm ds= !t.single)(gu:ti.size=t.size):(loadVar T' ⟨b,o',jr⟩).run P w=.ok (sC G s t p) w:=by
 cases t with
 |agg xs=>
  have h1:=run_loadCells_list (P:=P) (w:=w) ⟨b,o',jr⟩ (yJ G s xs p 0) (fun j v hv=>by rw[uG];simp only[Loc]at hl;exact zAS xs p 0 b o' hl.2 j v hv)
  rw[wP]at h1;simp only[T.size]at gu;simp[T.single]at eI;simp[loadVar,kN hT,eI,sizeOf,typeInfo,hi,gu,h1,sC]
 |tup xs=>simp only[Loc]at hl
 |_=>
  have h1:=(vA rfl hl).2.2;simp[T.single]at eI;simp only[yQ]at h1;simp[loadVar,kN hT,eI,load,Sem.run,h1,sC]
def zBr(Γ:Ctx)(E:Env)(x:Operand)(r:Nat)(q:List Nat):Prop:=∀(a:Act)(w:World)(G:Gh),Rep Γ E G a.tmps w→a.eval x=.pointer (jq (G.ad r q))
theorem zBr.addr{x:Operand}{r:Nat}{q:List Nat}(hx:opT E x=jq (.addr r q)):zBr Γ E x r q:=fun a w G gc=>by
 cases x with
 |tmp s=>
  obtain⟨h1,h2,_⟩:=gc.ent s _ hx;simp only[R]at h2;rw[wG h1];exact h2
 |const v=>simp only[opT]at hx;split at hx<;>simp at hx
 |func f=>simp[opT]at hx
 |global g=>simp[opT]at hx
theorem zBr.ptr{x:Operand}{r:Nat}{q:List Nat}{t:T}(hx:uJ E x=jq (r,q,.ptr t)):zBr Γ E x r (0::q):=fun a w G gc=>by obtain⟨g1,g2⟩:=qD gc hx rfl;simp only[R]at g1;obtain⟨b,cs,e,g4,_,_,_,g5,_⟩:=g1;rw[g2,g4,zCw g5]
theorem zJX(x:Operand)(T':TypeId)(ds:TypeDesc)(ti:TypeInfo)(r:Nat)(q:List Nat)(t u:T)(ho:o.op=.load T' x)(gg:o.dst=jq d)(hd:d<Γ.N)
  (hT:P.underlying T'=jq ds)(hi:P.info? T'=jq ti)(eI:zGm ds= !u.single)(gu:ti.size=u.size)
  (hx:zBr Γ E x r q)(hr:E r=jq t)(hg:t.get q.reverse=jq u)(hl:t.locd q.reverse=js)(gB:r≠d)(gD:T.okB [(d,0)] (cpT r u q)=js):
  wC P Γ o E (E.app [(d,jq (cpT r u q))] [(d,0)]):=by
 refine wC.value gg fun a w G gc=>?_
 have bG:=hx a w G gc;obtain⟨_,h4,_⟩:=gc.ent r _ hr;obtain⟨h5,h6⟩:=zBo q.reverse t u [] h4 hg;obtain⟨b,o',cs,e,h6,_,_⟩:=h6 hl;simp only[rp,Ki,Jk]at h5 h6;have gU:∀xs,u≠.tup xs:=by rintro xs rfl;simp only[Loc]at h6
 have h7:=zCw h6;have hz:∀z,(G.put d (fun z=>G.hd r (z++q))).hd d (z++[])=G.hd r (z++q):=fun z=>by rw[Gh.put_self,Jk]
 have hk:=G.put_keep (w:=w) (w':=w) rfl d (fun z=>G.hd r (z++q));refine⟨sC G r u q,w,?_,_,vH gc rfl hd (fun z=>G.hd r (z++q)) (fun z=>gc.mem.one _ _) _ _ (zAV u q [] gU hz).symm
  (zDB (fun p=>G.put_other _ p gB) u q [] hz gU (hk.keepR (zAK _ (qR r u q) gD)) h5) (qR r u q)⟩
 have h8:=zFv (T':=T') hT hi h6 eI gu;simp[execOp,ho,bG,h7,Instr.loadAt,tT,h8]
theorem zTG(x:Operand)(T':TypeId)(ds:TypeDesc)(ti:TypeInfo)(r:Nat)(q:List Nat)(t u:T)(ho:o.op=.load T' x)(gg:o.dst=jq d)(hd:d<Γ.N)
  (hT:P.underlying T'=jq ds)(hi:P.info? T'=jq ti)(eI:zGm ds= !u.single)(gu:ti.size=u.size)
  (hx:opT E x=jq (.addr r q))(hr:E r=jq t)(hg:t.get q.reverse=jq u)(hl:t.locd q.reverse=js)(gB:r≠d)(gD:T.okB [(d,0)] (cpT r u q)=js):
  wC P Γ o E (E.app [(d,jq (cpT r u q))] [(d,0)]):=zJX x T' ds ti r q t u ho gg hd hT hi eI gu (zBr.addr hx) hr hg hl gB gD
def roT:T→T
 |.lit v=>.lit v
 |.agg xs=>.agg (roTs xs)
 |.ro t=>.ro (.ro t)
 |.any=>.any
 |.same r q=>.ro (.same r q)
 |.addr r q=>.ro (.addr r q)
 |.sub r q k lo hi=>.ro (.sub r q k lo hi)
 |.sl k xs=>.ro (.sl k xs)
 |.ptr t=>.ro (.ptr t)
 |.tup xs=>.ro (.tup xs)
 |.mp ks xs=>.ro (.mp ks xs)
where roTs:List T→List T
 | []=>[]
 |x::xs=>roT x::roTs xs
end
end Go.Ab

namespace Go.Ab
open Go
def kO(v:Value):Value:=if v.oneCell' then v else .bool jt
theorem zB6(v:Value):(kO v).oneCell'=js:=by
 unfold kO;split
 ·assumption
 ·rfl
theorem zAL{v:Value}(h:v.oneCell'=js):kO v=v:=by simp[kO,h]
def zDD:T→Array Value→Nat→List Nat→Value
 |.agg xs,cs,o,i::f=>match xs[i]? with
  |some x=>zDD x cs (o+T.sizes (xs.take i)) f
  |none=>.bool jt
 |_,cs,o,_=>cs.getD o (.bool jt)
termination_by structural _ _ _ f=>f
theorem zBs{t:T}(h:t.single=js)(cs:Array Value)(o:Nat)(f:List Nat):zDD t cs o f=cs.getD o (.bool jt):=by cases t<;>simp[T.single]at h<;>cases f<;>rfl
mutual
theorem zEi:(u:T)→(∀xs,u≠.tup xs)→(roT u).size=u.size
 |.agg xs,_=>by simp only[roT,T.size];exact zEO xs
 |.lit _,_|.any,_|.sl _ _,_|.ptr _,_|.mp _ _,_|.ro _,_|.same _ _,_|.addr _ _,_|.sub _ _ _ _ _,_|.tup _,_=>by simp[roT,T.size]
theorem zEO:(xs:List T)→T.sizes (roT.roTs xs)=T.sizes xs
 | []=>by simp only[roT.roTs]
 |x::xs=>by
  simp only[roT.roTs,T.sizes,zEO xs]
  by_cases hx:∃ys,x=.tup ys
  ·obtain⟨ys,rfl⟩:=hx;simp[roT,T.size]
  ·rw[zEi x (fun ys e=>hx ⟨ys,e⟩)]
end
section
variable {St:Stb}{G:Gh}{w:World}{d:Nat}
theorem zEj{u:T}{cs:Array Value}{o:Nat}(hu:u.single=js)(h:RoC St u cs o):∃v,cs[o]? =jq v∧v.oneCell'=js∧RoC St u #[v] 0:=by
 cases u<;>simp[T.single]at hu<;>simp only[RoC]at h ⊢
 ·obtain⟨v,h1,h2⟩:=h;exact⟨v,h1,h2,v,by simp,h2⟩
 ·exact⟨_,h.1,h.2,by simp,h.2⟩
 ·obtain⟨f,vs,h1,h2⟩:=h;exact⟨_,h1,rfl,f,vs,by simp,h2⟩
 ·obtain⟨a,c,h1,h2⟩:=h;exact⟨_,h1,rfl,a,c,by simp,h2⟩
 ·obtain⟨b,o',cs',e,fr,h1,h2⟩:=h;exact⟨_,h1,rfl,b,o',cs',e,fr,by simp,h2⟩
mutual
theorem zQy:(u:T)→ ∀(cs:Array Value)(o:Nat)(p:List Nat),(∀z,G.hd d (z++p)=kO (zDD u cs o z.reverse))→RoC St u cs o→R St G w d (roT u) p
 |.agg xs,cs,o,p,hd,h=>by
  simp only[roT,R,RoC]at h ⊢
  exact zQz xs cs o p 0 o (by simp) (fun z j x hx=>by have:=hd (z++[j]);simp only[Ji,G5,Jy,Q8,Hy,H7,zDD]at this;rw[Jc,this];simp[hx]) h
 |.lit v,cs,o,p,hd,h=>by
  simp only[roT,R,RoC]at h ⊢
  have:=hd [];rw[Jy,zBs rfl]at this;rw[this];simp[Ka,h.1,zAL h.2]
 |.any,_,_,_,_,_=>by simp only[roT,R]
 |.ro _,cs,o,p,hd,h|.sl _ _,cs,o,p,hd,h|.ptr _,cs,o,p,hd,h|.mp _ _,cs,o,p,hd,h=>by obtain⟨v,h1,h2,h3⟩:=zEj rfl h;have:=hd [];rw[Jy,zBs rfl]at this;simp only[roT,R];rw[this];simpa[Ka,h1,zAL h2]using h3
 |.same _ _,_,_,_,_,h|.addr _ _,_,_,_,_,h|.sub _ _ _ _ _,_,_,_,_,h|.tup _,_,_,_,_,h=>by simp only[RoC]at h
theorem zQz:(xs:List T)→ ∀(cs:Array Value)(o0:Nat)(p:List Nat)(j o:Nat),o0≤o→(∀z i x,xs[i]? =jq x→G.hd d (z++((j+i)::p))=kO (zDD x cs (o+T.sizes (xs.take i)) z.reverse))→RoF St xs cs o→RF St G w d (roT.roTs xs) p j
 | [],_,_,_,_,_,_,_,_=>by simp only[roT.roTs,RF]
 |x::xs,cs,o0,p,j,o,ho,hd,h=>by
  simp only[roT.roTs,RF,RoF]at h ⊢
  refine⟨zQy x cs o (j::p) (fun z=>by simpa[T.sizes]using hd z 0 x (by simp)) h.1,zQz xs cs o0 p (j+1) (o+x.size) (by omega) (fun z i y hy=>?_) h.2⟩;have:=hd z (i+1) y (by simpa using hy);simp only[L4,T.sizes]at this;rw[show j+1+i=j+(i+1)from by omega,show o+x.size+T.sizes (xs.take i)=o+(x.size+T.sizes (xs.take i))from Lu ..];exact this
end
mutual
theorem zGn:(u:T)→ ∀(cs:Array Value)(o:Nat)(p:List Nat),(∀z,G.hd d (z++p)=kO (zDD u cs o z.reverse))→RoC St u cs o→ ∀(i:Nat)(v:Value),(vals G d (roT u) p)[i]? =jq v→cs[o+i]? =jq v
 |.agg xs,cs,o,p,hd,h,i,v,hv=>by
  simp only[roT,vals,RoC]at h hv;exact zHL xs cs p 0 o (fun z j x hx=>by have:=hd (z++[j]);simp only[Ji,G5,Jy,Q8,Hy,H7,zDD]at this;rw[Jc,this];simp[hx]) h i v hv
 |.lit _,cs,o,p,hd,h,i,v,hv|.ro _,cs,o,p,hd,h,i,v,hv|.any,cs,o,p,hd,h,i,v,hv|.sl _ _,cs,o,p,hd,h,i,v,hv|.ptr _,cs,o,p,hd,h,i,v,hv|.mp _ _,cs,o,p,hd,h,i,v,hv=>by
  obtain⟨v',h1,h2,h3⟩:=zEj rfl h;have:=hd [];rw[Jy,zBs rfl]at this;simp only[roT,vals]at hv;cases i with
  |zero=>
   simp at hv;rw[←hv,this];simp[Ka,h1,zAL h2]
  |succ i=>simp at hv
 |.same _ _,_,_,_,_,h,_,_,_|.addr _ _,_,_,_,_,h,_,_,_|.sub _ _ _ _ _,_,_,_,_,h,_,_,_|.tup _,_,_,_,_,h,_,_,_=>by simp only[RoC]at h
theorem zHL:(xs:List T)→ ∀(cs:Array Value)(p:List Nat)(j o:Nat),(∀z i x,xs[i]? =jq x→G.hd d (z++((j+i)::p))=kO (zDD x cs (o+T.sizes (xs.take i)) z.reverse))→RoF St xs cs o→ ∀(i:Nat)(v:Value),(yJ G d (roT.roTs xs) p j)[i]? =jq v→cs[o+i]? =jq v
 | [],_,_,_,_,_,_,i,v,hv=>by simp[roT.roTs,yJ]at hv
 |x::xs,cs,p,j,o,hd,h,i,v,hv=>by
  simp only[roT.roTs,yJ,RoF]at h hv;have hx:∀z,G.hd d (z++(j::p))=kO (zDD x cs o z.reverse):=fun z=>by simpa[T.sizes]using hd z 0 x (by simp)
  have gv:(vals G d (roT x) (j::p)).length=x.size:=by have hs:(roT x).size=x.size:=zEi x (fun ys e=>by subst e;simp only[RoC]at h;exact h.1);rw[vF (roT x) (j::p) (fun ys e=>by cases x<;>simp[roT]at e),hs]
  rw[Kb]at hv;split at hv
  ·exact zGn x cs o (j::p) hx h.1 i v hv
  ·have:=zHL xs cs p (j+1) (o+x.size) (fun z i y hy=>by
    have:=hd z (i+1) y (by simpa using hy);simp only[L4,T.sizes]at this;rw[show j+1+i=j+(i+1)from by omega,show o+x.size+T.sizes (xs.take i)=o+(x.size+T.sizes (xs.take i))from Lu ..];exact this) h.2 _ v hv
   rwa [gv,show o+x.size+(i-x.size)=o+i from by omega]at this
end
mutual
theorem zNw:(u:T)→Top (roT u)
 |.agg xs=>by simp only[roT,Top];exact zJY xs
 |.lit _|.any|.sl _ _|.ptr _|.mp _ _|.ro _|.same _ _|.addr _ _|.sub _ _ _ _ _|.tup _=>by simp[roT,Top]
theorem zJY:(xs:List T)→vV (roT.roTs xs)
 | []=>by simp only[roT.roTs,vV]
 |x::xs=>by simp only[roT.roTs,vV];exact⟨zNw x,zJY xs⟩
end
end
section
variable {P:Program}{Γ:Ctx}{E:Env}{o:Oper}{d:Nat}
theorem zIT{G:Gh}{w:World}(hm:Mem Γ G w){b:Nat}{cs:Array Value}{e:TypeId}{fr:Nat×Nat}(h:Γ.St b=jq (.cells cs e fr))(i:Nat):w.cell? ⟨b,i,jr⟩=cs[i]?:=by simp[World.cell?,hm.st b _ h]
theorem zLT(x:Operand)(T':TypeId)(ds:TypeDesc)(ti:TypeInfo)(u:T)(ho:o.op=.load T' x)(gg:o.dst=jq d)(hd:d<Γ.N)
  (hT:P.underlying T'=jq ds)(hi:P.info? T'=jq ti)(eI:zGm ds= !u.single)(gu:ti.size=u.size)
  (hx:opT E x=jq (.ro (.ptr u))):wC P Γ o E (E.app [(d,jq (roT u))] [(d,0)]):=by
 refine wC.value gg fun a w G gc=>?_
 have h1:=zGl gc hx;simp only[RoC]at h1;obtain⟨b,o',cs',e,fr,h2,h3,h4⟩:=h1;have fj:a.eval x=.pointer (jq ⟨b,o',jr⟩):=by simpa using h2
 have gU:∀xs,u≠.tup xs:=by rintro xs rfl;simp only[RoC]at h4
 let f:List Nat→Value:=fun z=>kO (zDD u cs' o' z.reverse)
 have hz:∀z,(G.put d f).hd d (z++[])=kO (zDD u cs' o' z.reverse):=fun z=>by rw[Gh.put_self,Jk]
 refine⟨mkV (G.put d f) d (roT u) [],w,?_,_,vH gc rfl hd f (fun z=>zB6 _) _ _ rfl (zQy u cs' o' [] hz h4) (zNw u)⟩;cases u with
 |agg xs=>
  have h5:∀j v,(yJ (G.put d f) d (roT.roTs xs) [] 0)[j]? =jq v→w.cell? ((⟨b,o',jr⟩:Addr).add j)=jq v:=by intro j v hv;rw[uG,zIT gc.mem h3];exact zGn (.agg xs) cs' o' [] hz h4 j v (by simpa only[roT,vals]using hv)
  have h6:=run_loadCells_list (P:=P) (w:=w) ⟨b,o',jr⟩ _ h5;rw[wP,zEO]at h6;simp only[T.size]at gu;simp[T.single]at eI;simp[execOp,ho,fj,Instr.loadAt,tT,loadVar,kN hT,eI,sizeOf,typeInfo,hi,gu,h6,mkV,roT]
 |tup xs=>exact absurd rfl (gU xs)
 |_=>
  obtain⟨v,h5,h6,h7⟩:=zEj rfl h4;have h8:w.cell? ⟨b,o',jr⟩=jq v:=by rw[zIT gc.mem h3];exact h5
  simp[T.single]at eI;have h9:f []=v:=by show kO (zDD _ cs' o' _)=v;rw[zBs rfl];simp[Ka,h5,zAL h6]
  simp[execOp,ho,fj,Instr.loadAt,tT,loadVar,kN hT,eI,load,Sem.run,h8,mkV,roT,Gh.put_self,h9]
def zFw(E:Env)(x:Operand):Bool:=
 match opT E x with
 |some (.addr _ _)|some (.ro (.ptr _))=>js
 |_=>match uJ E x with
  |some (_,_,.ptr _)=>js
  |some (_,_,.ro (.ptr _))=>js
  |_=>jt
theorem zQ0{G:Gh}{a:Act}{w:World}(gc:Rep Γ E G a.tmps w){x:Operand}(h:zFw E x=js):∃ad,a.eval x=.pointer (jq ad):=by
 unfold zFw at h;split at h
 ·rename_i r q hx
  cases x with
  |tmp s=>
   obtain⟨h1,h2,_⟩:=gc.ent s _ hx;simp only[R]at h2;exact⟨_,by rw[wG h1,xF rfl,h2]⟩
  |const v=>simp only[opT]at hx;split at hx<;>simp at hx
  |func f=>simp[opT]at hx
  |global g=>simp[opT]at hx
 ·rename_i u hx
  have:=zGl gc hx;simp only[RoC]at this;obtain⟨b,o',_,_,_,h1,_⟩:=this;exact⟨_,by simpa using h1⟩
 ·split at h
  ·rename_i hl
   obtain⟨h1,h2⟩:=qD gc hl rfl;simp only[R]at h1;obtain⟨b,cs,e,h3,_⟩:=h1;exact⟨_,by rw[h2,h3]⟩
  ·rename_i hl
   obtain⟨h1,h2⟩:=qD gc hl rfl;simp only[R,RoC]at h1;obtain⟨b,o',_,_,_,h3,_⟩:=h1;exact⟨_,by rw[h2];simpa using h3⟩
  ·cases h
theorem zXa(x:Operand)(t:T)(ho:o.op=.nilCheck x)(gg:o.dst=jq d)(hd:d<Γ.N)(hx:opT E x=jq t)(hp:zFw E x=js)(ht:∀xs,t≠.tup xs)
  (gf:∀s,x=.tmp s→s≠d)(gD:T.okB [(d,0)] (uY x t)=js):wC P Γ o E (E.app [(d,jq (uY x t))] [(d,0)]):=by
 refine wC.value gg fun a w G gc=>?_
 obtain⟨f,hf,h1,h2⟩:=opd gc hx ht;obtain⟨h3,h4⟩:=h1 d gf gD;obtain⟨ad,h5⟩:=zQ0 gc hp;refine⟨a.eval x,w,?_,_,vH gc rfl hd f hf _ _ h3 h4 h2⟩;simp[execOp,ho,h5]
theorem zJZ{G:Gh}{s:Nat}:(xs:List T)→ ∀(p:List Nat)(j i:Nat)(x:T),xs[i]? =jq x→(kM G s xs p j)[i]? =jq (sC G s x ((j+i)::p))
 | [],_,_,_,_,h=>by simp at h
 |y::ys,p,j,i,x,h=>by
  cases i with
  |zero=>simp at h;subst h;simp[kM]
  |succ i=>
   have:=zJZ (G:=G) (s:=s) ys p (j+1) i x (by simpa using h);rw[show j+(i+1)=j+1+i from by omega];simpa[kM]using this
theorem zLU(s i:Nat)(ts:List T)(t:T)(ho:o.op=.extract (.tmp s) i)(gg:o.dst=jq d)(hd:d<Γ.N)(hs:E s=jq (.tup ts))(hi:ts[i]? =jq t)(ht:∀xs,t≠.tup xs)
  (gf:s≠d)(gD:T.okB [(d,0)] (cpT s t [i])=js):wC P Γ o E (E.app [(d,jq (cpT s t [i]))] [(d,0)]):=by
 refine wC.value gg fun a w G gc=>?_
 obtain⟨h1,h2,_⟩:=gc.ent s _ hs;simp only[R]at h2;have h3:=zBy ts [] 0 i t h2 hi;simp only[Jc]at h3;have h4:=zJZ (G:=G) (s:=s) ts [] 0 i t hi;simp only[Jc]at h4;have hk:=G.put_keep (w:=w) (w':=w) rfl d (fun z=>G.hd s (z++[i]));have hz:∀z,(G.put d (fun z=>G.hd s (z++[i]))).hd d (z++[])=G.hd s (z++[i]):=fun z=>by rw[Gh.put_self,Jk]
 refine⟨sC G s t [i],w,?_,_,vH gc rfl hd (fun z=>G.hd s (z++[i])) (fun z=>gc.mem.one _ _) _ _ (zAV t [i] [] ht hz).symm
  (zDB (fun p=>G.put_other _ p gf) t [i] [] hz ht (hk.keepR (zAK _ (qR s t [i]) gD)) h3) (qR s t [i])⟩
 simp[execOp,ho,wG h1,mkV,Instr.extract,h4]
def zAx(E:Env)(x:Option Operand)(dflt n:Nat):Prop:=
 match x with
 |none=>n=dflt
 |some y=> ∃kd,opT E y=jq (.lit (.int kd n))
theorem zGo{St:Stb}:(xs:List T)→ ∀(cs:Array Value)(o k l:Nat),RoL St xs cs o k→RoL St (xs.drop l) cs (o+l*k) k
 | [],_,_,_,_,_=>by simp[RoL]
 |x::xs,cs,o,k,l,h=>by
  cases l with
  |zero=>simpa using h
  |succ l=>
   simp only[RoL]at h;have:=zGo xs cs (o+k) k l h.2
   rwa [List.drop_succ_cons,show o+(l+1)*k=o+k+l*k from by rw[Ly];omega]
theorem zGp{St:Stb}:(xs:List T)→ ∀(cs:Array Value)(o k l:Nat),RoL St xs cs o k→RoL St (xs.take l) cs o k
 | [],_,_,_,_,_=>by simp[RoL]
 |x::xs,cs,o,k,l,h=>by
  cases l with
  |zero=>simp[RoL]
  |succ l=>simp only[RoL,L4]at h ⊢;exact⟨h.1,zGp xs cs _ k l h.2⟩
theorem jR{P:Program}{G:Gh}{a:Act}{w:World}(gc:Rep Γ E G a.tmps w){x:Operand}{kd:IntKind}{n y:Nat}{c:BoundsCode}(hx:opT E x=jq (.lit (.int kd n)))(h:n≤y):
  (Instr.sliceBound (a.eval x) y c).run P w=.ok n w:=by
 rw[(xD gc hx).1];have:(n:Int)≤(y:Int):=by omega
 simp[Instr.sliceBound,asIntOf,this]
theorem zGq{P:Program}{G:Gh}{a:Act}{w:World}(gc:Rep Γ E G a.tmps w){lo hi:Option Operand}{l h n c:Nat}(gV:zAx E lo 0 l)(eb:zAx E hi n h)(h1:l≤h)(h2:h≤c):
  (Instr.sliceBounds js n c (lo.map a.eval) (hi.map a.eval) jr).run P w=.ok (l,h,c) w:=by
 cases lo with
 |none=>
  cases hi with
  |none=>simp only[zAx]at gV eb;subst gV;subst eb;simp[Instr.sliceBounds]
  |some y=>simp only[zAx]at gV eb;obtain⟨kd,hy⟩:=eb;subst gV;simp[Instr.sliceBounds,jR gc hy h2]
 |some x=>
  obtain⟨kd,hx⟩:=gV;cases hi with
  |none=>simp only[zAx]at eb;subst eb;simp[Instr.sliceBounds,jR gc hx h1]
  |some y=>obtain⟨kd',hy⟩:=eb;simp[Instr.sliceBounds,jR gc hy h2,jR gc hx h1]
theorem zKa(x:Operand)(lo hi:Option Operand)(t e:TypeId)(ti:TypeInfo)(r:Nat)(q:List Nat)(k:Nat)(xs:List T)(l h:Nat)(ho:o.op=.slice t x lo hi jr)(gg:o.dst=jq d)(hd:d<Γ.N)
  (ht:P.underlying t=jq (.slice e))(he:P.info? e=jq ti)(hk:ti.size=k)(hx:uJ E x=jq (r,q,.ro (.sl k xs)))(gV:zAx E lo 0 l)(eb:zAx E hi xs.length h)(h1:l≤h)(h2:h≤xs.length):
  wC P Γ o E (E.app [(d,jq (.ro (.sl k ((xs.drop l).take (h-l)))))] [(d,0)]):=by
 refine wC.value gg fun a w G gc=>?_
 obtain⟨g1,g2⟩:=qD gc hx rfl;obtain⟨a',c,g4,g5,g6,g7⟩:=zDb g1;have g8:=zGq (P:=P) gc gV eb h1 (Ko h2 g5);have gv:((xs.drop l).take (h-l)).length=h-l:=by simp;omega
 refine⟨.slice (if c=l then a' else a'.map (·.add (l*k))) (h-l) (c-l),w,?_,_,vH gc rfl hd (fun _=>.slice (if c=l then a' else a'.map (·.add (l*k))) (h-l) (c-l)) (fun _=>rfl) _ _ (by simp[mkV,Gh.put]) ?_ (by simp[Top])⟩
 ·simp only[execOp,ho,Ub]
  simp[Instr.sliceAt,Instr.slice,run_underlying ht,g2,g4,g8,sizeOf,typeInfo,he,hk]
 ·simp only[R,Gh.put_self,RoC]
  refine⟨_,_,by rw[gv];rfl,by omega,by omega,?_⟩;intro gf;have ep:xs≠[]:=by rintro rfl;simp at gf
  obtain⟨b,o',cs',e',fr,rfl,h3,h4⟩:=g7 ep;have gK:c≠l:=by rintro rfl;apply gf;apply Jn;omega
  exact⟨b,o'+l*k,cs',e',fr,by simp[gK,uG],h3,zGp _ _ _ _ _ (zGo _ _ _ _ _ h4)⟩
theorem zIU(x:Operand)(lo hi:Option Operand)(t e:TypeId)(ti:TypeInfo)(r:Nat)(q:List Nat)(k:Nat)(xs:List T)(l h:Nat)(ho:o.op=.slice t x lo hi jr)(gg:o.dst=jq d)(hd:d<Γ.N)
  (ht:P.underlying t=jq (.slice e))(he:P.info? e=jq ti)(hk:ti.size=k)(hx:uJ E x=jq (r,q,.sl k xs))(gV:zAx E lo 0 l)(eb:zAx E hi xs.length h)(h1:l≤h)(h2:h≤xs.length)(gB:r≠d):
  wC P Γ o E (E.app [(d,jq (.sub r q k l h))] [(d,0)]):=by
 refine wC.value gg fun a w G gc=>?_
 obtain⟨g1,g2⟩:=qD gc hx rfl;obtain⟨a',c,g4⟩:=zIS g1;have g5:xs.length≤c:=by
  simp only[R]at g1;rcases g1 with⟨rfl,_⟩|⟨b,o0,cap,cs,e,g,_,g',_⟩
  ·simp
  ·rw[g4]at g;simp at g;omega
 have g8:=zGq (P:=P) gc gV eb h1 (Ko h2 g5);refine⟨zB4 (G.hd r q) k l h,w,?_,_,vH gc rfl hd (fun _=>zB4 (G.hd r q) k l h) (fun _=>by rw[g4];rfl) _ _ (by simp[mkV,Gh.put]) ?_ (by simp[Top])⟩
 ·simp only[execOp,ho,Ub]
  simp[Instr.sliceAt,Instr.slice,run_underlying ht,g2,g4,g8,sizeOf,typeInfo,he,hk,zB4]
 ·simp only[R,Gh.put_self]
  rw[Gh.put_other _ _ _ gB]
end
end Go.Ab

namespace Go.Ab
open Go
def T.inT:T→List Nat→Bool
 |_,[]=>js
 |.agg xs,i::f=>match xs[i]? with
  |some x=>x.inT f
  |none=>jt
 |.any,_::_|.lit _,_::_|.ro _,_::_|.same _ _,_::_|.addr _ _,_::_|.sub _ _ _ _ _,_::_|.sl _ _,_::_|.ptr _,_::_|.mp _ _,_::_|.tup _,_::_=>jt
termination_by structural _ f=>f
def T.offT:T→List Nat→Nat
 |_,[]=>0
 |.agg xs,i::f=>match xs[i]? with
  |some x=>T.sizes (xs.take i)+x.offT f
  |none=>0
 |.any,_::_|.lit _,_::_|.ro _,_::_|.same _ _,_::_|.addr _ _,_::_|.sub _ _ _ _ _,_::_|.sl _ _,_::_|.ptr _,_::_|.mp _ _,_::_|.tup _,_::_=>0
termination_by structural _ f=>f
theorem zGr{t:T}(h:t.single=js){f:List Nat}(hf:f≠[]):t.inT f=jt:=by
 cases f with
 |nil=>grind
 |cons i f=>cases t<;>simp[T.single]at h<;>rfl
mutual
def zQ1:T→List Nat→Nat→Option (List Nat)
 |.agg xs,p,o=>zCy xs p 0 o
 |.any,p,o|.lit _,p,o|.ro _,p,o|.same _ _,p,o|.addr _ _,p,o|.sub _ _ _ _ _,p,o|.sl _ _,p,o|.ptr _,p,o|.mp _ _,p,o|.tup _,p,o=>if o=0 then jq p else jr
def zCy:List T→List Nat→Nat→Nat→Option (List Nat)
 | [],_,_,_=>jr
 |x::xs,p,j,o=>if o<x.size then zQ1 x (j::p) o else zCy xs p (j+1) (o-x.size)
end
mutual
def T.okTup:T→Bool
 |.tup _=>jt
 |.agg xs=>yU xs
 |.any|.lit _|.ro _|.same _ _|.addr _ _|.sub _ _ _ _ _|.sl _ _|.ptr _|.mp _ _=>js
def yU:List T→Bool
 | []=>js
 |x::xs=>x.okTup&&yU xs
end
theorem zDE:(xs:List T)→ ∀(p:List Nat)(j o:Nat),T.sizes xs≤o→zCy xs p j o=jr
 | [],_,_,_,_=>by rfl
 |x::xs,p,j,o,h=>by simp only[T.sizes]at h;simp only[zCy];rw[if_neg (by omega)];exact zDE xs p (j+1) _ (by omega)
section
variable {G:Gh}{w:World}{d:Nat}
mutual
theorem zXb:(x:T)→ ∀(p:List Nat)(B o:Nat),(∀xs,x≠.tup xs)→x.okTup=js→
  (∀f,x.inT f=js→G.ad d (f.reverse++p)=⟨B,o+x.offT f,jr⟩)→(∀j p',j<x.size→zQ1 x p j=jq p'→G.lb B (o+j)=jq (jt,d,p'))→
  (∀j v,(vals G d x p)[j]? =jq v→yQ w B (o+j)=jq v)→Loc G w d x p B o
 |.agg xs,p,B,o,_,hn,ha,hl,hc=>by
  simp only[Loc];refine⟨by simpa[T.offT]using ha [] rfl,zFP xs p 0 B o (by grind[T.okTup]) (fun i x hx f hf=>?_) (fun j p' hj hp=>?_) (by grind[vals])⟩
  ·have:=ha (i::f) (by grind[T.inT])
   grind[T.offT]
  grind[T.size,zQ1]
 |.any,p,B,o,_,_,ha,hl,hc|.lit _,p,B,o,_,_,ha,hl,hc|.ro _,p,B,o,_,_,ha,hl,hc|.same _ _,p,B,o,_,_,ha,hl,hc|.addr _ _,p,B,o,_,_,ha,hl,hc|.sub _ _ _ _ _,p,B,o,_,_,ha,hl,hc|.sl _ _,p,B,o,_,_,ha,hl,hc|.ptr _,p,B,o,_,_,ha,hl,hc|.mp _ _,p,B,o,_,_,ha,hl,hc=>by simp only[Loc];exact⟨by simpa[T.offT]using ha [] rfl,by simpa using hl 0 p (by simp[T.size]) (by rfl),by simpa using hc 0 (G.hd d p) (by simp[vals])⟩
 |.tup xs,_,_,_,h,_,_,_,_=>absurd rfl (h xs)
theorem zFP:(xs:List T)→ ∀(p:List Nat)(j B o:Nat),yU xs=js→
  (∀i x,xs[i]? =jq x→ ∀f,x.inT f=js→G.ad d (f.reverse++((j+i)::p))=⟨B,o+(T.sizes (xs.take i)+x.offT f),jr⟩)→
  (∀i p',i<T.sizes xs→zCy xs p j i=jq p'→G.lb B (o+i)=jq (jt,d,p'))→
  (∀i v,(yJ G d xs p j)[i]? =jq v→yQ w B (o+i)=jq v)→vJ G w d xs p j B o
 | [],_,_,_,_,_,_,_,_=>by simp only[vJ]
 |x::xs,p,j,B,o,hn,ha,hl,hc=>by
  simp only[yU,J3]at hn;have gU:∀ys,x≠.tup ys:=by rintro ys rfl;grind[T.okTup]
  simp only[vJ];refine⟨zXb x (j::p) B o gU hn.1 (fun f hf=>by simpa[T.sizes]using ha 0 x (by simp) f hf) (fun i p' hi hp=>hl i p' (by grind[T.sizes]) (by simp only[zCy,hi,if_true];exact hp)) (fun i v hv=>hc i v ?_),
   zFP xs p (j+1) B (o+x.size) hn.2 (fun i y hy f hf=>?_) (fun i p' hi hp=>?_) (fun i v hv=>?_)⟩
  ·grind[yJ]
  ·have:=ha (i+1) y (by grind) f hf
   grind[T.sizes]
  ·have:=hl (x.size+i) p' (by grind[T.sizes]) (by simp only[zCy];grind)
   grind
  ·have:=hc (x.size+i) v (by
    grind[yJ,vF])
   grind
end
end
structure MvC (G:Gh) (w:World) (G':Gh) (w':World) (s:Nat) (p:List Nat) (s':Nat) (p':List Nat) (t:T):Prop where
 hd:∀z,G'.hd s' (z++p')=G.hd s (z++p)
 ad:∀z,t.inT z.reverse=jt→G'.ad s' (z++p')=G.ad s (z++p)
 lb:∀b o f z,(f=js∨t.inT z.reverse=jt)→G.lb b o=jq (f,s,z++p)→G'.lb b o=jq (f,s',z++p')∧yQ w' b o=yQ w b o
 ow:∀b z,G.ow b=jq (s,z++p)→G'.ow b=jq (s',z++p')
 blk:Blk w w'
 mp:∀b z ms c,G.ow b=jq (s,z++p)→w.heap[b]? =jq (.map ms c)→w'.heap[b]? =jq (.map ms c)
section
variable {St:Stb}{G:Gh}{w:World}{G':Gh}{w':World}{s:Nat}{s':Nat}
theorem MvC.moves{p p':List Nat}{t:T}(h:MvC G w G' w' s p s' p' t)(ht:t.single=js):zGj G w G' w' s p s' p' where
 hd:=h.hd
 ad z hz:=h.ad z (zGr ht (by simp_all))
 lb b o f z hz _ hl:=h.lb b o f z (.inr (zGr ht (by simp_all))) hl
 ow b z _ hl:=h.ow b z hl
 blk:=h.blk
 mp:=h.mp
 sp b o _ hl:=by simpa using h.lb b o js [] (.inl rfl) (by grind)
 ow0 b hl:=by simpa using h.ow b [] (by grind)
theorem MvC.field{p p':List Nat}{xs:List T}(h:MvC G w G' w' s p s' p' (.agg xs)){j:Nat}{x:T}(hx:xs[j]? =jq x):MvC G w G' w' s (j::p) s' (j::p') x where
 hd z:=by have:=h.hd (z++[j]);grind
 ad z hz:=by
  have:=h.ad (z++[j]) (by grind[T.inT])
  grind
 lb b o f z hf hl:=by
  have:=h.lb b o f (z++[j]) (by grind[T.inT]) (by grind)
  grind
 ow b z hl:=by
  have:=h.ow b (z++[j]) (by grind)
  grind
 blk:=h.blk
 mp b z ms c hl hb:=h.mp b (z++[j]) ms c (by simpa using hl) hb
mutual
theorem zKb:(t:T)→ ∀(p p':List Nat),t.okTup=js→MvC G w G' w' s p s' p' t→xC (zAE G G') t→R St G w s t p→R St G' w' s' t p'
 |.agg xs,p,p',hn,h,hk,hr=>by
  simp only[R,xC,T.okTup]at hr hk hn ⊢
  exact zQ2 xs p p' 0 hn (fun j x hx=>by rw[Jc];exact h.field hx) hk hr
 |.any,p,p',_,h,hk,hr|.lit _,p,p',_,h,hk,hr|.ro _,p,p',_,h,hk,hr|.same _ _,p,p',_,h,hk,hr|.addr _ _,p,p',_,h,hk,hr|.sub _ _ _ _ _,p,p',_,h,hk,hr|.sl _ _,p,p',_,h,hk,hr|.ptr _,p,p',_,h,hk,hr|.mp _ _,p,p',_,h,hk,hr=>
  zAn (h.moves rfl) _ hk hr
 |.tup _,_,_,hn,_,_,_=>by grind[T.okTup]
theorem zQ2:(xs:List T)→ ∀(p p':List Nat)(j:Nat),yU xs=js→(∀i x,xs[i]? =jq x→MvC G w G' w' s ((j+i)::p) s' ((j+i)::p') x)→xX (zAE G G') xs→RF St G w s xs p j→RF St G' w' s' xs p' j
 | [],_,_,_,_,_,_,_=>by simp only[RF]
 |x::xs,p,p',j,hn,h,hk,hr=>by
  simp only[RF,xX,yU,J3]at hr hk hn ⊢
  exact⟨zKb x (j::p) (j::p') hn.1 (by simpa using h 0 x (by simp)) hk.1 hr.1,zQ2 xs p p' (j+1) hn.2 (fun i y hy=>by
   have:=h (i+1) y (by grind)
   grind) hk.2 hr.2⟩
end
end
theorem zNx{St:Stb}{G:Gh}{w:World}{s:Nat}:(xs:List T)→ ∀(p:List Nat)(j:Nat),(∀i x,xs[i]? =jq x→R St G w s x ((j+i)::p))→RF St G w s xs p j
 | [],_,_,_=>by simp only[RF]
 |x::xs,p,j,h=>by
  simp only[RF];exact⟨by simpa using h 0 x (by simp),zNx xs p (j+1) (fun i y hy=>by
   have:=h (i+1) y (by grind)
   grind)⟩
theorem zQ3{St:Stb}{G:Gh}{w:World}{s:Nat}{k:Nat}:(xs:List T)→ ∀(p:List Nat)(j b o:Nat),(∀x∈xs,x.size=k)→vJ G w s xs p j b o→RF St G w s xs p j→RL St G w s xs p j b o k
 | [],_,_,_,_,_,_,_=>by simp only[RL]
 |x::xs,p,j,b,o,hk,hl,hr=>by
  simp only[RL,vJ,RF]at hl hr ⊢
  have h1:=hk x (by simp);exact⟨⟨hl.1,h1⟩,hr.1,zQ3 xs p (j+1) b (o+k) (by grind) (by grind) hr.2⟩
theorem wT{k:Nat}:(xs:List T)→(∀x∈xs,x.size=k)→T.sizes xs=xs.length*k
 | [],_=>by simp[T.sizes]
 |x::xs,h=>by simp[T.sizes,wT xs (fun y hy=>h y (by simp[hy])),h x (by simp),Ly];omega
def Gh.nb(G:Gh)(d B:Nat)(xs:List T)(src:Nat→Option (Nat×List Nat))(φ:Nat→List Nat→Option (List Nat))(f:Nat→List Nat→Value)(gT:Value):Gh where
 hd s z:=if s=d then(match z.getLast? with
  |some i=>f i z.dropLast
  |none=>gT)else G.hd s z
 ad s z:=if s=d then(if(T.agg xs).inT z.reverse then⟨B,(T.agg xs).offT z.reverse,jr⟩else match z.getLast? with
  |some i=>(match src i with
   |some (x,q)=>G.ad x (z.dropLast++q)
   |none=>default)
  |none=>default)else G.ad s z
 lb b o:=if b=B then jq (match zCy xs [] 0 o with
  |some p=>(jt,d,p)
  |none=>(js,d,[]))else match G.lb b o with
  |some (fl,s,z)=>(match φ s z with
   |some z'=>jq (fl,d,z')
   |none=>jq (fl,s,z))
  |none=>jr
 ow b:=if b=B then jq (d,[])else match G.ow b with
  |some (s,z)=>(match φ s z with
   |some z'=>jq (d,z')
   |none=>jq (s,z))
  |none=>jr
theorem zDc{Γ:Ctx}{G:Gh}{w w':World}(hm:Mem Γ G w){cells:Array Value}{e:TypeId}(hw:w'.heap=w.heap.push (.cells cells e))(d:Nat)(xs:List T)
  (src:Nat→Option (Nat×List Nat))(φ:Nat→List Nat→Option (List Nat))(f:Nat→List Nat→Value)(gT:Value)(chg:Chg)
  (gD:yU xs=js)(hf:∀(i:Nat)(z:List Nat),(f i z).oneCell'=js)(hh:gT.oneCell'=js)
  (hφ:∀(i:Nat) u x q(z:List Nat),xs[i]? =jq u→src i=jq (x,q)→φ x (z++q)=jq (z++[i]))
  (uq:∀(i:Nat) u x q,xs[i]? =jq u→src i=jq (x,q)→(∀z,f i z=G.hd x (z++q))∧R Γ.St G w x u q∧zZ u∧x≠d)
  (aD:∀(i:Nat) u,xs[i]? =jq u→src i=jr→ ∀(G2:Gh)(w2:World),(∀z,G2.hd d (z++[i])=f i z)→R Γ.St G2 w2 d u [i])
  (fF:∀(G2:Gh),(∀i z,G2.hd d (z++[i])=f i z)→ ∀(o:Nat)(v:Value),(yJ G2 d xs [] 0)[o]? =jq v→cells[o]? =jq v)
  (aY:∀s p,(∀n,(s,n)∉(d,0)::chg)→φ s p=jr)(ho:w'.os=w.os:=by rfl)(hq:w'.output=w.output:=by rfl):
  sG ((d,0)::chg) G w (G.nb d w.heap.size xs src φ f gT) w'∧Mem Γ (G.nb d w.heap.size xs src φ f gT) w'∧
  vJ (G.nb d w.heap.size xs src φ f gT) w' d xs [] 0 w.heap.size 0∧RF Γ.St (G.nb d w.heap.size xs src φ f gT) w' d xs [] 0∧
  w'.heap[w.heap.size]? =jq (.cells cells e):=by
 have gQ:w'.heap[w.heap.size]? =jq (.cells cells e):=by grind
 have gp:∀b,b<w.heap.size→w'.heap[b]? =w.heap[b]?:=fun b hb=>by rw[hw,Array.getElem?_push];grind
 have gu:w'.heap.size=w.heap.size+1:=by grind
 have eu:∀b o,b<w.heap.size→yQ w' b o=yQ w b o:=fun b o hb=>by simp[yQ,World.cell?,gp b hb]
 have gA:Blk w w':=fun b cs e' h=>⟨cs,by rw[gp b (by grind)];exact h,rfl⟩
 have gn:=hm.one
 generalize gk:G.nb d w.heap.size xs src φ f gT=G'
 have ghd:∀i z,G'.hd d (z++[i])=f i z:=fun i z=>by rw[←gk];simp[Gh.nb]
 have gad:∀g,(T.agg xs).inT g=js→G'.ad d g.reverse=⟨w.heap.size,(T.agg xs).offT g,jr⟩:=fun g hg=>by rw[←gk];simp[Gh.nb,hg]
 have gadm:∀i x q z,src i=jq (x,q)→(T.agg xs).inT (i::z.reverse)=jt→G'.ad d (z++[i])=G.ad x (z++q):=fun i x q z hs gR=>by rw[←gk];simp[Gh.nb,gR,hs]
 have glb:∀o p,zCy xs [] 0 o=jq p→G'.lb w.heap.size o=jq (jt,d,p):=fun o p h=>by rw[←gk];simp[Gh.nb,h]
 have glbm:∀b o fl x z z',G.lb b o=jq (fl,x,z)→φ x z=jq z'→G'.lb b o=jq (fl,d,z'):=fun b o fl x z z' h1 h2=>by have:=(hm.lb b o _ h1).1;rw[←gk];simp[Gh.nb,h1,h2,show b≠w.heap.size from by omega]
 have gowm:∀b x z z',G.ow b=jq (x,z)→φ x z=jq z'→G'.ow b=jq (d,z'):=fun b x z z' h1 h2=>by have:=(hm.ow b _ h1).1;rw[←gk];simp[Gh.nb,h1,h2,show b≠w.heap.size from by omega]
 have gf:∀s p,Off ((d,0)::chg) s p→s≠d:=fun s p h e=>absurd (h 0 (by simp[e])) (by simp)
 have gw:sG ((d,0)::chg) G w G' w':=by
  refine⟨fun s p h=>?_,fun s p h=>?_,fun b o fl s p _ hl h=>⟨?_,eu b o (hm.lb b o _ hl).1⟩,fun b s p hl h=>?_,gA,fun b s p ms c hl _ hb=>by rw[gp b (hm.ow b _ hl).1];exact hb⟩
  ·rw[←gk];simp[Gh.nb,gf s p h]
  ·rw[←gk];simp[Gh.nb,gf s p h]
  ·have:=(hm.lb b o _ hl).1
   rw[←gk];simp[Gh.nb,hl,aY s p h,show b≠w.heap.size from by omega]
  ·have:=(hm.ow b _ hl).1
   rw[←gk];simp[Gh.nb,hl,aY s p h,show b≠w.heap.size from by omega]
 refine⟨gw,?_,?_,?_,gQ⟩
 ·
  have hB:zBp Γ w' w.heap.size:=⟨by omega,.inl hm.sz,by
   cases gH:Γ.St w.heap.size with
   |none=>rfl
   |some x=>have:=hm.st _ x gH;simp at this⟩
  have eH:∀b,zBp Γ w b→zBp Γ w' b:=fun b h=>⟨by have:=h.1;omega,h.2⟩
  refine⟨fun s p=>?_,fun b o l hl=>?_,fun b l hl=>?_,fun b x hx=>?_,fun b h1 h2=>?_,by have:=hm.sz;omega,hm.bk.trans gA ho hq⟩
  ·rw[←gk]
   simp only[Gh.nb];split
   ·split
    ·exact hf _ _
    ·exact hh
   ·exact gn s p
  ·rw[←gk]at hl
   simp only[Gh.nb]at hl;split at hl
   ·grind
   ·split at hl
    ·rename_i hg;exact eH b (hm.lb b o _ hg)
    ·cases hl
  ·rw[←gk]at hl
   simp only[Gh.nb]at hl;split at hl
   ·grind
   ·split at hl
    ·rename_i hg;exact eH b (hm.ow b _ hg)
    ·cases hl
  ·have:=hm.st b x hx
   rw[gp b (Kt.1 this).1];exact this
  ·rw[gp b (Jaf h1 hm.sz)]
   exact hm.fr b h1 h2
 ·
  refine zFP xs [] 0 w.heap.size 0 gD (fun i x hx g hg=>?_) (fun i p' _ hp=>by simpa using glb i p' hp) (fun i v hv=>?_)
  ·have:=gad (i::g) (by simp only[T.inT,hx];exact hg)
   simpa[T.offT,hx]using this
  ·have:=fF G' ghd i v hv
   rw[Jc];simp[yQ,World.cell?,gQ,this]
 ·
  refine zNx xs [] 0 (fun i u hu=>?_);rw[Jc];cases hs:src i with
  |none=>exact aD i u hu hs G' w' (fun z=>ghd i z)
  |some xq=>
   obtain⟨x,q⟩:=xq;obtain⟨h1,h2,h3,h4⟩:=uq i u x q hu hs;have gR:∀g,(T.agg xs).inT (i::g)=u.inT g:=fun g=>by simp only[T.inT,hu]
   refine zKb u q [i] (okTups_get xs gD i u hu) ⟨fun z=>by rw[ghd,h1],fun z hz=>gadm i x q z hs (by rw[gR];exact hz),fun b o fl z hz hl=>⟨glbm b o fl x _ _ hl (hφ i u x q z hu hs),eu b o (hm.lb b o _ hl).1⟩,
    fun b z hl=>gowm b x _ _ hl (hφ i u x q z hu hs),gA,fun b z ms c hl hb=>by rw[gp b (hm.ow b _ hl).1];exact hb⟩ (xC.mono (by simp) u h3) h2
where okTups_get:(xs:List T)→yU xs=js→ ∀(i:Nat)(x:T),xs[i]? =jq x→x.okTup=js
 | [],_,_,_,h=>by simp at h
 |y::ys,hk,i,x,h=>by
  simp only[yU,J3]at hk;cases i with
  |zero=>grind
  |succ i=>exact okTups_get ys hk.2 i x (by grind)
end Go.Ab

namespace Go.Ab
open Go
inductive yW where
 |slot (s:Nat) (t:T)
 |zero (u:T)
def yW.tree:yW→T
 |.slot _ t=>t
 |.zero u=>u
def sH:T→Bool
 |.lit _|.ro _=>jt
 |_=>js
mutual
def T.zOk:T→Bool
 |.lit v=>v.oneCell'
 |.sl _ xs=>xs.isEmpty
 |.agg xs=>zAM xs
 |.any|.ro _|.same _ _|.addr _ _|.sub _ _ _ _ _|.ptr _|.tup _|.mp _ _=>jt
def zAM:List T→Bool
 | []=>js
 |x::xs=>x.zOk&&zAM xs
end
def zhd:T→List Nat→Value
 |.agg xs,i::f=>match xs[i]? with
  |some x=>zhd x f
  |none=>.bool jt
 |.lit v,_=>v
 |.sl _ _,_=>.slice jr 0 0
 |.agg _,[] |.any,_|.ro _,_|.same _ _,_|.addr _ _,_|.sub _ _ _ _ _,_|.ptr _,_|.tup _,_|.mp _ _,_=>.bool jt
termination_by structural _ f=>f
mutual
def tQ:T→List Value
 |.lit v=>[v]
 |.sl _ _=>[.slice jr 0 0]
 |.agg xs=>qE xs
 |.any|.ro _|.same _ _|.addr _ _|.sub _ _ _ _ _|.ptr _|.tup _|.mp _ _=>[]
def qE:List T→List Value
 | []=>[]
 |x::xs=>tQ x++qE xs
end
section
variable {St:Stb}{G:Gh}{w:World}{d:Nat}
mutual
theorem zIV:(u:T)→ ∀(p:List Nat),u.zOk=js→(∀z,G.hd d (z++p)=kO (zhd u z.reverse))→R St G w d u p
 |.lit v,p,h,hd=>by
  simp only[T.zOk,R]at h ⊢
  have:=hd [];rw[Jy]at this;rw[this];exact zAL h
 |.sl k xs,p,h,hd=>by simp only[T.zOk,Qy]at h;subst h;have:=hd [];rw[Jy]at this;simp only[R];exact .inl ⟨trivial,jr,by rw[this];rfl⟩
 |.agg xs,p,h,hd=>by
  simp only[T.zOk,R]at h ⊢
  exact zNy xs p 0 h (fun i x hx z=>by
   rw[Jc];have:=hd (z++[i])
   grind[zhd])
 |.any,_,h,_|.ro _,_,h,_|.same _ _,_,h,_|.addr _ _,_,h,_|.sub _ _ _ _ _,_,h,_|.ptr _,_,h,_|.tup _,_,h,_|.mp _ _,_,h,_=>by grind[T.zOk]
theorem zNy:(xs:List T)→ ∀(p:List Nat)(j:Nat),zAM xs=js→(∀i x,xs[i]? =jq x→ ∀z,G.hd d (z++((j+i)::p))=kO (zhd x z.reverse))→RF St G w d xs p j
 | [],_,_,_,_=>by simp only[RF]
 |x::xs,p,j,h,hd=>by
  simp only[zAM,J3,RF]at h ⊢
  exact⟨zIV x (j::p) h.1 (by simpa using hd 0 x (by simp)),zNy xs p (j+1) h.2 (fun i y hy z=>by
   have:=hd (i+1) y (by grind) z
   grind)⟩
end
end
section
variable {G:Gh}{d:Nat}
mutual
theorem zEP:(u:T)→ ∀(p:List Nat),u.zOk=js→(∀z,G.hd d (z++p)=kO (zhd u z.reverse))→vals G d u p=tQ u
 |.lit v,p,h,hd=>by
  simp only[T.zOk,vals,tQ]at h ⊢
  have:=hd []
  grind[zhd,zAL]
 |.sl k xs,p,h,hd=>by
  have:=hd []
  grind[vals,tQ,zhd,kO,Value.oneCell']
 |.agg xs,p,h,hd=>by
  simp only[T.zOk,vals,tQ]at h ⊢
  exact zDF xs p 0 h (fun i x hx z=>by
   rw[Jc];have:=hd (z++[i])
   grind[zhd])
 |.any,_,h,_|.ro _,_,h,_|.same _ _,_,h,_|.addr _ _,_,h,_|.sub _ _ _ _ _,_,h,_|.ptr _,_,h,_|.tup _,_,h,_|.mp _ _,_,h,_=>by grind[T.zOk]
theorem zDF:(xs:List T)→ ∀(p:List Nat)(j:Nat),zAM xs=js→(∀i x,xs[i]? =jq x→ ∀z,G.hd d (z++((j+i)::p))=kO (zhd x z.reverse))→yJ G d xs p j=qE xs
 | [],_,_,_,_=>by rfl
 |x::xs,p,j,h,hd=>by
  simp only[zAM,J3,yJ,qE]at h ⊢
  rw[zEP x (j::p) h.1 (by simpa using hd 0 x (by simp)),zDF xs p (j+1) h.2 (fun i y hy z=>by
   have:=hd (i+1) y (by grind) z
   grind)]
end
end
mutual
theorem zB7:(u:T)→u.zOk=js→zZ u∧u.okTup=js
 |.lit _,_=>by simp[zZ,xC,T.okTup]
 |.sl _ xs,h=>by simp only[T.zOk,Qy]at h;subst h;simp[zZ,xC,xX,T.okTup]
 |.agg xs,h=>by simp only[T.zOk]at h;simpa only[zZ,xC,T.okTup]using zBU xs h
 |.any,h|.ro _,h|.same _ _,h|.addr _ _,h|.sub _ _ _ _ _,h|.ptr _,h|.tup _,h|.mp _ _,h=>by grind[T.zOk]
theorem zBU:(xs:List T)→zAM xs=js→xE xs∧yU xs=js
 | [],_=>by simp[xE,xX,yU]
 |x::xs,h=>by simp only[zAM,J3]at h;simp only[xE,xX,yU,J3];exact⟨⟨(zB7 x h.1).1,(zBU xs h.2).1⟩,(zB7 x h.1).2,(zBU xs h.2).2⟩
end
mutual
theorem vM:(u:T)→u.zOk=js→(tQ u).length=u.size
 |.lit _,_|.sl _ _,_=>by rfl
 |.agg xs,h=>by simp only[T.zOk]at h;simp only[tQ,T.size];exact zBz xs h
 |.any,h|.ro _,h|.same _ _,h|.addr _ _,h|.sub _ _ _ _ _,h|.ptr _,h|.tup _,h|.mp _ _,h=>by grind[T.zOk]
theorem zBz:(xs:List T)→zAM xs=js→(qE xs).length=T.sizes xs
 | [],_=>by rfl
 |x::xs,h=>by simp only[zAM,J3]at h;simp only[qE,J8,T.sizes,vM x h.1,zBz xs h.2]
end
def zGs(ps:List yW)(i:Nat):Option (Nat×List Nat):=
 match ps[i]? with
 |some (.slot s t)=>if sH t then jq (s,[])else jr
 |_=>jr
def zH3:List yW→Nat→Nat→Option Nat
 | [],_,_=>jr
 |.slot x t::r,i,s=>if sH t&&x==s then jq i else zH3 r (i+1) s
 |.zero _::r,i,s=>zH3 r (i+1) s
def zH4(ps:List yW)(s:Nat)(z:List Nat):Option (List Nat):=
 match zH3 ps 0 s with
 |some i=>jq (z++[i])
 |none=>jr
def pWr(d:Nat):List yW→Nat→Wr
 | [],_=>[]
 |.slot s t::r,i=>if sH t then(s,jq (cpT d t [i]))::pWr d r (i+1)else pWr d r (i+1)
 |.zero _::r,i=>pWr d r (i+1)
def xT:List yW→List Nat
 | []=>[]
 |.slot s t::r=>if sH t then s::xT r else xT r
 |.zero _::r=>xT r
def sD(ps:List yW):Chg:=(xT ps).map fun s=>(s,1)
def sZ(G:Gh):yW→List Value
 |.slot s t=>vals G s t []
 |.zero u=>tQ u
def pHd(G:Gh)(ps:List yW)(i:Nat)(z:List Nat):Value:=
 match ps[i]? with
 |some (.slot s _)=>G.hd s z
 |some (.zero u)=>kO (zhd u z.reverse)
 |none=>.bool jt
structure tJ (E:Env) (d:Nat) (ps:List yW):Prop where
 slot:∀s t,yW.slot s t∈ps→E s=jq t∧zZ t∧t.okTup=js
 zero:∀u,yW.zero u∈ps→u.zOk=js
 dist:(d::xT ps).Nodup
theorem zB8:(ps:List yW)→ ∀(i0 i s:Nat)(t:T),ps[i]? =jq (.slot s t)→sH t=js→(xT ps).Nodup→zH3 ps i0 s=jq (i0+i)
 | [],_,_,_,_,h,_,_=>by simp at h
 |.slot x u::r,i0,i,s,t,h,hm,hn=>by
  cases i with
  |zero=>simp at h;obtain⟨rfl,rfl⟩:=h;simp[zH3,hm]
  |succ i=>
   simp only[Jaq]at h;have gR:s∈xT r:=pSlots_mem r i s t h hm;simp only[zH3]
   by_cases hu:sH u=js
   ·simp only[xT,hu,if_true,Kj]at hn
    have:x≠s:=by grind
    simp only[hu,Bool.true_and,beq_iff_eq,this,if_false];rw[zB8 r (i0+1) i s t h hm hn.2]
    grind
   ·simp only[xT,hu]at hn
    simp only[hu,Jad,Lx,if_false];rw[zB8 r (i0+1) i s t h hm (by grind)]
    grind
 |.zero u::r,i0,i,s,t,h,hm,hn=>by
  cases i with
  |zero=>simp at h
  |succ i=>
   simp only[Jaq]at h;simp only[zH3];rw[zB8 r (i0+1) i s t h hm (by grind[xT])]
   grind
where pSlots_mem:(ps:List yW)→ ∀(i s:Nat)(t:T),ps[i]? =jq (.slot s t)→sH t=js→s∈xT ps
 | [],_,_,_,h,_=>by simp at h
 |.slot x u::r,i,s,t,h,hm=>by
  cases i with
  |zero=>simp at h;obtain⟨rfl,rfl⟩:=h;simp[xT,hm]
  |succ i=>
   have:=pSlots_mem r i s t (by grind) hm
   grind[xT]
 |.zero u::r,i,s,t,h,hm=>by
  cases i with
  |zero=>simp at h
  |succ i=>simpa only[xT]using pSlots_mem r i s t (by grind) hm
theorem zDd:(ps:List yW)→ ∀(i0 s:Nat),s∉xT ps→zH3 ps i0 s=jr
 | [],_,_,_=>by rfl
 |.slot x u::r,i0,s,h=>by
  simp only[zH3]
  by_cases hu:sH u=js
  ·simp only[xT,hu,if_true,Js,not_or]at h
   simp only[hu,Bool.true_and,beq_iff_eq,Ne.symm h.1,if_false];exact zDd r _ s h.2
  ·simp only[xT,hu]at h
   simp only[hu,Jad,Lx,if_false];exact zDd r _ s (by grind)
 |.zero u::r,i0,s,h=>by simp only[zH3];exact zDd r _ s (by grind[xT])
theorem zCz:(ps:List yW)→ ∀(d i0 s:Nat)(x:Option T),(pWr d ps i0).find s=jq x→ ∃i t,ps[i]? =jq (.slot s t)∧sH t=js∧x=jq (cpT d t [i0+i])
 | [],_,_,_,_,h=>by grind[pWr,Wr.find]
 |.slot y u::r,d,i0,s,x,h=>by
  simp only[pWr]at h;split at h
  ·rename_i hu
   simp only[Wr.find]at h;split at h
   ·rename_i he;subst he;simp at h;exact⟨0,u,by simp,hu,by grind⟩
   ·obtain⟨i,t,h1,h2,h3⟩:=zCz r d (i0+1) s x h
    exact⟨i+1,t,by grind,h2,by grind⟩
  ·obtain⟨i,t,h1,h2,h3⟩:=zCz r d (i0+1) s x h
   exact⟨i+1,t,by grind,h2,by grind⟩
 |.zero u::r,d,i0,s,x,h=>by simp only[pWr]at h;obtain⟨i,t,h1,h2,h3⟩:=zCz r d (i0+1) s x h;exact⟨i+1,t,by grind,h2,by grind⟩
theorem zC0:(ps:List yW)→ ∀(d i0 s:Nat),(pWr d ps i0).find s=jr→s∉xT ps
 | [],_,_,_,_=>by simp[xT]
 |.slot y u::r,d,i0,s,h=>by
  simp only[pWr]at h;simp only[xT];split at h
  ·rename_i hu
   simp only[Wr.find]at h;split at h
   ·cases h
   ·rename_i gf
    simp only[hu,if_true,Js,not_or];exact⟨fun e=>gf e.symm,zC0 r d _ s h⟩
  ·rename_i hu
   simp only[hu];simpa using zC0 r d _ s h
 |.zero u::r,d,i0,s,h=>by simp only[pWr]at h;simpa only[xT]using zC0 r d _ s h
section
variable {Γ:Ctx}{E:Env}{G:Gh}{tmps:Array Value}{w:World}{d:Nat}{ps:List yW}
theorem zFx(gc:Rep Γ E G tmps w)(h:tJ E d ps):
  yU (ps.map yW.tree)=js∧xE (ps.map yW.tree)∧(∀i z,(pHd G ps i z).oneCell'=js)∧
  (∀(i:Nat) u x q(z:List Nat),(ps.map yW.tree)[i]? =jq u→zGs ps i=jq (x,q)→zH4 ps x (z++q)=jq (z++[i]))∧
  (∀(i:Nat) u x q,(ps.map yW.tree)[i]? =jq u→zGs ps i=jq (x,q)→(∀z,pHd G ps i z=G.hd x (z++q))∧R Γ.St G w x u q∧zZ u∧x≠d)∧
  (∀(i:Nat) u,(ps.map yW.tree)[i]? =jq u→zGs ps i=jr→ ∀(G2:Gh)(w2:World),(∀z,G2.hd d (z++[i])=pHd G ps i z)→R Γ.St G2 w2 d u [i])∧
  (∀s p,(∀n,(s,n)∉(d,0)::sD ps)→zH4 ps s p=jr):=by
 have mw:=Kj.1 h.dist;refine⟨?_,?_,?_,?_,?_,?_,?_⟩
 ·have:∀qs:List yW,(∀p∈qs,p∈ps)→yU (qs.map yW.tree)=js:=by
   intro qs
   induction qs with
   |nil=>intro _;rfl
   |cons q qs ih=>
    intro hq;simp only[Jm,yU,J3];refine⟨?_,by grind⟩;cases q with
    |slot s t=>exact(h.slot s t (hq _ (by simp))).2.2
    |zero u=>exact(zB7 u (h.zero u (hq _ (by simp)))).2
  grind
 ·have:∀qs:List yW,(∀p∈qs,p∈ps)→xE (qs.map yW.tree):=by
   intro qs
   induction qs with
   |nil=>intro _;trivial
   |cons q qs ih=>
    intro hq;simp only[Jm,xE,xX];refine⟨?_,by grind⟩;cases q with
    |slot s t=>exact(h.slot s t (hq _ (by simp))).2.1
    |zero u=>exact(zB7 u (h.zero u (hq _ (by simp)))).1
  grind
 ·intro i z
  unfold pHd;split
  ·exact gc.mem.one _ _
  ·exact zB6 _
  ·rfl
 ·intro i u x q z hu hs
  rw[Jp]at hu;unfold zGs at hs;cases hp:ps[i]? with
  |none=>grind
  |some p=>
   cases p with
   |zero v=>grind
   |slot s t=>
    simp only[hp]at hs;split at hs
    ·rename_i hm
     simp at hs;obtain⟨rfl,rfl⟩:=hs;simp[zH4,zB8 ps 0 i s t hp hm mw.2]
    ·cases hs
 ·intro i u x q hu hs
  rw[Jp]at hu;unfold zGs at hs;cases hp:ps[i]? with
  |none=>grind
  |some p=>
   cases p with
   |zero v=>grind
   |slot s t=>
    simp only[hp]at hs;split at hs
    ·rename_i hm
     simp at hs;obtain⟨rfl,rfl⟩:=hs;simp[hp,yW.tree]at hu;subst hu;obtain⟨h1,h2,h3⟩:=h.slot s t (by grind);refine⟨by grind[pHd],(gc.ent s t h1).2.1,h2,fun e=>mw.1 ?_⟩
     grind[zB8.pSlots_mem]
    ·cases hs
 ·intro i u hu hs G2 w2 ey
  rw[Jp]at hu;unfold zGs at hs;cases hp:ps[i]? with
  |none=>grind
  |some p=>
   cases p with
   |zero v=>
    simp[hp,yW.tree]at hu;subst hu;exact zIV v [i] (h.zero v (by grind)) (by grind[pHd])
   |slot s t=>
    simp only[hp]at hs;split at hs
    ·cases hs
    ·rename_i hm
     simp[hp,yW.tree]at hu;subst hu;have h1:=(gc.ent s t (h.slot s t (by grind)).1).2.1;have h2:G2.hd d [i]=G.hd s []:=by have:=ey [];grind[pHd]
     cases t<;>simp[sH]at hm<;>simp only[R]at h1 ⊢ <;>rw[h2]<;>exact h1
 ·intro s p gC
  have:s∉xT ps:=fun gR=>gC 1 (by grind[sD])
  grind[zH4,zDd]
theorem zDG(gc:Rep Γ E G tmps w)(h:tJ E d ps)(G2:Gh):∀(qs:List yW)(i0:Nat),(∀i q,qs[i]? =jq q→ps[i0+i]? =jq q)→(∀i z,G2.hd d (z++[i])=pHd G ps i z)→
  yJ G2 d (qs.map yW.tree) [] i0=qs.flatMap (sZ G)
 | [],_,_,_=>by rfl
 |q::qs,i0,hq,ey=>by
  have h0:ps[i0]? =jq q:=by simpa using hq 0 q (by simp)
  have ih:=zDG gc h G2 qs (i0+1) (fun i p hp=>by rw[show i0+1+i=i0+(i+1)from by omega];simp_all) ey;simp only[Jm,yJ,La,ih]
  congr 1
  cases q with
  |slot s t=>exact zBq t [] [i0] (by grind[pHd])
  |zero u=>exact zEP u [i0] (h.zero u (by grind)) (by grind[pHd])
end
end Go.Ab

namespace Go.Ab
open Go
section
variable {P:Program}{Γ:Ctx}{E:Env}{o:Oper}{d:Nat}
theorem zHM{G G':Gh}{w':World}{s i:Nat}{t:T}{v:Option Value}(hv:v=jq (mkV G s t []))(gU:∀xs,t≠.tup xs)(hs:∀p,G'.hd s p=G.hd s p)(my:∀z,G'.hd d (z++[i])=G.hd s z)
  (hr:R Γ.St G' w' d t [i]):Ent Γ G' w' v s (cpT d t [i]):=by
 have hz:∀z,G'.hd s (z++[])=G'.hd d (z++[i]):=fun z=>by rw[Jk,hs,my]
 refine⟨?_,?_,qR d t [i]⟩
 ·rw[hv,zAV (G:=G') (G':=G') t [i] [] gU hz,zAw G s t [] gU,zBT t [] [i] (fun z=>by rw[my,Jk])]
 ·exact zDB (G:=G') (G':=G') (fun _=>rfl) t [i] [] hz gU (xC.triv (fun _ _=>⟨rfl,rfl⟩) _) hr
theorem zB9{G:Gh}{a:Act}{w w':World}{ps:List yW}(gc:Rep Γ E G a.tmps w)(h:tJ E d ps)(hd:d<Γ.N){cells:Array Value}{e:TypeId}(hw:w'.heap=w.heap.push (.cells cells e))
  (fF:∀(o:Nat)(v:Value),(ps.flatMap (sZ G))[o]? =jq v→cells[o]? =jq v)
  (rt:T)(gT:Value)
  (eJ:(∃k cap,rt=.sl k (ps.map yW.tree)∧(∀p∈ps,p.tree.size=k)∧gT=.slice (jq ⟨w.heap.size,0,jr⟩) ps.length cap∧ps.length≤cap∧cap≤maxLen∧cells.size=cap*k)∨
   ∃p,ps=[p]∧rt=.ptr p.tree∧gT=.pointer (jq ⟨w.heap.size,0,jr⟩)∧cells.size=p.tree.size)
  (ho:w'.os=w.os:=by rfl)(hq:w'.output=w.output:=by rfl):
  ∃G',Rep Γ (E.app ((d,jq rt)::pWr d ps 0) ((d,0)::sD ps)) G' (a.tmps.setIfInBounds d gT) w':=by
 obtain⟨f1,f0,f2,f3,f4,f5,f6⟩:=zFx gc h;have hh:gT.oneCell'=js:=by rcases eJ with⟨k,cap,_,_,rfl,_⟩|⟨p,_,_,rfl,_⟩<;>rfl
 have mw:=Kj.1 h.dist;obtain⟨g1,g2,g3,g4,g5⟩:=zDc gc.mem hw d (ps.map yW.tree) (zGs ps) (zH4 ps) (pHd G ps) gT (sD ps) f1 f2 hh f3 f4 f5
  (fun G2 ey o v hv=>fF o v (by rw[zDG gc h G2 ps 0 (fun i q hq=>by simpa using hq) ey]at hv;exact hv)) f6 (ho:=ho) (hq:=hq)
 refine⟨_,wQ gc (by simp) g1 g2 ?_ ?_⟩
 ·intro s hs
  simp only[Wr.find]at hs;split at hs
  ·cases hs
  ·rename_i gf
   have aC:=zC0 ps d 0 s hs;refine⟨fun n hn=>?_,by rw[J6];simp[gf]⟩;simp only[Js,Q6.injEq,sD,Jh]at hn;rcases hn with⟨e1,_⟩|⟨y,hy,e1,_⟩
   ·exact gf e1.symm
   ·exact aC (e1▸hy)
 ·intro s t hs
  simp only[Wr.find]at hs;split at hs
  ·rename_i he
   subst he;simp at hs;subst hs;have cI:(G.nb d w.heap.size (ps.map yW.tree) (zGs ps) (zH4 ps) (pHd G ps) gT).hd d []=gT:=by simp[Gh.nb]
   have how:(G.nb d w.heap.size (ps.map yW.tree) (zGs ps) (zH4 ps) (pHd G ps) gT).ow w.heap.size=jq (d,[]):=by simp[Gh.nb]
   refine⟨?_,?_,?_⟩
   ·rw[J6]
    rcases eJ with⟨k,cap,rfl,_⟩|⟨p,_,rfl,_⟩<;>simp[gc.size,hd,mkV,cI]
   ·rcases eJ with⟨k,cap,rfl,hk,h1,h2,h3,h4⟩|⟨p,rfl,rfl,h1,h4⟩
    ·simp only[R]
     rw[cI];refine .inr ⟨w.heap.size,0,cap,cells,e,by simpa using h1,g5,by simpa using h2,h3,by omega,how,?_,zQ3 _ _ _ _ _ (fun x hx=>?_) g3 g4⟩
     ·intro o ho _
      have gu:T.sizes (ps.map yW.tree)=(ps.map yW.tree).length*k:=wT _ (fun x hx=>by obtain⟨p,hp,rfl⟩:=Jh.1 hx;exact hk p hp)
      simp[Gh.nb,zDE (ps.map yW.tree) [] 0 o (by omega)]
     ·obtain⟨p,hp,rfl⟩:=Jh.1 hx
      exact hk p hp
    ·simp only[R]
     rw[cI];simp only[Jm,Ja9,vJ,RF]at g3 g4;exact⟨w.heap.size,cells,e,h1,g5,h4,how,g3.1,g4.1⟩
   ·rcases eJ with⟨k,cap,rfl,_⟩|⟨p,rfl,rfl,_⟩
    ·simp only[Top];exact f0
    ·simp only[Top];exact f0.1
  ·rename_i gf
   obtain⟨i,u,h1,h2,h3⟩:=zCz ps d 0 s _ hs;simp only[Jc]at h3;simp at h3;subst h3;obtain⟨h4,h5,h6⟩:=h.slot s u (Kx h1);have gU:∀xs,u≠.tup xs:=by rintro xs rfl;simp[T.okTup]at h6
   have hi:(ps.map yW.tree)[i]? =jq u:=by simp[h1,yW.tree]
   have hr:=zBy _ [] 0 i u g4 hi;simp only[Jc]at hr;refine zHM (G:=G) (by rw[J6];simp only[gf,if_false];exact(gc.ent s u h4).1) gU (fun p=>?_) (fun z=>?_) hr
   ·simp[Gh.nb,show s≠d from fun e=>gf e.symm]
   ·simp[Gh.nb,pHd,h1]
inductive zA6 (E:Env):Operand→yW→Prop where
 |slot (s:Nat) (t:T):zA6 E (.tmp s) (.slot s t)
 |zero (v:Value) (u:T) (h:tQ u=v.cells.toList):zA6 E (.const v) (.zero u)
theorem zAW{G:Gh}{a:Act}{w:World}{ps:List yW}(gc:Rep Γ E G a.tmps w)(h:tJ E d ps){x:Operand}{p:yW}(hp:p∈ps)(hx:zA6 E x p):
  (a.eval x).cells.toList=sZ G p:=by
 cases hx with
 |slot s t=>
  obtain⟨h1,h2,h3⟩:=h.slot s t hp;obtain⟨h4,_,_⟩:=gc.ent s t h1;rw[wG h4];cases t with
  |agg xs=>simp[mkV,Value.cells,vals,sZ]
  |tup xs=>simp[T.okTup]at h3
  |_=>
   have:=gc.mem.one s [];simp only[mkV,vals,sZ]
   generalize G.hd s []=v at this
   cases v<;>simp[Value.oneCell',Value.cells]at this ⊢
 |zero v u h=>simp[Act.eval,h,sZ]
def uH(E:Env):List Operand→List yW→Prop
 | [],[]=>True
 |x::xs,p::ps=>zA6 E x p∧uH E xs ps
 |_,_=>False
theorem uH.length:(xs:List Operand)→(ps:List yW)→uH E xs ps→xs.length=ps.length
 | [],[],_=>rfl
 |_::xs,_::ps,h=>by simp[uH.length xs ps h.2]
 | [],_::_,h=>by simp[uH]at h
 |_::_,[],h=>by simp[uH]at h
theorem uH.mem:(xs:List Operand)→(ps:List yW)→uH E xs ps→ ∀x∈xs,∃p,p∈ps∧zA6 E x p
 | [],_,_,x,hx=>by simp at hx
 |y::xs,p::ps,h,x,hx=>by
  rcases Js.1 hx with rfl|hx
  ·exact⟨p,by simp,h.1⟩
  ·obtain⟨q,hq,hxq⟩:=uH.mem xs ps h.2 x hx;exact⟨q,by simp[hq],hxq⟩
 |_::_,[],h,_,_=>by simp[uH]at h
theorem zGt{G:Gh}{a:Act}{w:World}{ps:List yW}(gc:Rep Γ E G a.tmps w)(h:tJ E d ps):∀(xs:List Operand)(qs:List yW),(∀q∈qs,q∈ps)→uH E xs qs→
  ((xs.map a.eval).flatMap fun v=>v.cells.toList)=qs.flatMap (sZ G)
 | [],[],_,_=>rfl
 |x::xs,q::qs,hq,hx=>by simp only[Jm,La,zAW gc h (hq q (by simp)) hx.1,zGt gc h xs qs (fun p hp=>hq p (by simp[hp])) hx.2]
 | [],_::_,_,hx=>by simp[uH]at hx
 |_::_,[],_,hx=>by simp[uH]at hx
theorem zQ4(T':TypeId)(ti:TypeInfo)(z:Value)(u:T)(ho:o.op=.alloc T')(gg:o.dst=jq d)(hd:d<Γ.N)
  (hi:P.info? T'=jq ti)(hz:ti.zero=jq z)(hu:u.zOk=js)(hv:tQ u=z.cells.toList)(gu:z.cells.size=u.size):
  wC P Γ o E (E.app [(d,jq (.ptr u))] [(d,0)]):=by
 refine wC.value gg fun a w G gc=>?_
 have gO:tJ E d [.zero u]:=⟨fun s t h=>by simp at h,fun v h=>by simp at h;subst h;exact hu,by simp[xT]⟩;obtain⟨G',gk⟩:=zB9 (w':=w.alloc (.cells z.cells T')) gc gO hd (cells:=z.cells) (e:=T') rfl (fun o v h=>by simpa[hv,sZ]using h) (.ptr u) (.pointer (jq ⟨w.heap.size,0,jr⟩)) (.inr ⟨.zero u,rfl,rfl,rfl,gu⟩);refine⟨_,_,?_,G',by simpa[pWr,sD,xT]using gk⟩;simp[execOp,ho,Instr.alloc,zeroValue,typeInfo,hi,hz,newVar,newRow]
theorem zXc(T':TypeId)(x:Operand)(p:yW)(ho:o.op=.box T' x)(gg:o.dst=jq d)(hd:d<Γ.N)(hx:zA6 E x p)(gO:tJ E d [p]):
  wC P Γ o E (E.app ((d,jq (.ptr p.tree))::pWr d [p] 0) ((d,0)::sD [p])):=by
 refine wC.value gg fun a w G gc=>?_
 have hc:=zAW gc gO (by simp) hx;have gu:(a.eval x).cells.size=p.tree.size:=by
  rw[←K8,hc];cases p with
  |slot s t=>
   obtain⟨_,_,h3⟩:=gO.slot s t (by simp);show(vals G s t []).length=t.size;exact vF t [] (by rintro xs rfl;simp[T.okTup]at h3)
  |zero u=>exact vM u (gO.zero u (by simp))
 obtain⟨G',gk⟩:=zB9 (w':=w.alloc (.cells (a.eval x).cells T')) gc gO hd (cells:=(a.eval x).cells) (e:=T') rfl (fun o v h=>by rw[←K6,hc];simpa using h) (.ptr p.tree) (.pointer (jq ⟨w.heap.size,0,jr⟩)) (.inr ⟨p,rfl,rfl,rfl,gu⟩)
 refine⟨_,_,?_,G',gk⟩;simp[execOp,ho,Instr.box,newVar,newRow]
theorem zH5(t e:TypeId)(ti:TypeInfo)(z:Value)(k n:Nat)(xs:List Operand)(ps:List yW)(ho:o.op=.buildSlice t n ((xs.zipIdx 0).map fun x=>(x.2,x.1)).toArray)(gg:o.dst=jq d)(hd:d<Γ.N)
  (ht:P.underlying t=jq (.slice e))(hi:P.info? e=jq ti)(hz:ti.zero=jq z)(hk:ti.size=k)(eA:0<k)(hn:xs.length=n)(aG:0<n)(hsm:n*k≤2 ^ 24)
  (hx:uH E xs ps)(gO:tJ E d ps)(gu:∀p∈ps,p.tree.size=k):
  wC P Γ o E (E.app ((d,jq (.sl k (ps.map yW.tree)))::pWr d ps 0) ((d,0)::sD ps)):=by
 refine wC.value gg fun a w G gc=>?_
 subst hk;have gv:xs.length=ps.length:=uH.length xs ps hx;have hc:=zGt gc gO xs ps (fun _ h=>h) hx;have pu:∀v∈xs.map a.eval,v.cells.size=ti.size:=by
  intro v hv;obtain⟨x,bP,rfl⟩:=Jh.1 hv;obtain⟨p,hp,hxp⟩:=uH.mem xs ps hx x bP;rw[←K8,zAW gc gO hp hxp,←gu p hp];cases p with
  |slot s t=>
   obtain⟨_,_,h3⟩:=gO.slot s t hp;show(vals G s t []).length=t.size;exact vF t [] (by rintro xs rfl;simp[T.okTup]at h3)
  |zero u=>exact vM u (gO.zero u hp)
 have aS:=Great.fill_whole eA (xs.map a.eval) ((Jal (n*ti.size)).map (z.cells[· %z.cells.size]!)) pu (by simp[hn]);have bi:((((xs.zipIdx 0).map fun x=>(x.2,x.1)).toArray).map fun(i,x)=>(i,a.eval x)).toList=((xs.map a.eval).zipIdx 0).map fun x=>(x.2,x.1):=by simp[List.zipIdx_map,Function.comp_def]
 have gx:=run_buildSlice (P:=P) w t e n _ _ ti z ht hi hz (by omega) (by have:=Nat.mul_pos aG eA;omega) (by rw[bi];exact aS);have gL:((xs.map a.eval).flatMap fun v=>v.cells.toList).toArray.size=n*ti.size:=by rw[Qp,flat_len (k:=ti.size) _ (fun v hv=>by rw[K8];exact pu v hv)];simp[hn]
 obtain⟨G',gk⟩:=zB9 (w':=w.alloc (.cells ((xs.map a.eval).flatMap fun v=>v.cells.toList).toArray e)) gc gO hd rfl (fun o v h=>by rw[hc];simpa using h) (.sl ti.size (ps.map yW.tree)) (.slice (jq ⟨w.heap.size,0,jr⟩) n n) (.inl ⟨ti.size,n,rfl,gu,by rw[←gv,hn],by omega,by have:n≤n*ti.size:=Nat.le_mul_of_pos_right n eA;simp only[maxLen];omega,gL⟩)
 refine⟨_,_,?_,G',gk⟩;simp only[execOp,ho,Sem.run_bind,gx,Result.andThen_ok];rfl
where
 flat_len {k:Nat} (vs:List Value) (h:∀v∈vs,v.cells.toList.length=k):(vs.flatMap fun v=>v.cells.toList).length=vs.length*k:=by
  induction vs with
  |nil=>simp
  |cons v vs ih=>simp[La,ih (fun u hu=>h u (by simp[hu])),Ly];have:=h v (by simp);simp at this;omega
end
end Go.Ab

namespace Go.Ab
open Go
theorem zIW{α β:Type}(f:α→List β)(x:α)(k:Nat)(hk:(f x).length=k)(eA:0<k):∀(n o:Nat)(v:β),((J1 n x).flatMap f)[o]? =jq v→o<n*k∧(f x)[o%k]? =jq v
 |0,o,v,h=>by simp at h
 |n+1,o,v,h=>by
  rw[Ks,La,Kb]at h;split at h
  ·grind[Nat.mod_eq_of_lt]
  ·rename_i hge
   rw[hk]at h hge;obtain⟨h1,h2⟩:=zIW f x k hk eA n (o-k) v h
   grind[Nat.mod_eq_sub_mod]
section
variable {P:Program}{Γ:Ctx}{E:Env}{o:Oper}{d:Nat}
theorem zTH(t e:TypeId)(ti:TypeInfo)(z:Value)(u:T)(k:Nat)(x y:Operand)(n c:Nat)(kl kc:IntKind)(ho:o.op=.makeSlice t x y)(gg:o.dst=jq d)(hd:d<Γ.N)
  (ht:P.underlying t=jq (.slice e))(hi:P.info? e=jq ti)(hz:ti.zero=jq z)(hk:ti.size=k)(eA:0<k)(hu:u.zOk=js)(hv:tQ u=z.cells.toList)(fd:u.size=k)(hb:ti.bytes≤4096)
  (hx:opT E x=jq (.lit (.int kl n)))(hy:opT E y=jq (.lit (.int kc c)))(bX:n≤c)(hc:c≤68719476736):
  wC P Γ o E (E.app [(d,jq (.sl k (J1 n u)))] [(d,0)]):=by
 refine wC.value gg fun a w G gc=>?_
 have h1:=(xD gc hx).1;have h2:=(xD gc hy).1;subst hk;have gO:tJ E d (J1 n (.zero u)):=⟨by simp,by grind,by
  have:∀m,xT (J1 m (.zero u))=[]:=by intro m;induction m with|zero=>rfl|succ m ih=>grind[xT]
  simp[this]⟩
 have bN:z.cells.size=ti.size:=by grind[vM]
 have bD:(ti.bytes:Int)*(c:Int)≤281474976710656:=by have:ti.bytes*c≤4096*68719476736:=Uf hb hc;omega
 have gx:=run_make (P:=P) w t e ti z ht hi hz kl kc n c (by omega) (by omega) bD (by omega);simp only[J9]at gx;obtain⟨G',gk⟩:=zB9 (w':=w.alloc (.cells (madeCells z.cells (c*ti.size)) e)) gc gO hd rfl (fun i v h=>by
  obtain⟨h3,h4⟩:=zIW (sZ G) (.zero u) ti.size (by grind[sZ]) eA n i v h
  grind[Jaf,Lh,sZ,madeCells]) (.sl ti.size (J1 n u)) (.slice (jq ⟨w.heap.size,0,jr⟩) n c)
  (.inl ⟨ti.size,c,by simp[yW.tree],fun p hp=>by simp at hp;obtain⟨_,rfl⟩:=hp;exact fd,by simp,by grind,by grind[maxLen],by simp[madeCells]⟩)
 refine⟨.slice (jq ⟨w.heap.size,0,jr⟩) n c,w.alloc (.cells (madeCells z.cells (c*ti.size)) e),?_,G',?_⟩
 ·simp only[execOp,ho,h1,h2,Sem.run_bind,gx,Result.andThen_ok]
  rfl
 ·have h6:∀m i,pWr d (J1 m (.zero u)) i=[]:=by intro m;induction m with|zero=>intro i;rfl|succ m ih=>grind[pWr]
  have h7:sD (J1 n (.zero u))=[]:=by
   have:∀m,xT (J1 m (.zero u))=[]:=by intro m;induction m with|zero=>rfl|succ m ih=>grind[xT]
   grind[sD]
  grind
theorem zGu(t e:TypeId)(ti:TypeInfo)(k:Nat)(ho:o.op=.buildSlice t 0 #[])(gg:o.dst=jq d)(hd:d<Γ.N)
  (ht:P.underlying t=jq (.slice e))(hi:P.info? e=jq ti):wC P Γ o E (E.app [(d,jq (.sl k []))] [(d,0)]):=by
 refine wC.value gg fun a w G gc=>?_
 have gO:tJ E d []:=⟨by simp,by simp,by simp[xT]⟩;obtain⟨G',gk⟩:=zB9 (w':=w.alloc (.cells #[] e)) gc gO hd (cells:=#[]) rfl (by simp) (.sl k []) (.slice (jq ⟨w.heap.size,0,jr⟩) 0 0)
  (by simp)
 refine⟨_,_,?_,G',gk⟩;have h0:(Jal 0:Array Nat)= #[]:=by rfl
 simp[execOp,ho,Instr.buildSlice,run_underlying ht,sizeOf,typeInfo,hi,Instr.fill,newRow,h0]
theorem zKc(k:Nat)(x:Operand)(ho:o.op=.move x∨o.op=.assign x)(hx:x=.const (.slice jr 0 0))(gg:o.dst=jq d)(hd:d<Γ.N):wC P Γ o E (E.app [(d,jq (.sl k []))] [(d,0)]):=by
 refine wC.value gg fun a w G gc=>?_
 refine⟨.slice jr 0 0,w,?_,_,vH gc rfl hd (fun _=>.slice jr 0 0) (fun _=>rfl) (.sl k []) (.slice jr 0 0) (by simp[mkV,Gh.put]) (by simp[R,Gh.put]) (by simp[Top,xE,xX])⟩;subst hx;rcases ho with ho|ho<;>simp[execOp,ho,Act.eval]
def Gh.nv(G:Gh)(d:Nat)(src:Nat→Option (Nat×List Nat))(φ:Nat→List Nat→Option (List Nat))(f:Nat→List Nat→Value):Gh where
 hd s z:=if s=d then(match z.getLast? with
  |some i=>f i z.dropLast
  |none=>.bool jt)else G.hd s z
 ad s z:=if s=d then(match z.getLast? with
  |some i=>(match src i with
   |some (x,q)=>G.ad x (z.dropLast++q)
   |none=>default)
  |none=>default)else G.ad s z
 lb b o:=match G.lb b o with
  |some (fl,s,z)=>(match φ s z with
   |some z'=>jq (fl,d,z')
   |none=>jq (fl,s,z))
  |none=>jr
 ow b:=match G.ow b with
  |some (s,z)=>(match φ s z with
   |some z'=>jq (d,z')
   |none=>jq (s,z))
  |none=>jr
theorem zTI{G:Gh}{a:Act}{w:World}{ps:List yW}(gc:Rep Γ E G a.tmps w)(h:tJ E d ps)(hd:d<Γ.N):
  ∃G',Rep Γ (E.app ((d,jq (.agg (ps.map yW.tree)))::pWr d ps 0) ((d,0)::sD ps)) G' (a.tmps.setIfInBounds d (.agg (ps.flatMap (sZ G)).toArray)) w:=by
 obtain⟨f1,f0,f2,f3,f4,f5,f6⟩:=zFx gc h;have hm:=gc.mem;have gA:Blk w w:=fun b cs e' h=>⟨cs,h,rfl⟩
 generalize gk:G.nv d (zGs ps) (zH4 ps) (pHd G ps)=G'
 have ghd:∀i z,G'.hd d (z++[i])=pHd G ps i z:=by grind[Gh.nv]
 have ghd':∀s z,s≠d→G'.hd s z=G.hd s z:=by grind[Gh.nv]
 have glbm:∀b o fl x z z',G.lb b o=jq (fl,x,z)→zH4 ps x z=jq z'→G'.lb b o=jq (fl,d,z'):=by grind[Gh.nv]
 have gowm:∀b x z z',G.ow b=jq (x,z)→zH4 ps x z=jq z'→G'.ow b=jq (d,z'):=by grind[Gh.nv]
 have gf:∀s p,Off ((d,0)::sD ps) s p→s≠d:=fun s p h e=>absurd (h 0 (by simp[e])) (by simp)
 have gw:sG ((d,0)::sD ps) G w G' w:=by
  refine⟨by grind,fun s p h=>?_,fun b o fl s p _ hl h=>⟨?_,rfl⟩,fun b s p hl h=>?_,gA,by intros;assumption⟩
  ·grind[Gh.nv]
  all_goals grind[Gh.nv]
 have gz:Mem Γ G' w:=by
  refine⟨fun s p=>?_,fun b o l hl=>?_,fun b l hl=>?_,hm.st,hm.fr,hm.sz,hm.bk⟩
  ·rw[←gk]
   simp only[Gh.nv];split
   ·split
    ·grind
    ·rfl
   ·exact hm.one s p
  ·rw[←gk]at hl
   simp only[Gh.nv]at hl;split at hl
   ·rename_i hg;exact hm.lb b o _ hg
   ·cases hl
  ·rw[←gk]at hl
   simp only[Gh.nv]at hl;split at hl
   ·rename_i hg;exact hm.ow b _ hg
   ·cases hl
 have g4:RF Γ.St G' w d (ps.map yW.tree) [] 0:=by
  refine zNx _ [] 0 (fun i u hu=>?_);rw[Jc];cases hs:zGs ps i with
  |none=>grind
  |some xq=>
   obtain⟨x,q⟩:=xq;obtain⟨h1,h2,h3,h4⟩:=f4 i u x q hu hs;refine zKb u q [i] (zDc.okTups_get _ f1 i u hu) ⟨by grind,by grind[Gh.nv],by grind,
    by grind,gA,by intros;assumption⟩ (by grind[xC.mono]) h2
 refine⟨G',wQ gc (by simp) gw gz ?_ ?_⟩
 ·grind[Wr.find,zC0,sD]
 ·intro s t hs
  simp only[Wr.find]at hs;split at hs
  ·rename_i he
   subst he;simp at hs;subst hs;refine⟨?_,by simpa only[R]using g4,by simp only[Top];exact vV.of_clean _ f0⟩;rw[J6];simp only[gc.size,hd,mkV,if_true];rw[zDG gc h G' ps 0 (by simp) ghd]
  ·rename_i gf
   obtain⟨i,u,h1,h2,h3⟩:=zCz ps d 0 s _ hs;simp only[Jc]at h3;simp at h3;subst h3;obtain⟨h4,h5,h6⟩:=h.slot s u (by grind);have gU:∀xs,u≠.tup xs:=by rintro xs rfl;grind[T.okTup]
   have hi:(ps.map yW.tree)[i]? =jq u:=by simp[h1,yW.tree]
   have hr:=zBy _ [] 0 i u g4 hi;simp only[Jc]at hr;refine zHM (G:=G) (by rw[J6];simp only[gf,if_false];exact(gc.ent s u h4).1) gU (by grind) (fun z=>?_) hr
   grind[pHd]
theorem zNz(off:Nat):∀(vs:List Value)(i:Nat)(cs:Array Value)(k:Nat),off+i+vs.length≤cs.size→
  ((vs.zipIdx i).foldl (fun cs(x:Value×Nat)=>cs.setIfInBounds (off+x.2) x.1) cs)[k]? =if off+i≤k∧k<off+i+vs.length then vs[k-(off+i)]? else cs[k]?
 | [],i,cs,k,_=>by simp;omega
 |v::vs,i,cs,k,h=>by
  simp only[Jx]at h;simp only[List.zipIdx_cons,List.foldl_cons];rw[zNz off vs (i+1) _ k (by simp;omega)]
  grind
theorem zGv{pv:yW→List Value}(place:Nat→Option (Nat×Nat)):∀(vs:List (Nat×Value))(qs:List (Nat×yW))(ps:List yW)(cs:Array Value),cs.toList=ps.flatMap pv→
  (∀i p,ps[i]? =jq p→place i=jq (((ps.take i).flatMap pv).length,(pv p).length))→
  vs.map (·.1)=qs.map (·.1)→(∀(j:Nat)(v:Nat×Value)(q:Nat×yW),vs[j]? =jq v→qs[j]? =jq q→v.2.cells.toList=pv q.2∧ ∃p,ps[q.1]? =jq p∧(pv p).length=(pv q.2).length)→
  ∃cs',Instr.fill place cs vs=jq cs'∧cs'.toList=(qs.foldl (fun ps q=>ps.set q.1 q.2) ps).flatMap pv
 | [],[],ps,cs,eD,_,_,_=>⟨cs,rfl,eD⟩
 | [],_::_,_,_,_,_,h,_=>by simp at h
 |_::_,[],_,_,_,_,h,_=>by simp at h
 |(i,v)::vs,(i',q)::qs,ps,cs,eD,dq,hi,hq=>by
  simp only[Jm,Qm.injEq]at hi;obtain⟨iU,hi⟩:=hi;subst iU;obtain⟨h1,p,h2,h3⟩:=hq 0 (i,v) (i,q) rfl rfl;dsimp only at h1 h2 h3;have iA:=dq i p h2;have gE:=(Ja.1 h2).1;have mO:ps=ps.take i++p::ps.drop (i+1):=by grind[Lv,List.take_append_drop]
  have gm:ps.set i q=ps.take i++q::ps.drop (i+1):=by grind
  have mG:v.cells.size=(pv p).length:=by grind
  have gK:cs.size=((ps.take i).flatMap pv).length+((pv p).length+((ps.drop (i+1)).flatMap pv).length):=by grind[K8]
  have gQ:(v.cells.zipIdx.foldl (fun cs(x:Value×Nat)=>cs.setIfInBounds (((ps.take i).flatMap pv).length+x.2) x.1) cs).toList=(ps.set i q).flatMap pv:=by
   rw[gm];simp only[Qa,La,←h1];apply Kl;intro k;rw[←Array.foldl_toList,K6,show v.cells.zipIdx.toList=v.cells.toList.zipIdx 0 from by simp,zNz _ _ 0 cs k (by grind)];have jd:cs.toList=((ps.take i).flatMap pv)++(pv p++(ps.drop (i+1)).flatMap pv):=by grind
   have hvl2:v.cells.toList.length=(pv p).length:=by rw[h1,h3]
   rw[←K6,jd]
   grind
  have iB:∀j p',(ps.set i q)[j]? =jq p'→place j=jq ((((ps.set i q).take j).flatMap pv).length,(pv p').length):=by
   intro j p' cb;have fX:(((ps.set i q).take j).flatMap pv).length=((ps.take j).flatMap pv).length:=by
    rw[gm]
    conv=>rhs;rw[mO]
    by_cases hj:j≤i
    ·grind
    ·rw[Qv,Qv]
     simp only[Qa,J8]
     congr 1
     have:j-(ps.take i).length=(j-(ps.take i).length-1)+1:=by simp;omega
     grind
   grind
  have hq':∀(j:Nat)(x:Nat×Value)(y:Nat×yW),vs[j]? =jq x→qs[j]? =jq y→x.2.cells.toList=pv y.2∧ ∃p,(ps.set i q)[y.1]? =jq p∧(pv p).length=(pv y.2).length:=by
   intro j x y hx hy;obtain⟨h6,p',h7,h8⟩:=hq (j+1) x y (by grind) (by grind)
   grind
  obtain⟨cs',h4,h5⟩:=zGv place vs qs (ps.set i q) _ gQ iB hi hq'
  grind[Instr.fill]
theorem vY{t:TypeId}{it:TypeInfo}{fields:Array Field}{z:Value}{places:List (Nat×Nat)}(hi:P.info? t=jq it)(hu:P.underlying t=jq (.struct fields))(hz:it.zero=jq z)
  (hp:fields.toList.mapM (fun f=>(P.info? f.type).map fun i=>(f.offset,i.size))=jq places)(parts:List (Nat×Value)):P.built t parts=Instr.fill (places.toArray[·]?) z.cells parts:=by
 grind[Program.built]
theorem zEQ{G:Gh}:(zs:List T)→(zs.map yW.zero).flatMap (sZ G)=qE zs
 | []=>rfl
 |z::zs=>by simp[sZ,qE,←zEQ (G:=G) zs]
theorem zQ5(t:TypeId)(place:Nat→Option (Nat×Nat))(z:Value)(zs:List T)(pl:List (Nat×Operand))(qs:List (Nat×yW))(ps:List yW)(ho:o.op=.build t pl.toArray)(gg:o.dst=jq d)(hd:d<Γ.N)
  (hb:∀parts,P.built t parts=Instr.fill place z.cells parts)(hzv:qE zs=z.cells.toList)(hz:zAM zs=js)(dq:∀i u,zs[i]? =jq u→place i=jq (T.sizes (zs.take i),u.size))
  (gO:qs.foldl (fun ps q=>ps.set q.1 q.2) (zs.map yW.zero)=ps)(gD:tJ E d ps)(hix:pl.map (·.1)=qs.map (·.1))
  (hq:∀(j:Nat)(x:Nat×Operand)(q:Nat×yW),pl[j]? =jq x→qs[j]? =jq q→zA6 E x.2 q.2∧q.2∈ps∧ ∃u,zs[q.1]? =jq u∧u.size=q.2.tree.size):
  wC P Γ o E (E.app ((d,jq (.agg (ps.map yW.tree)))::pWr d ps 0) ((d,0)::sD ps)):=by
 refine wC.value gg fun a w G gc=>?_
 obtain⟨G',gk⟩:=zTI gc gD hd;have gu:∀(us:List T),zAM us=js→((us.map yW.zero).flatMap (sZ G)).length=T.sizes us:=by grind[zEQ,zBz]
 obtain⟨cs',h1,h2⟩:=zGv (pv:=sZ G) place (pl.map fun x=>(x.1,a.eval x.2)) qs (zs.map yW.zero) z.cells (by rw[zEQ,hzv]) (fun i p hp=>by
   rw[Jp]at hp;cases hu:zs[i]? with
   |none=>grind
   |some u=>
    simp[hu]at hp;subst hp;rw[dq i u hu,←U8,gu _ (zOks_take zs i hz),sZ,vM u (zOks_get zs hz i u hu)])
  (by grind[Function.comp_def]) (fun j v q hv hqj=>by
   rw[Jp]at hv;cases hx:pl[j]? with
   |none=>grind
   |some x=>
    simp[hx]at hv;subst hv;obtain⟨h3,h4,u,h5,h6⟩:=hq j x q hx hqj;refine⟨zAW gc gD h4 h3,.zero u,by simp[h5],?_⟩;rw[sZ,vM u (zOks_get zs hz _ u h5),h6];cases aw:q.2 with
    |slot s t=>
     rw[aw]at h4;obtain⟨_,_,h7⟩:=gD.slot s t h4;exact(vF t [] (by rintro xs rfl;grind[T.okTup])).symm
    |zero u'=>
     rw[aw]at h4;exact(vM u' (gD.zero u' h4)).symm)
 rw[gO]at h2;have h3:cs'=(ps.flatMap (sZ G)).toArray:=by rw[←h2]
 refine⟨_,w,?_,G',gk⟩;have gx:=run_build (P:=P) w t (pl.map fun x=>(x.1,a.eval x.2)).toArray cs' (by grind);simp only[Jai,execOp,ho,Sem.run_bind]at gx ⊢
 simp_all
where
 zOks_get:(xs:List T)→zAM xs=js→ ∀(i:Nat)(x:T),xs[i]? =jq x→x.zOk=js
  | [],_,_,_,h=>by simp at h
  |y::ys,hk,i,x,h=>by
   simp only[zAM,J3]at hk;cases i with
   |zero=>grind
   |succ i=>exact zOks_get ys hk.2 i x (by grind)
 zOks_take:(xs:List T)→ ∀i,zAM xs=js→zAM (xs.take i)=js
  | [],i,_=>by simp[zAM]
  |y::ys,0,_=>by simp[zAM]
  |y::ys,i+1,hk=>by
   simp only[zAM,J3,L4]at hk ⊢
   exact⟨hk.1,zOks_take ys i hk.2⟩
end
end Go.Ab

namespace Go.Ab
open Go
mutual
def vB:T→T→Bool
 |.agg xs,.agg ys=>zAp xs ys
 |.agg _,_=>jt
 |.tup _,_=>jt
 |_,.agg _=>jt
 |_,.tup _=>jt
 |.any,_|.lit _,_|.ro _,_|.same _ _,_|.addr _ _,_|.sub _ _ _ _ _,_|.sl _ _,_|.ptr _,_|.mp _ _,_=>js
def zAp:List T→List T→Bool
 | [],[]=>js
 |x::xs,y::ys=>vB x y&&zAp xs ys
 | [],_::_=>jt
 |_::_,[]=>jt
end
mutual
theorem zC1:(x y:T)→vB x y=js→x.size=y.size
 |.agg xs,.agg ys,h=>by simp only[vB]at h;simp only[T.size];exact zEk xs ys h
 |.agg _,.any,h|.agg _,.lit _,h|.agg _,.ro _,h|.agg _,.same _ _,h|.agg _,.addr _ _,h|.agg _,.sub _ _ _ _ _,h|.agg _,.sl _ _,h|.agg _,.ptr _,h|.agg _,.tup _,h=>by grind[vB]
 |.tup _,_,h=>by grind[vB]
 |.any,y,h|.lit _,y,h|.ro _,y,h|.same _ _,y,h|.addr _ _,y,h|.sub _ _ _ _ _,y,h|.sl _ _,y,h|.ptr _,y,h|.mp _ _,y,h=>by cases y<;>simp[vB]at h<;>simp[T.size]
theorem zEk:(xs ys:List T)→zAp xs ys=js→T.sizes xs=T.sizes ys
 | [],[],_=>rfl
 |x::xs,y::ys,h=>by simp only[zAp,J3]at h;simp only[T.sizes,zC1 x y h.1,zEk xs ys h.2]
 | [],_::_,h=>by grind[zAp]
 |_::_,[],h=>by grind[zAp]
end
section
variable {G:Gh}{w:World}{s:Nat}
mutual
theorem zIX:(t:T)→ ∀(p:List Nat)(b o j:Nat),Loc G w s t p b o→j<t.size→ ∃y,G.lb b (o+j)=jq (jt,s,y++p)
 |.agg xs,p,b,o,j,h,hj=>by simp only[Loc,T.size]at h hj;exact zN0 xs p 0 b o j h.2 hj
 |.any,p,b,o,j,h,hj|.lit _,p,b,o,j,h,hj|.ro _,p,b,o,j,h,hj|.same _ _,p,b,o,j,h,hj|.addr _ _,p,b,o,j,h,hj|.sub _ _ _ _ _,p,b,o,j,h,hj|.sl _ _,p,b,o,j,h,hj|.ptr _,p,b,o,j,h,hj|.mp _ _,p,b,o,j,h,hj=>by
  simp only[Loc,T.size]at h hj
  simp_all
 |.tup _,_,_,_,_,h,_=>by simp only[Loc]at h
theorem zN0:(xs:List T)→ ∀(p:List Nat)(i b o j:Nat),vJ G w s xs p i b o→j<T.sizes xs→ ∃y,G.lb b (o+j)=jq (jt,s,y++p)
 | [],_,_,_,_,_,_,hj=>by grind[T.sizes]
 |x::xs,p,i,b,o,j,h,hj=>by
  simp only[vJ,T.sizes]at h hj
  by_cases gE:j<x.size
  ·obtain⟨y,hy⟩:=zIX x (i::p) b o j h.1 gE
   exact⟨y++[i],by grind⟩
  ·obtain⟨y,hy⟩:=zN0 xs p (i+1) b (o+x.size) (j-x.size) h.2 (by omega)
   grind
end
mutual
theorem zQ6{G':Gh}{w':World}:(u u0:T)→ ∀(p:List Nat)(b o:Nat),vB u u0=js→(∀y,u.inT y.reverse=js→G'.ad s (y++p)=G.ad s (y++p))→
  (∀b o y,G.lb b o=jq (jt,s,y++p)→G'.lb b o=jq (jt,s,y++p))→(∀j v,(vals G' s u p)[j]? =jq v→yQ w' b (o+j)=jq v)→Loc G w s u0 p b o→Loc G' w' s u p b o
 |.agg xs,.agg ys,p,b,o,h,ha,hl,hc,h0=>by
  simp only[Loc,vB]at h h0 ⊢
  refine⟨by have:=ha [] rfl;grind,zN1 xs ys p 0 b o h (fun i x hx y hy=>?_) (by omega) (by grind[vals]) h0.2⟩
  grind[Hy,T.inT]
 |.agg _,.any,_,_,_,h,_,_,_,_|.agg _,.lit _,_,_,_,h,_,_,_,_|.agg _,.ro _,_,_,_,h,_,_,_,_|.agg _,.same _ _,_,_,_,h,_,_,_,_|.agg _,.addr _ _,_,_,_,h,_,_,_,_|.agg _,.sub _ _ _ _ _,_,_,_,h,_,_,_,_|.agg _,.sl _ _,_,_,_,h,_,_,_,_|.agg _,.ptr _,_,_,_,h,_,_,_,_|.agg _,.tup _,_,_,_,h,_,_,_,_=>by grind[vB]
 |.tup _,_,_,_,_,h,_,_,_,_=>by grind[vB]
 |.any,u0,p,b,o,h,ha,hl,hc,h0|.lit _,u0,p,b,o,h,ha,hl,hc,h0|.ro _,u0,p,b,o,h,ha,hl,hc,h0|.same _ _,u0,p,b,o,h,ha,hl,hc,h0|.addr _ _,u0,p,b,o,h,ha,hl,hc,h0|.sub _ _ _ _ _,u0,p,b,o,h,ha,hl,hc,h0|.sl _ _,u0,p,b,o,h,ha,hl,hc,h0|.ptr _,u0,p,b,o,h,ha,hl,hc,h0|.mp _ _,u0,p,b,o,h,ha,hl,hc,h0=>by have h1:=vA (by cases u0<;>simp[vB]at h<;>rfl) h0;have h2:=ha [] rfl;rw[Jy]at h2;simp only[Loc];exact⟨h2.trans h1.1,by simp_all,by simpa using hc 0 (G'.hd s p) (by simp[vals])⟩
theorem zN1{G':Gh}{w':World}:(xs ys:List T)→ ∀(p:List Nat)(j b o:Nat),zAp xs ys=js→(∀i x,xs[i]? =jq x→ ∀y,x.inT y.reverse=js→G'.ad s (y++((j+i)::p))=G.ad s (y++((j+i)::p)))→
  (∀b o y,G.lb b o=jq (jt,s,y++p)→G'.lb b o=jq (jt,s,y++p))→(∀i v,(yJ G' s xs p j)[i]? =jq v→yQ w' b (o+i)=jq v)→vJ G w s ys p j b o→vJ G' w' s xs p j b o
 | [],[],_,_,_,_,_,_,_,_,_=>by simp only[vJ]
 |x::xs,y::ys,p,j,b,o,h,ha,hl,hc,h0=>by
  simp only[zAp,J3,vJ]at h h0 ⊢
  have hs:=zC1 x y h.1;have gU:∀zs,x≠.tup zs:=by rintro zs rfl;grind[vB]
  refine⟨zQ6 x y (j::p) b o h.1 (fun z hz=>by simpa using ha 0 x (by simp) z hz) (fun b o z hz=>by have:=hl b o (z++[j]) (by grind);grind) (fun i v hv=>hc i v ?_) h0.1,
   zN1 xs ys p (j+1) b (o+x.size) h.2 (fun i z hz=>by have:=ha (i+1) z (by grind);grind) hl (fun i v hv=>?_) (by grind)⟩
  ·grind[yJ]
  ·have:=hc (x.size+i) v (by
    grind[yJ,vF])
   grind
 | [],_::_,_,_,_,_,h,_,_,_,_=>by grind[zAp]
 |_::_,[],_,_,_,_,h,_,_,_,_=>by grind[zAp]
end
end
def zFG(p:yW)(q:List Nat)(s:Nat)(z:List Nat):Option (List Nat):=
 match p with
 |.slot s0 t=>if sH t&&s0==s then jq (z++q)else jr
 |.zero _=>jr
def sHd(G:Gh)(p:yW)(y:List Nat):Value:=
 match p with
 |.slot s _=>G.hd s y
 |.zero u=>kO (zhd u y.reverse)
def sWr(r:Nat)(q:List Nat):yW→Wr
 |.slot s t=>if sH t then[(s,jq (cpT r t q))]else[]
 |.zero _=>[]
def Gh.st(G:Gh)(r:Nat)(q:List Nat)(p:yW):Gh where
 hd s z:=if s=r∧q<:+z then sHd G p (z.take (z.length-q.length))else G.hd s z
 ad s z:=if s=r∧q<:+z∧p.tree.inT (z.take (z.length-q.length)).reverse=jt then(match p with
  |.slot s0 _=>G.ad s0 (z.take (z.length-q.length))
  |.zero _=>default)else G.ad s z
 lb b o:=match G.lb b o with
  |some (fl,s,z)=>(match zFG p q s z with
   |some z'=>jq (fl,r,z')
   |none=>jq (fl,s,z))
  |none=>jr
 ow b:=match G.ow b with
  |some (s,z)=>(match zFG p q s z with
   |some z'=>jq (r,z')
   |none=>jq (s,z))
  |none=>jr
mutual
theorem zKd{Γ:Ctx}{G:Gh}{w:World}(hm:Mem Γ G w){s:Nat}:(t:T)→ ∀(p:List Nat)(v:Value),v∈vals G s t p→v.oneCell'=js
 |.agg xs,p,v,h=>by simp only[vals]at h;exact zDe hm xs p 0 v h
 |.any,p,v,h|.lit _,p,v,h|.ro _,p,v,h|.same _ _,p,v,h|.addr _ _,p,v,h|.sub _ _ _ _ _,p,v,h|.sl _ _,p,v,h|.ptr _,p,v,h|.mp _ _,p,v,h|.tup _,p,v,h=>by simp only[vals,List.mem_singleton]at h;rw[h];exact hm.one s p
theorem zDe{Γ:Ctx}{G:Gh}{w:World}(hm:Mem Γ G w){s:Nat}:(xs:List T)→ ∀(p:List Nat)(j:Nat)(v:Value),v∈yJ G s xs p j→v.oneCell'=js
 | [],_,_,_,h=>by grind[yJ]
 |x::xs,p,j,v,h=>by
  simp only[yJ,K4]at h;rcases h with h|h
  ·exact zKd hm x _ v h
  ·exact zDe hm xs p _ v h
end
mutual
theorem zER:(u:T)→u.zOk=js→ ∀v∈tQ u,v.oneCell'=js
 |.lit v,h,x,hx=>by simp only[tQ,List.mem_singleton]at hx;rw[hx];exact h
 |.sl _ _,_,x,hx=>by simp only[tQ,List.mem_singleton]at hx;rw[hx];rfl
 |.agg xs,h,x,hx=>by simp only[T.zOk]at h;simp only[tQ]at hx;exact zGw xs h x hx
 |.any,h,_,_|.ro _,h,_,_|.same _ _,h,_,_|.addr _ _,h,_,_|.sub _ _ _ _ _,h,_,_|.ptr _,h,_,_|.tup _,h,_,_|.mp _ _,h,_,_=>by grind[T.zOk]
theorem zGw:(xs:List T)→zAM xs=js→ ∀v∈qE xs,v.oneCell'=js
 | [],_,_,h=>by grind[qE]
 |x::xs,h,v,hv=>by
  simp only[zAM,J3]at h;simp only[qE,K4]at hv;rcases hv with hv|hv
  ·exact zER x h.1 v hv
  ·exact zGw xs h.2 v hv
end
theorem zKe(y q:List Nat):(y++q).take ((y++q).length-q.length)=y:=by simp
theorem zLV{Γ:Ctx}{G G':Gh}{w':World}{s d:Nat}{q:List Nat}{t:T}{v:Option Value}(hv:v=jq (mkV G s t []))(gU:∀xs,t≠.tup xs)(hs:∀p,G'.hd s p=G.hd s p)(my:∀z,G'.hd d (z++q)=G.hd s z)
  (hr:R Γ.St G' w' d t q):Ent Γ G' w' v s (cpT d t q):=by
 have hz:∀z,G'.hd s (z++[])=G'.hd d (z++q):=by grind
 refine⟨?_,?_,qR d t q⟩
 ·rw[hv,zAV (G:=G') (G':=G') t q [] gU hz,zAw G s t [] gU,zBT t [] q (fun z=>by rw[my,Jk])]
 ·exact zDB (G:=G') (G':=G') (fun _=>rfl) t q [] hz gU (xC.triv (fun _ _=>⟨rfl,rfl⟩) _) hr
section
variable {P:Program}{Γ:Ctx}{E:Env}{o:Oper}
theorem kQ:(f:List Nat)→ ∀(t u:T),zZ t→zZ u→zZ (t.set f u)
 | [],t,u,_,hu=>by grind[T.set]
 |i::f,t,u,ht,hu=>by
  cases t with
  |sl k xs=>
   simp only[T.set];split
   ·rename_i x hx
    simp only[zZ,xC]at ht ⊢
    exact sets_clean xs i _ ht (kQ f x u (vZ xs ht i x hx) hu)
   ·exact ht
  |agg xs=>
   simp only[T.set];split
   ·rename_i x hx
    simp only[zZ,xC]at ht ⊢
    exact sets_clean xs i _ ht (kQ f x u (vZ xs ht i x hx) hu)
   ·exact ht
  |tup xs=>
   simp only[T.set];split
   ·rename_i x hx
    simp only[zZ,xC]at ht ⊢
    exact sets_clean xs i _ ht (kQ f x u (vZ xs ht i x hx) hu)
   ·exact ht
  |ptr t=>
   simp only[T.set];split
   ·simp only[zZ,xC]at ht ⊢
    exact kQ f t u ht hu
   ·exact ht
  |_=>grind[T.set]
where sets_clean:(xs:List T)→ ∀(i:Nat)(y:T),xE xs→zZ y→xE (xs.set i y)
 | [],_,_,_,_=>by grind
 |x::xs,0,y,h,hy=>by simp only[L5,xE,xX]at h ⊢;grind
 |x::xs,i+1,y,h,hy=>by simp only[Kk,xE,xX]at h ⊢;exact⟨h.1,sets_clean xs i y h.2 hy⟩
theorem zES(T':TypeId)(ti:TypeInfo)(x y:Operand)(r:Nat)(q:List Nat)(tr u0:T)(p:yW)(ho:o.op=.store T' x y)(gg:o.dst=jr)
  (hi:P.info? T'=jq ti)(gu:ti.size=p.tree.size)(bh:0<ti.size)(hx:zBr Γ E x r q)(hr:E r=jq tr)(me:tr.single=js)(hg:tr.get q.reverse=jq u0)(hl:tr.locd q.reverse=js)
  (eI:vB p.tree u0=js)(hy:zA6 E y p)(gO:tJ E r [p]):
  wC P Γ o E (E.app ((r,jq (tr.set q.reverse p.tree))::sWr r q p) ((r,q.length)::sD [p])):=by
 refine wC.skip gg fun a w G gc=>?_
 have hm:=gc.mem;have bG:=hx a w G gc;obtain⟨e3,e4,e5⟩:=gc.ent r _ hr;have bU:q≠[]:=by rintro rfl;simp[T.locd]at hl
 obtain⟨i0,f0,iw⟩:∃i f,q.reverse=i::f:=by
  cases h:q.reverse with
  |nil=>exact absurd (by simpa using h) bU
  |cons i f=>exact⟨i,f,rfl⟩
 have ak:∀v:T,(tr.set q.reverse v).single=js∧zZ tr:=by
  intro v;rw[iw]at hg ⊢
  cases tr with
  |sl k xs=>exact⟨by simp only[T.set];split<;>rfl,by simpa only[Top,zZ,xC]using e5⟩
  |ptr t=>exact⟨by simp only[T.set];split<;>rfl,by simpa only[Top,zZ,xC]using e5⟩
  |agg xs=>simp[T.single]at me
  |tup xs=>simp[T.single]at me
  |_=>simp[T.get]at hg
 obtain⟨b,ob,cs,et,pO,gA,ja⟩:=(zBo q.reverse tr u0 [] e4 hg).2 hl;simp only[rp,Ki,Jk]at pO;have hru0:=(zBo q.reverse tr u0 [] e4 hg).1;have fb:=zCw pO;have am:=zC1 _ _ eI;have hc:=zAW gc gO (by simp) hy;have pu:(a.eval y).cells.size=p.tree.size:=by
  rw[←K8,hc];cases p with
  |slot s t=>obtain⟨_,_,h3⟩:=gO.slot s t (by simp);exact vF t [] (by rintro xs rfl;simp[T.okTup]at h3)
  |zero u=>exact vM u (gO.zero u (by simp))
 have gn:∀v∈(a.eval y).cells.toList,v.oneCell'=js:=by
  rw[hc];intro v hv;cases p with
  |slot s t=>exact zKd hm t [] v hv
  |zero u=>exact zER u (gO.zero u (by simp)) v hv
 generalize gY:w.setRow b (cs.toList.take ob++(a.eval y).cells.toList++cs.toList.drop (ob+(a.eval y).cells.toList.length)).toArray=w'
 have gQ:w'.heap[b]? =jq (.cells (cs.toList.take ob++(a.eval y).cells.toList++cs.toList.drop (ob+(a.eval y).cells.toList.length)).toArray et (0,0)):=by rw[←gY];exact setRow_heap w b cs _ et _ gA
 have gp:∀b',b'≠b→w'.heap[b']? =w.heap[b']?:=fun b' h=>by rw[←gY];exact setRow_other w b b' _ h
 have gL:w'.heap.size=w.heap.size:=by rw[←gY];exact size_setRow w b _
 have gK:(a.eval y).cells.toList.length=u0.size:=by rw[K8,pu,am]
 have eB:∀k,yQ w' b k=if ob≤k∧k<ob+u0.size then(sZ G p)[k-ob]? else yQ w b k:=by
  intro k;simp only[yQ,World.cell?,gQ,gA,Qi,Lx,if_false];rw[←hc,←gK]at*
  rw[←K6,←K6 (xs:=cs)];simp only[];have eD:cs.toList.length=cs.size:=K8 ..
  generalize (a.eval y).cells.toList=V at*
  by_cases h1:k<ob
  ·rw[if_neg (by omega),Ji,K9 (by simp;omega),G4 h1]
  ·by_cases h2:k<ob+V.length
   ·rw[if_pos ⟨by omega,h2⟩,Ji,Je (by simp;omega),K9 (by simp;omega)]
    congr 1;simp;omega
   ·rw[if_neg (by omega),Ji,Je (by simp;omega),Je (by simp;omega),Ky]
    congr 1;simp;omega
 have fH:∀b' o' fl s z,G.lb b' o'=jq (fl,s,z)→ ¬(s=r∧q<:+z)→yQ w' b' o'=yQ w b' o':=by
  intro b' o' fl s z h1 h2
  by_cases hb:b'=b
  ·subst hb
   rw[eB];split
   ·rename_i h3
    obtain⟨y',h4⟩:=zIX u0 q b' ob (o'-ob) pO (by omega);rw[show ob+(o'-ob)=o' from by omega,h1]at h4;simp at h4;exact absurd ⟨h4.2.1,y',h4.2.2.symm⟩ h2
   ·rfl
  ·simp[yQ,World.cell?,gp b' hb]
 have mn:∀(b':Nat) ms c,w.heap[b']? =jq (.map ms c)→w'.heap[b']? =jq (.map ms c):=fun b' ms c h=>by
  by_cases e:b'=b
  ·subst e
   rw[gA]at h;cases h
  ·rw[gp b' e];exact h
 have eg:Blk w w':=by
  intro b' cs' e' h1
  by_cases hb:b'=b
  ·subst hb
   rw[gA]at h1;simp at h1;obtain⟨rfl,rfl⟩:=h1;exact⟨_,gQ,by simp;have:cs.toList.length=cs.size:=K8 ..;omega⟩
  ·exact⟨cs',by rw[gp b' hb];exact h1,rfl⟩
 generalize gk:G.st r q p=G'
 have ghd:∀y',G'.hd r (y'++q)=sHd G p y':=fun y'=>by rw[←gk];simp[Gh.st]
 have ghd':∀s z,¬(s=r∧q<:+z)→G'.hd s z=G.hd s z:=fun s z h=>by rw[←gk];simp only[Gh.st];rw[if_neg h]
 have gad:∀s z,¬(s=r∧q<:+z)→G'.ad s z=G.ad s z:=fun s z h=>by rw[←gk];simp only[Gh.st];rw[if_neg (fun h2=>h ⟨h2.1,h2.2.1⟩)]
 have gadf:∀y',p.tree.inT y'.reverse=js→G'.ad r (y'++q)=G.ad r (y'++q):=fun y' h=>by rw[←gk];simp only[Gh.st,zKe];rw[if_neg (by simp[h])]
 have gadm:∀s0 t y',p=.slot s0 t→t.inT y'.reverse=jt→G'.ad r (y'++q)=G.ad s0 y':=fun s0 t y' h1 h2=>by subst h1;rw[←gk];simp only[Gh.st,zKe,yW.tree];rw[if_pos];simp[h2]
 have glb:∀b' o' fl s z,G.lb b' o'=jq (fl,s,z)→zFG p q s z=jr→G'.lb b' o'=jq (fl,s,z):=fun b' o' fl s z h1 h2=>by rw[←gk];simp[Gh.st,h1,h2]
 have glbm:∀b' o' fl s z z',G.lb b' o'=jq (fl,s,z)→zFG p q s z=jq z'→G'.lb b' o'=jq (fl,r,z'):=fun b' o' fl s z z' h1 h2=>by rw[←gk];simp[Gh.st,h1,h2]
 have gow:∀b' s z,G.ow b'=jq (s,z)→zFG p q s z=jr→G'.ow b'=jq (s,z):=fun b' s z h1 h2=>by rw[←gk];simp[Gh.st,h1,h2]
 have gowm:∀b' s z z',G.ow b'=jq (s,z)→zFG p q s z=jq z'→G'.ow b'=jq (r,z'):=fun b' s z z' h1 h2=>by rw[←gk];simp[Gh.st,h1,h2]
 have az:∀s z,(∀n,(s,n)∉(r,q.length)::sD [p])→zFG p q s z=jr:=by
  intro s z h;cases p with
  |zero u=>rfl
  |slot s0 t=>
   simp only[zFG];rw[if_neg];intro h2;simp only[J3,beq_iff_eq]at h2;obtain⟨h3,rfl⟩:=h2;exact h 1 (by simp[sD,xT,h3])
 have cZ:∀z,zFG p q r z=jr:=by
  intro z;cases p with
  |zero u=>rfl
  |slot s0 t=>
   simp only[zFG];rw[if_neg];intro h2;simp only[J3,beq_iff_eq]at h2;obtain⟨h3,rfl⟩:=h2;have:=(Kj.1 gO.dist).1;simp[xT,h3]at this
 have ml:∀s z,Off ((r,q.length)::sD [p]) s z→ ¬(s=r∧q<:+z):=by
  rintro s z h ⟨rfl,h2⟩
  have:=h q.length (by simp);have:=h2.length_le;omega
 have gw:sG ((r,q.length)::sD [p]) G w G' w':=by
  refine⟨fun s z h=>ghd' s z (ml s z h),fun s z h=>gad s z (ml s z h),fun b' o' fl s z _ h1 h2=>⟨glb b' o' fl s z h1 (az s z h2),fH b' o' fl s z h1 ?_⟩,fun b' s z h1 h2=>gow b' s z h1 (az s z h2),eg,fun b' _ _ ms c _ _ h=>mn b' ms c h⟩
  rintro⟨rfl,_⟩
  exact h2 q.length (by simp)
 have pV:zBp Γ w b:=by obtain⟨y',h4⟩:=zIX u0 q b ob 0 pO (by omega);exact hm.lb _ _ _ h4
 have gz:Mem Γ G' w':=by
  refine⟨fun s z=>?_,fun b' o' l hl=>?_,fun b' l hl=>?_,fun b' x' gX=>?_,fun b' h1 h2=>?_,by rw[gL];exact hm.sz,hm.bk.trans eg (by rw[←gY];rfl) (by rw[←gY];rfl)⟩
  ·by_cases h:s=r∧q<:+z
   ·obtain⟨rfl,y',rfl⟩:=h
    rw[ghd];unfold sHd;split
    ·exact hm.one _ _
    ·exact zB6 _
   ·rw[ghd' s z h];exact hm.one s z
  ·have:∃l',G.lb b' o'=jq l':=by
    rw[←gk]at hl;simp only[Gh.st]at hl;split at hl
    ·exact⟨_,by assumption⟩
    ·cases hl
   obtain⟨l',bt⟩:=this;have:=hm.lb b' o' l' bt;exact⟨by rw[gL];exact this.1,this.2⟩
  ·have:∃l',G.ow b'=jq l':=by
    rw[←gk]at hl;simp only[Gh.st]at hl;split at hl
    ·exact⟨_,by assumption⟩
    ·cases hl
   obtain⟨l',bt⟩:=this;have:=hm.ow b' l' bt;exact⟨by rw[gL];exact this.1,this.2⟩
  ·have hb:b'≠b:=by rintro rfl;rw[pV.2.2]at gX;cases gX
   rw[gp b' hb];exact hm.st b' x' gX
  ·have hb:b'≠b:=by
    rintro rfl
    rcases pV.2.1 with h3|h3
    ·omega
    ·exact h2 h3
   rw[gp b' hb];exact hm.fr b' h1 h2
 have uh:Upd G w G' w' r q:=by refine⟨fun z h=>ghd' r z (fun h2=>h h2.2),fun z h=>gad r z (fun h2=>h h2.2),fun b' o' fl z h1 h=>⟨glb b' o' fl r z h1 (cZ z),fH b' o' fl r z h1 (fun h2=>h h2.2)⟩,fun b' z h1 _=>gow b' r z h1 (cZ z),eg,fun b' _ ms c _ _ h=>mn b' ms c h⟩
 have bT:R Γ.St G' w' r p.tree q:=by
  cases hp:p with
  |zero u=>
   refine zIV u q (gO.zero u (by simp[hp])) (fun z=>by rw[ghd];simp[sHd,hp])
  |slot s0 t=>
   obtain⟨h1,h2,h3⟩:=gO.slot s0 t (by simp[hp]);have eJ:=(gc.ent s0 t h1).2.1
   by_cases pd:sH t=js
   ·have ut:s0≠r:=by
     rintro rfl
     have:=(Kj.1 gO.dist).1;simp[hp,xT,pd]at this
    refine zKb t [] q h3 ⟨fun z=>by rw[ghd,Jk];simp[sHd,hp],fun z hz=>by rw[Jk];exact gadm s0 t z hp hz,fun b' o' fl z _ h4=>?_,fun b' z h4=>?_,eg,fun b' _ ms c _ h=>mn b' ms c h⟩ (xC.mono (fun _ _=>False.elim) t h2) eJ
    ·rw[Jk]at h4
     exact⟨glbm b' o' fl s0 z _ h4 (by simp[zFG,hp,pd]),fH b' o' fl s0 z h4 (fun h5=>ut h5.1)⟩
    ·rw[Jk]at h4
     exact gowm b' s0 z _ h4 (by simp[zFG,hp,pd])
   ·have hh:G'.hd r q=G.hd s0 []:=by have:=ghd [];rw[Jy]at this;rw[this];simp[sHd,hp]
    cases t<;>simp[sH]at pd<;>simp only[R,yW.tree]at eJ ⊢ <;>rw[hh]<;>exact eJ
 have cy:vals G' r p.tree q=sZ G p:=by
  cases hp:p with
  |zero u=>exact zEP u q (gO.zero u (by simp[hp])) (fun z=>by rw[ghd];simp[sHd,hp])
  |slot s0 t=>exact zBq t [] q (fun z=>by rw[ghd];simp[sHd,hp])
 have aI:∀b' o',Loc G w r u0 q b' o'→Loc G' w' r p.tree q b' o':=by
  intro b' o' h1;have h2:b'=b∧o'=ob:=by have:=(zCw h1).symm.trans fb;simp at this;exact this
  obtain⟨rfl,rfl⟩:=h2;refine zQ6 p.tree u0 q b' o' eI (fun y' h=>gadf y' h) (fun b2 o2 y' h=>glb b2 o2 jt r _ h (cZ _)) (fun j v hv=>?_) h1;rw[cy]at hv;have hj:=(Ja.1 hv).1;have dq:(sZ G p).length=u0.size:=by rw[←hc,gK]
  rw[eB,if_pos ⟨by omega,by omega⟩,show o'+j-o'=j from by omega];exact hv
 have ar:R Γ.St G' w' r (tr.set q.reverse p.tree) []:=by
  have fZ:rp q.reverse []=q:=by simp[rp]
  refine zFu q.reverse tr p.tree u0 [] (by rw[fZ];exact uh) e4 hg am (xC.mono (fun _ _=>False.elim) tr (ak .any).2) (by rw[fZ];exact aI) (by rw[fZ];exact bT)
 have gH:=run_storeCells_at P b ob et (a.eval y).cells.toList 0 cs w gA (by omega) gn;simp only[Jan]at gH;rw[gY]at gH;refine⟨w',?_,G',wQ gc rfl gw gz ?_ ?_⟩
 ·have um:(a.eval y).cells.size=ti.size:=by rw[pu,gu]
  simp[execOp,ho,bG,fb,Instr.storeAt,tT,storeVar,sizeOf,typeInfo,hi,um,gH]
 ·intro s hs
  simp only[Wr.find]at hs;split at hs
  ·cases hs
  ·rename_i gf
   refine⟨fun n hn=>?_,rfl⟩;simp only[Js,Q6.injEq]at hn;rcases hn with⟨h1,_⟩|hn
   ·exact gf h1.symm
   ·cases p with
    |zero u=>simp[sD,xT]at hn
    |slot s0 t=>
     by_cases pd:sH t=js
     ·simp[sD,xT,pd]at hn
      simp[sWr,pd,Wr.find,hn.1.symm]at hs
     ·simp[sD,xT,pd]at hn
 ·intro s t hs
  simp only[Wr.find]at hs;split at hs
  ·rename_i he
   subst he;simp at hs;subst hs;refine⟨?_,ar,Top.of_clean _ (kQ _ _ _ (ak .any).2 ?_)⟩
   ·rw[e3,xF (ak p.tree).1,xF me]
    congr 1
    exact(ghd' r [] (fun h=>bU (by simpa using h.2))).symm
   ·cases p with
    |zero u=>exact(zB7 u (gO.zero u (by simp))).1
    |slot s0 t=>exact(gO.slot s0 t (by simp)).2.1
  ·rename_i gf
   cases hp:p with
   |zero u=>simp[sWr,hp,Wr.find]at hs
   |slot s0 t0=>
    by_cases pd:sH t0=js
    ·simp only[sWr,hp,pd,if_true,Wr.find]at hs
     split at hs
     ·rename_i he
      subst he;simp at hs;subst hs;obtain⟨h1,h2,h3⟩:=gO.slot s0 t0 (by simp[hp]);refine zLV (G:=G) (gc.ent s0 t0 h1).1 (by rintro xs rfl;simp[T.okTup]at h3) (fun z=>ghd' s0 z (fun h=>gf h.1.symm)) (fun z=>by rw[ghd];simp[sHd,hp]) (by rw[hp]at bT;exact bT)
     ·cases hs
    ·simp[sWr,hp,pd,Wr.find]at hs
theorem zKf(T':TypeId)(ti:TypeInfo)(x y:Operand)(r:Nat)(q:List Nat)(tr u0:T)(p:yW)(ho:o.op=.store T' x y)(gg:o.dst=jr)
  (hi:P.info? T'=jq ti)(gu:ti.size=p.tree.size)(bh:0<ti.size)(hx:opT E x=jq (.addr r q))(hr:E r=jq tr)(me:tr.single=js)(hg:tr.get q.reverse=jq u0)(hl:tr.locd q.reverse=js)
  (eI:vB p.tree u0=js)(hy:zA6 E y p)(gO:tJ E r [p]):
  wC P Γ o E (E.app ((r,jq (tr.set q.reverse p.tree))::sWr r q p) ((r,q.length)::sD [p])):=
 by grind[zES,zBr.addr]
end
end Go.Ab

namespace Go.Ab
open Go
section
variable {G G':Gh}{s:Nat}
theorem zLW(xs:List T):∀(p:List Nat)(j:Nat),(∀k,j≤k→ ∀z,G'.hd s (z++(k::p))=G.hd s (z++(k::p)))→yJ G' s xs p j=yJ G s xs p j:=by
 induction xs with
 |nil=>grind[yJ]
 |cons z zs ih=>
  intro p j h;simp only[yJ];rw[zBq z (j::p) (j::p) (h j (J7 _)),ih p (j+1) (by grind)]
theorem zOK(xs:List T):∀(p:List Nat)(j i:Nat)(x y:T),xs[i]? =jq x→(∀k,k≠j+i→ ∀z,G'.hd s (z++(k::p))=G.hd s (z++(k::p)))→
  vals G' s y ((j+i)::p)=vals G s x ((j+i)::p)→yJ G' s (xs.set i y) p j=yJ G s xs p j:=by
 induction xs with
 |nil=>simp
 |cons z zs ih=>
  intro p j i x y h hz hy;cases i with
  |zero=>
   grind[yJ,zLW]
  |succ i=>
   simp only[Kk,yJ];rw[zBq z (j::p) (j::p) (hz j (by omega)),ih p (j+1) i x y (by grind) (by grind) (by grind)]
theorem zKg:(f:List Nat)→ ∀(t u u0:T)(p:List Nat),t.get f=jq u0→u0.single=js→u.single=js→(∀z,(rp f p<:+z→z=rp f p)→G'.hd s z=G.hd s z)→vals G' s (t.set f u) p=vals G s t p
 | [],t,u,u0,p,hg,h0,h1,hh=>by simp[T.get]at hg;subst hg;have:G'.hd s p=G.hd s p:=hh p (by simp[rp]);simp only[T.set];cases t<;>simp[T.single]at h0<;>cases u<;>simp[T.single]at h1<;>simp[vals,this]
 |i::f,t,u,u0,p,hg,h0,h1,hh=>by
  rw[zBn]at hh;have hp:G'.hd s p=G.hd s p:=by grind[zAo]
  cases t with
  |agg xs=>
   simp only[T.get]at hg;cases hx:xs[i]? with
   |none=>grind
   |some x=>
    rw[hx]at hg;simp only[T.set,hx,vals];refine zOK xs p 0 i x _ hx (by grind[kL]) ?_;rw[Jc];exact zKg f x u u0 (i::p) hg h0 h1 hh
  |tup xs=>
   grind[T.set,vals]
  |sl k xs=>grind[T.set,vals]
  |ptr t=>grind[T.set,vals]
  |_=>grind[T.get]
theorem zKh(f:List Nat)(t u u0:T)(p:List Nat)(hg:t.get f=jq u0)(h0:u0.single=js)(h1:u.single=js)(hh:∀z,(rp f p<:+z→z=rp f p)→G'.hd s z=G.hd s z)(gU:∀xs,t≠.tup xs):
  sC G' s (t.set f u) p=sC G s t p:=by
 have h:=zKg f t u u0 p hg h0 h1 hh;cases f with
 |nil=>
  simp[T.get]at hg;subst hg;have:G'.hd s p=G.hd s p:=hh p (by simp[rp]);simp only[T.set];cases t<;>simp[T.single]at h0<;>cases u<;>simp[T.single]at h1<;>simp[sC,this]
 |cons i f=>
  rw[zBn]at hh;have hp:G'.hd s p=G.hd s p:=by grind[zAo]
  cases t with
  |agg xs=>
   grind[T.set,vals,sC]
  |tup xs=>grind
  |sl k xs=>grind[T.set,sC]
  |ptr t=>grind[T.set,sC]
  |_=>grind[T.get]
theorem zOL(xs:List T):∀(p:List Nat)(j:Nat),(∀k,j≤k→ ∀z,G'.hd s (z++(k::p))=G.hd s (z++(k::p)))→kM G' s xs p j=kM G s xs p j:=by
 induction xs with
 |nil=>grind[kM]
 |cons z zs ih=>
  intro p j h;simp only[kM];rw[zBT z (j::p) (j::p) (h j (J7 _)),ih p (j+1) (by grind)]
theorem zQ7(xs:List T):∀(p:List Nat)(j i:Nat)(x y:T),xs[i]? =jq x→(∀k,k≠j+i→ ∀z,G'.hd s (z++(k::p))=G.hd s (z++(k::p)))→
  sC G' s y ((j+i)::p)=sC G s x ((j+i)::p)→kM G' s (xs.set i y) p j=kM G s xs p j:=by
 induction xs with
 |nil=>simp
 |cons z zs ih=>
  intro p j i x y h hz hy;cases i with
  |zero=>
   grind[kM,zOL]
  |succ i=>
   simp only[Kk,kM];rw[zBT z (j::p) (j::p) (hz j (by omega)),ih p (j+1) i x y (by grind) (by grind) (by grind)]
def wL:T→Bool
 |.tup xs=>xs.all fun x=>match x with
  |.tup _=>jt
  |_=>js
 |_=>js
theorem zIY(f:List Nat)(t u u0:T)(p:List Nat)(hg:t.get f=jq u0)(h0:u0.single=js)(h1:u.single=js)(hh:∀z,(rp f p<:+z→z=rp f p)→G'.hd s z=G.hd s z)(mz:wL t=js):
  mkV G' s (t.set f u) p=mkV G s t p:=by
 by_cases ht:∃xs,t=.tup xs
 ·obtain⟨xs,rfl⟩:=ht
  cases f with
  |nil=>grind[T.get,T.single]
  |cons i f=>
   rw[zBn]at hh;simp only[T.get]at hg;cases hx:xs[i]? with
   |none=>grind
   |some x=>
    rw[hx]at hg;simp only[T.set,hx,mkV];rw[zQ7 xs p 0 i x _ hx (fun k hk z=>hh _ (fun h=>absurd h (kL (by omega) z)))];rw[Jc];refine zKh f x u u0 (i::p) hg h0 h1 hh ?_
    rintro ys rfl
    simp only[wL]at mz;have:=Jr.1 mz _ (Kx hx)
    grind
 ·have gU:∀xs,t≠.tup xs:=by grind
  rw[zAw G s t p gU,←zKh f t u u0 p hg h0 h1 hh gU];refine zAw G' s _ p ?_
  rintro xs eE
  cases f with
  |nil=>grind[T.set,T.single]
  |cons i f=>cases t<;>simp only[T.set]at eE<;>first|grind|grind|cases eE
end
theorem zEl:(f:List Nat)→ ∀(t u:T),Top t→zZ u→Top (t.set f u)
 | [],t,u,_,hu=>by grind[T.set,Top.of_clean]
 |i::f,t,u,ht,hu=>by
  cases t with
  |sl k xs=>
   refine Top.of_clean _ (kQ (i::f) _ u (by simpa only[Top,zZ,xC]using ht) hu)
  |ptr t=>exact Top.of_clean _ (kQ (i::f) _ u (by simpa only[Top,zZ,xC]using ht) hu)
  |agg xs=>
   simp only[T.set];split
   ·rename_i x hx
    simp only[Top]at ht ⊢
    exact tops_set xs i _ ht (zEl f x u (tops_get xs ht i x hx) hu)
   ·exact ht
  |tup xs=>
   simp only[T.set];split
   ·rename_i x hx
    simp only[Top]at ht ⊢
    exact tops_set xs i _ ht (zEl f x u (tops_get xs ht i x hx) hu)
   ·exact ht
  |_=>grind[T.set]
where
 tops_set:(xs:List T)→ ∀(i:Nat)(y:T),vV xs→Top y→vV (xs.set i y)
  | [],_,_,_,_=>by simp[vV]
  |x::xs,0,y,h,hy=>by simp only[L5,vV]at h ⊢;grind
  |x::xs,i+1,y,h,hy=>by simp only[Kk,vV]at h ⊢;exact⟨h.1,tops_set xs i y h.2 hy⟩
 tops_get:(xs:List T)→vV xs→ ∀(i:Nat)(x:T),xs[i]? =jq x→Top x
  | [],_,_,_,h=>by simp at h
  |y::ys,hk,i,x,h=>by
   simp only[vV]at hk;cases i with
   |zero=>grind
   |succ i=>exact tops_get ys hk.2 i x (by grind)
def Gh.tr(G:Gh)(d:Nat)(g:List Nat)(r:Nat)(p:List Nat):Gh where
 hd s z:=if s=d∧g<:+z then G.hd r (z.take (z.length-g.length)++p)else G.hd s z
 ad s z:=if s=d∧g<:+z∧z≠g then G.ad r (z.take (z.length-g.length)++p)else G.ad s z
 lb b o:=match G.lb b o with
  |some (fl,s,z)=>if s=r∧p<:+z∧(fl=js∨z≠p)then jq (fl,d,z.take (z.length-p.length)++g)else jq (fl,s,z)
  |none=>jr
 ow b:=match G.ow b with
  |some (s,z)=>if s=r∧p<:+z then jq (d,z.take (z.length-p.length)++g)else jq (s,z)
  |none=>jr
theorem zFy{t:T}(h:t.single=js):t.size=1:=by cases t<;>simp[T.single]at h<;>simp[T.size]
theorem zGx{Γ:Ctx}{E:Env}{G:Gh}{tmps:Array Value}{w:World}(gc:Rep Γ E G tmps w)(d:Nat)(g:List Nat)(r:Nat)(p:List Nat)(td tr u v0:T)(hd:E d=jq td)(hg:td.get g.reverse=jq v0)(ag:v0.single=js)(gZ:G.hd d g=G.hd r p)(hr:E r=jq tr)
  (hp:tr.get p.reverse=jq u)(hu:u.single=js)(ez:zZ u)(gT:d≠r)(bm:td.okB [(d,g.length+1),(r,p.length+1)]=js)(pK:tr.okB [(d,g.length+1),(r,p.length+1)]=js)(dz:wL td=js)(pm:wL tr=js):
  Rep Γ (E.app [(d,jq (td.set g.reverse u)),(r,jq (if p=[]then .same d g else tr.set p.reverse .any))] [(d,g.length+1),(r,p.length+1)]) (G.tr d g r p) tmps w∧ ∀s z,¬(s=d∧g<:+z∧z≠g)→(G.tr d g r p).hd s z=G.hd s z:=by
 obtain⟨d1,d2,d3⟩:=gc.ent d td hd;obtain⟨r1,r2,r3⟩:=gc.ent r tr hr;have hm:=gc.mem;have bT:=(zBo p.reverse tr u [] r2 hp).1;simp only[rp,Ki,Jk]at bT;have gA:Blk w w:=fun b cs e' h=>⟨cs,h,rfl⟩
 generalize gk:G.tr d g r p=G'
 have ghd:∀z,G'.hd d (z++g)=G.hd r (z++p):=fun z=>by rw[←gk];simp[Gh.tr]
 have ghd0:∀s z,¬(s=d∧g<:+z∧z≠g)→G'.hd s z=G.hd s z:=by
  intro s z h;rw[←gk];simp only[Gh.tr]
  by_cases h2:s=d∧g<:+z
  ·have h3:z=g:=by
    rcases Decidable.em (z=g)with e|e
    ·exact e
    ·exact absurd ⟨h2.1,h2.2,e⟩ h
   subst h3;rw[if_pos h2,h2.1];simpa using gZ.symm
  ·rw[if_neg h2]
 have gad0:∀s z,¬(s=d∧g<:+z∧z≠g)→G'.ad s z=G.ad s z:=fun s z h=>by rw[←gk];simp only[Gh.tr];rw[if_neg h]
 have gad:∀z,z≠[]→G'.ad d (z++g)=G.ad r (z++p):=fun z h=>by rw[←gk];simp only[Gh.tr];rw[if_pos (by simpa using h)];simp
 have glb0:∀b o fl s z,G.lb b o=jq (fl,s,z)→ ¬(s=r∧p<:+z∧(fl=js∨z≠p))→G'.lb b o=jq (fl,s,z):=fun b o fl s z h1 h2=>by rw[←gk];simp only[Gh.tr,h1];rw[if_neg h2]
 have glb:∀b o fl z,G.lb b o=jq (fl,r,z++p)→(fl=js∨z≠[])→G'.lb b o=jq (fl,d,z++g):=fun b o fl z h1 h2=>by rw[←gk];simp only[Gh.tr,h1];rw[if_pos (by simpa using h2)];simp
 have gow0:∀b s z,G.ow b=jq (s,z)→ ¬(s=r∧p<:+z)→G'.ow b=jq (s,z):=fun b s z h1 h2=>by rw[←gk];simp only[Gh.tr,h1];rw[if_neg h2]
 have gow:∀b z,G.ow b=jq (r,z++p)→G'.ow b=jq (d,z++g):=fun b z h1=>by rw[←gk];simp only[Gh.tr,h1];rw[if_pos (by simp)];simp
 have gC:∀s z,Off [(d,g.length+1),(r,p.length+1)] s z→ ¬(s=d∧g<:+z∧z≠g):=by
  rintro s z h ⟨rfl,⟨y,rfl⟩,h3⟩
  have:=h (g.length+1) (by simp);have:y=[]:=Jn (by simp at this;omega);exact h3 (by simp[this])
 have gw:sG [(d,g.length+1),(r,p.length+1)] G w G' w:=by
  refine⟨fun s z h=>ghd0 s z (gC s z h),fun s z h=>gad0 s z (gC s z h),fun b o fl s z _ h1 h2=>⟨glb0 b o fl s z h1 ?_,rfl⟩,fun b s z h1 h2=>gow0 b s z h1 ?_,gA,by intros;assumption⟩
  ·rintro⟨rfl,_⟩;exact h2 (p.length+1) (by simp)
  ·rintro⟨rfl,_⟩;exact h2 (p.length+1) (by simp)
 have gz:Mem Γ G' w:=by
  refine⟨fun s z=>?_,fun b o l hl=>?_,fun b l hl=>?_,hm.st,hm.fr,hm.sz,hm.bk⟩
  ·rw[←gk]
   simp only[Gh.tr];split
   ·exact hm.one _ _
   ·exact hm.one _ _
  ·have:∃l',G.lb b o=jq l':=by
    rw[←gk]at hl;simp only[Gh.tr]at hl;split at hl
    ·exact⟨_,by assumption⟩
    ·cases hl
   obtain⟨l',bt⟩:=this;exact hm.lb b o l' bt
  ·have:∃l',G.ow b=jq l':=by
    rw[←gk]at hl;simp only[Gh.tr]at hl;split at hl
    ·exact⟨_,by assumption⟩
    ·cases hl
   obtain⟨l',bt⟩:=this;exact hm.ow b l' bt
 have fZ:∀q:List Nat,rp q.reverse []=q:=fun q=>by simp[rp]
 have hud:R Γ.St G' w d u g:=by
  refine zAn (G:=G) (w:=w) (s:=r) (p:=p) ⟨⟨ghd,gad,fun b o f z hz _ hl=>⟨glb b o f z hl (.inr hz),rfl⟩,fun b z _ hl=>gow b z hl,gA,by intros;assumption⟩,fun b o _ hl=>⟨by simpa using glb b o js [] (by simpa using hl) (.inl rfl),rfl⟩,fun b hl=>by simpa using gow b [] (by simpa using hl)⟩ u
   (xC.mono (fun _ _=>False.elim) u ez) bT
 have ah:Upd G w G' w d g:=⟨fun z h=>ghd0 d z (fun h2=>h h2.2.1),fun z h=>gad0 d z (fun h2=>h h2.2.1),fun b o f z h1 _=>⟨glb0 b o f d z h1 (fun h2=>gT h2.1),rfl⟩,fun b z h1 _=>gow0 b d z h1 (fun h2=>gT h2.1),gA,by intros;assumption⟩;have aJ:∀b o,Loc G w d v0 g b o→Loc G' w d u g b o:=by intro b o h1;obtain⟨h2,h3,h4⟩:=vA ag h1;have h5:G'.ad d g=⟨b,o,jr⟩∧G'.lb b o=jq (jt,d,g)∧yQ w b o=jq (G'.hd d g):=⟨(gad0 d g (fun h=>h.2.2 rfl)).trans h2,glb0 b o jt d g h3 (fun h=>gT h.1),by rw[h4,ghd0 d g (fun h=>h.2.2 rfl)]⟩;cases u<;>simp[T.single]at hu<;>simpa only[Loc]using h5
 have db:R Γ.St G' w d (td.set g.reverse u) []:=
  zFu g.reverse td u v0 [] (by rw[fZ];exact ah) d2 hg (by rw[zFy ag,zFy hu]) (gw.keepR (zAK td d3 bm)) (by rw[fZ];exact aJ) (by rw[fZ];exact hud)
 have hVd:mkV G' d (td.set g.reverse u) []=mkV G d td []:=
  zIY g.reverse td u v0 [] hg ag hu (fun z hz=>ghd0 d z (fun h2=>h2.2.2 (by rw[fZ]at hz;exact hz h2.2.1))) dz
 have hRr:p≠[]→R Γ.St G' w r (tr.set p.reverse .any) []:=by intro bV;refine zFu p.reverse tr .any u [] (by rw[fZ];exact⟨fun z _=>ghd0 r z (fun h2=>gT h2.1.symm),fun z _=>gad0 r z (fun h2=>gT h2.1.symm),fun b o f z h1 h=>⟨glb0 b o f r z h1 (fun h2=>h h2.2.1),rfl⟩,fun b z h1 h=>gow0 b r z h1 (fun h2=>h h2.2),gA,by intros;assumption⟩) r2 hp (by cases u<;>simp[T.single]at hu<;>simp[T.size]) (gw.keepR (zAK tr r3 pK)) ?_ (by simp only[R]);rw[fZ];intro b o h1;obtain⟨h2,h3,h4⟩:=vA hu h1;simp only[Loc];exact⟨(gad0 r p (fun h=>gT h.1.symm)).trans h2,glb0 b o jt r p h3 (by simp),by rw[h4,ghd0 r p (fun h=>gT h.1.symm)]⟩
 have hVr:p≠[]→mkV G' r (tr.set p.reverse .any) []=mkV G r tr []:=fun _=>
  zIY p.reverse tr .any u [] hp hu rfl (fun z _=>ghd0 r z (fun h2=>gT h2.1.symm)) pm
 refine⟨wQ gc rfl gw gz ?_ ?_,ghd0⟩
 ·intro s hs
  simp only[Wr.find]at hs;split at hs
  ·cases hs
  ·rename_i h1
   split at hs
   ·cases hs
   ·rename_i h2
    refine⟨fun n hn=>?_,rfl⟩;simp only[Js,Q6.injEq,Jag,or_false]at hn;rcases hn with⟨e,_⟩|⟨e,_⟩
    ·exact h1 e.symm
    ·exact h2 e.symm
 ·intro s t hs
  simp only[Wr.find]at hs;split at hs
  ·rename_i he
   subst he;simp at hs;subst hs;exact⟨by rw[d1,hVd],db,zEl _ _ _ d3 ez⟩
  ·split at hs
   ·rename_i he
    subst he;simp at hs
    by_cases bV:p=[]
    ·rw[if_pos bV]at hs
     subst hs;subst bV;simp[T.get]at hp;subst hp;refine⟨?_,?_,by simp[Top]⟩
     ·rw[r1,xF hu,xF rfl,ghd0 r [] (fun h=>gT h.1.symm)]
     ·simp only[R]
      rw[ghd0 r [] (fun h=>gT h.1.symm)];have:=ghd [];simpa using this.symm
    ·rw[if_neg bV]at hs
     subst hs;exact⟨by rw[r1,hVr bV],hRr bV,zEl _ _ _ r3 (by simp[zZ,xC])⟩
   ·cases hs
theorem zLX{Γ:Ctx}{E:Env}{a:Act}{w:World}(h:Sim Γ E a w)(d:Nat)(g:List Nat)(r:Nat)(p:List Nat)(td tr u:T)(hd:E d=jq td)(hg:td.get g.reverse=jq (.same r p))(hr:E r=jq tr)
  (hp:tr.get p.reverse=jq u)(hu:u.single=js)(ez:zZ u)(gT:d≠r)(bm:td.okB [(d,g.length+1),(r,p.length+1)]=js)(pK:tr.okB [(d,g.length+1),(r,p.length+1)]=js)(dz:wL td=js)(pm:wL tr=js):
  Sim Γ (E.app [(d,jq (td.set g.reverse u)),(r,jq (if p=[]then .same d g else tr.set p.reverse .any))] [(d,g.length+1),(r,p.length+1)]) a w:=by
 obtain⟨gJ,G,gc⟩:=h;have gZ:=(zBo g.reverse td _ [] (gc.ent d td hd).2.1 hg).1;simp only[rp,Ki,Jk,R]at gZ;exact⟨gJ,_,(zGx gc d g r p td tr u _ hd hg rfl gZ hr hp hu ez gT bm pK dz pm).1⟩
end Go.Ab

namespace Go.Ab
open Go
theorem zDH{St:Stb}{G:Gh}{w:World}{s:Nat}{k:Nat}:(xs:List T)→ ∀(p:List Nat)(j b o:Nat),(∀i x,xs[i]? =jq x→Loc G w s x ((j+i)::p) b (o+i*k)∧x.size=k∧R St G w s x ((j+i)::p))→RL St G w s xs p j b o k
 | [],_,_,_,_,_=>by simp only[RL]
 |x::xs,p,j,b,o,h=>by
  obtain⟨h1,h2,h3⟩:=h 0 x (by simp);simp only[RL];refine⟨⟨by simpa using h1,h2⟩,by simpa using h3,zDH xs p (j+1) b (o+k) (fun i y hy=>?_)⟩;have:=h (i+1) y (by simpa using hy)
  rwa [show j+(i+1)=j+1+i from by omega,show o+(i+1)*k=o+k+i*k from by rw[Ly];omega]at this
theorem kR{St:Stb}{G:Gh}{w:World}{s:Nat}{k:Nat}:(xs:List T)→ ∀(p:List Nat)(j b o:Nat),RL St G w s xs p j b o k→vJ G w s xs p j b o
 | [],_,_,_,_,_=>by simp only[vJ]
 |x::xs,p,j,b,o,h=>by simp only[RL]at h;simp only[vJ];exact⟨h.1.1,kR xs p (j+1) b (o+x.size) (by rw[h.1.2];exact h.2.2)⟩
theorem zBA{St:Stb}{G:Gh}{w:World}{s:Nat}{k:Nat}:(xs:List T)→ ∀(p:List Nat)(j b o:Nat),RL St G w s xs p j b o k→RF St G w s xs p j∧ ∀x∈xs,x.size=k
 | [],_,_,_,_,_=>by simp[RF]
 |x::xs,p,j,b,o,h=>by simp only[RL]at h;obtain⟨h1,h2⟩:=zBA xs p (j+1) b (o+k) h.2.2;exact⟨by simp only[RF];exact⟨h.2.1,h1⟩,fun y hy=>by rcases Js.1 hy with rfl|hy;exact h.1.2;exact h2 y hy⟩
section
variable {G:Gh}{w:World}{G':Gh}{w':World}{s s':Nat}
mutual
theorem zEm:(t:T)→ ∀(p p':List Nat)(b o:Nat),(∀z,G'.hd s' (z++p')=G.hd s (z++p))→(∀z,G'.ad s' (z++p')=G.ad s (z++p))→
  (∀b o z,G.lb b o=jq (jt,s,z++p)→G'.lb b o=jq (jt,s',z++p')∧yQ w' b o=yQ w b o)→Loc G w s t p b o→Loc G' w' s' t p' b o
 |.agg xs,p,p',b,o,hh,ha,hl,h=>by
  simp only[Loc]at h ⊢
  exact⟨by have:=ha [];simp at this;rw[this];exact h.1,zHN xs p p' 0 b o hh ha hl h.2⟩
 |.any,p,p',b,o,hh,ha,hl,h|.lit _,p,p',b,o,hh,ha,hl,h|.ro _,p,p',b,o,hh,ha,hl,h|.same _ _,p,p',b,o,hh,ha,hl,h|.addr _ _,p,p',b,o,hh,ha,hl,h|.sub _ _ _ _ _,p,p',b,o,hh,ha,hl,h|.sl _ _,p,p',b,o,hh,ha,hl,h|.ptr _,p,p',b,o,hh,ha,hl,h|.mp _ _,p,p',b,o,hh,ha,hl,h=>by
  simp only[Loc]at h ⊢
  have h1:=hl b o [] (by simpa using h.2.1);have h2:=ha [];have h3:=hh [];simp only[Jy]at h1 h2 h3;exact⟨h2.trans h.1,h1.1,by rw[h1.2,h.2.2,h3]⟩
 |.tup _,_,_,_,_,_,_,_,h=>by simp only[Loc]at h
theorem zHN:(xs:List T)→ ∀(p p':List Nat)(j b o:Nat),(∀z,G'.hd s' (z++p')=G.hd s (z++p))→(∀z,G'.ad s' (z++p')=G.ad s (z++p))→
  (∀b o z,G.lb b o=jq (jt,s,z++p)→G'.lb b o=jq (jt,s',z++p')∧yQ w' b o=yQ w b o)→vJ G w s xs p j b o→vJ G' w' s' xs p' j b o
 | [],_,_,_,_,_,_,_,_,_=>by simp only[vJ]
 |x::xs,p,p',j,b,o,hh,ha,hl,h=>by
  simp only[vJ]at h ⊢
  exact⟨zEm x (j::p) (j::p') b o (fun z=>by have:=hh (z++[j]);simpa using this) (fun z=>by have:=ha (z++[j]);simpa using this) (fun b o z hz=>by have:=hl b o (z++[j]) (by simpa using hz);simpa using this) h.1,
   zHN xs p p' (j+1) b _ hh ha hl h.2⟩
end
end
theorem zEn(G:Gh)(s:Nat):∀(xs us:List T)(p:List Nat)(j:Nat),yJ G s (xs++us) p j=yJ G s xs p j++yJ G s us p (j+xs.length)
 | [],us,p,j=>by simp[yJ]
 |x::xs,us,p,j=>by simp[yJ,zEn G s xs us p (j+1),Lu,Nat.add_comm 1]
theorem zEo:∀(xs us:List T),T.sizes (xs++us)=T.sizes xs+T.sizes us
 | [],us=>by simp[T.sizes]
 |x::xs,us=>by simp[T.sizes,zEo xs us,Lu]
theorem zD2:∀(xs us:List T),yU xs=js→yU us=js→yU (xs++us)=js
 | [],us,_,h=>h
 |x::xs,us,h,h'=>by
  simp only[yU,J3,G5]at h ⊢
  exact⟨h.1,zD2 xs us h.2 h'⟩
theorem zD3:∀(xs us:List T),xE xs→xE us→xE (xs++us)
 | [],us,_,h=>h
 |x::xs,us,h,h'=>by
  simp only[xE,xX,G5]at h ⊢
  exact⟨h.1,zD3 xs us h.2 h'⟩
theorem zAq{St:Stb}{G:Gh}{w:World}{s:Nat}{k:Nat}:(xs:List T)→ ∀(p:List Nat)(j b o:Nat),vJ G w s xs p j b o→yU xs=js
 | [],_,_,_,_,_=>rfl
 |x::xs,p,j,b,o,h=>by simp only[vJ]at h;simp only[yU,J3];exact⟨one x (j::p) b o h.1,zAq (St:=St) (k:=k) xs p (j+1) b _ h.2⟩
where
 one:(t:T)→ ∀(p:List Nat)(b o:Nat),Loc G w s t p b o→t.okTup=js
  |.agg xs,p,b,o,h=>by simp only[Loc]at h;simp only[T.okTup];exact zAq (St:=St) (k:=k) xs p 0 b o h.2
  |.tup _,_,_,_,h=>by simp only[Loc]at h
  |.any,_,_,_,_|.lit _,_,_,_,_|.ro _,_,_,_,_|.same _ _,_,_,_,_|.addr _ _,_,_,_,_|.sub _ _ _ _ _,_,_,_,_|.sl _ _,_,_,_,_|.ptr _,_,_,_,_|.mp _ _,_,_,_,_=>rfl
section
variable {P:Program}
structure zGy (P:Program) (t2:TypeId) (e:TypeId) (ti:TypeInfo) (xv:Value) (m:Nat) (nv:List Value) (w:World):Prop where
 arg:(∃e2 xa c,P.underlying t2=jq (.slice e2)∧xv=.slice xa m c∧ ∀w2:World,w2.heap=w.heap→(Builtin.firstCells ti.size m (.slice xa m c)).run P w2=.ok nv.toArray w2)∨
  ∃k2 k3 z,P.underlying t2=jq (.int k2)∧xv=.int k3 (m:Int)∧ti.zero=jq z∧nv.toArray=Builtin.zeroCells z.cells m∧m*ti.bytes≤2 ^ 47∧z.cells.size=ti.size
theorem zEp{t t2 ty e:TypeId}{ti:TypeInfo}{xv:Value}{m:Nat}{nv:List Value}{w w':World}(ht:P.underlying t=jq (.slice e))(hi:P.info? e=jq ti)
  (hx:zGy P t2 e ti xv m nv w)(hm:m≤68719476736){base:Option Addr}{n cap:Nat}(gN:n+m≤cap)
  (gH:(if let jq a:=base then storeCells (a.add (n*ti.size)) nv else pure ():Sem Unit).run P w=.ok () w'):
  (Builtin.append_ #[t,t2] ty #[.slice base n cap,xv]).run P w=.ok (.slice base (n+m) cap) w':=by
 rcases hx.arg with⟨e2,xa,c,h1,rfl,h2⟩|⟨k2,k3,z,h1,rfl,h2,h3,h4,h5⟩
 ·have h2:=h2 w rfl
  cases base with
  |none=>
   simp at gH;subst gH;simp[Builtin.append_,run_underlying ht,run_underlying h1,sizeOf,typeInfo,hi,Builtin.lenOf,gN,h2]
  |some a=>
   simp only at gH;simp[Builtin.append_,run_underlying ht,run_underlying h1,sizeOf,typeInfo,hi,Builtin.lenOf,gN,h2,gH]
 ·have mF:IntKind.i64.wrap (m:Int)=m:=by rw[IntKind.wrap_i64];omega
  have bM:¬(281474976710656<(m:Int)*(ti.bytes:Int)):=by
   have:((m*ti.bytes:Nat):Int)≤2 ^ 47:=by exact_mod_cast h4
   rw[Jac]at this;omega
  have fD:¬((m:Int)<0):=by omega
  have bW:nv=(Builtin.zeroCells z.cells m).toList:=by rw[←h3]
  by_cases hz:m*ti.size=0
  ·have bn:nv=[]:=by
    apply Jn;rw[bW];simp[Builtin.zeroCells,h5,hz]
   subst bn;cases base with
   |none=>
    simp at gH;subst gH;simp[Builtin.append_,run_underlying ht,run_underlying h1,sizeOf,typeInfo,hi,asInt,asIntOf,mF,bM,fD,gN,hz]
   |some a=>
    simp only[storeCells,Sem.run_pure]at gH;cases gH;simp[Builtin.append_,run_underlying ht,run_underlying h1,sizeOf,typeInfo,hi,asInt,asIntOf,mF,bM,fD,gN,hz,storeCells]
  ·cases base with
   |none=>
    simp at gH;subst gH;simp[Builtin.append_,run_underlying ht,run_underlying h1,sizeOf,typeInfo,zeroValue,hi,h2,asInt,asIntOf,mF,bM,fD,gN]
   |some a=>
    simp only[bW]at gH;simp[Builtin.append_,run_underlying ht,run_underlying h1,sizeOf,typeInfo,zeroValue,hi,h2,asInt,asIntOf,mF,bM,fD,gN,hz,gH]
theorem zIZ{t t2 ty e:TypeId}{ti:TypeInfo}{z xv:Value}{m:Nat}{nv olds:List Value}{w:World}(ht:P.underlying t=jq (.slice e))(hi:P.info? e=jq ti)(hz:ti.zero=jq z)
  (hx:zGy P t2 e ti xv m nv w){base:Option Addr}{n cap:Nat}(gS:cap<n+m)(cu:n+m≤68719476736)(hb:ti.bytes≤2048)
  (gp:∀w2:World,w2.heap=w.heap→(Builtin.firstCells ti.size n (.slice base n cap)).run P w2=.ok olds.toArray w2):
  (Builtin.append_ #[t,t2] ty #[.slice base n cap,xv]).run P w=.ok (.slice (jq ⟨w.heap.size,0,jr⟩) (n+m) (grownCap w (n+m) cap e))
    (w.drew.alloc (.cells ((olds++nv).toArray++Builtin.zeroCells z.cells (grownCap w (n+m) cap e-(n+m))) e)):=by
 have hn:¬(n+m≤cap):=by omega
 have bK:¬(9223372036854775807<((n:Int)+(m:Int))):=by omega
 have ja:=growslice_fits (need:=n+m) (old:=cap) (bytes:=ti.bytes) gS (Ko (Uf cu hb) (by decide));have bL:¬(281474976710656<Builtin.nextslicecap (n+m) cap*ti.bytes):=by omega
 have ho:=gp w.drew rfl;rcases hx.arg with⟨e2,xa,c,h1,rfl,h2⟩|⟨k2,k3,z',h1,rfl,h2,h3,h4,h5⟩
 ·have h2:=h2 w.drew rfl
  simp[Builtin.append_,run_underlying ht,run_underlying h1,sizeOf,typeInfo,zeroValue,hi,hz,Builtin.lenOf,hn,bK,bL,Question.forced,h2,ho,newRow,grownCap]
  congr 2
  apply Jat;simp
 ·have mF:IntKind.i64.wrap (m:Int)=m:=by rw[IntKind.wrap_i64];omega
  have bM:¬(281474976710656<(m:Int)*(ti.bytes:Int)):=by
   have:((m*ti.bytes:Nat):Int)≤2 ^ 47:=by exact_mod_cast h4
   rw[Jac]at this;omega
  have fD:¬((m:Int)<0):=by omega
  have bW:nv=(Builtin.zeroCells z'.cells m).toList:=by rw[←h3]
  rw[hz]at h2;simp at h2;subst h2
  by_cases dH:m*ti.size=0
  ·have bn:nv=[]:=by
    apply Jn;rw[bW];simp[Builtin.zeroCells,h5,dH]
   subst bn;simp[Builtin.append_,run_underlying ht,run_underlying h1,sizeOf,typeInfo,zeroValue,hi,hz,asInt,asIntOf,mF,bM,fD,hn,bK,bL,Question.forced,dH,ho,newRow,grownCap]
  ·simp[Builtin.append_,run_underlying ht,run_underlying h1,sizeOf,typeInfo,zeroValue,hi,hz,asInt,asIntOf,mF,bM,fD,hn,bK,bL,Question.forced,dH,ho,newRow,grownCap,←h3]
   congr 2
   apply Jat;simp
end
def zDI(s0:Nat)(y:Option Nat)(n:Nat)(s:Nat)(z:List Nat):Option (List Nat):=
 if s=s0 then jq z else if y=jq s then(match z.getLast? with
  |some j=>jq (z.dropLast++[n+j])
  |none=>jr)else jr
def Gh.ip(G:Gh)(d s0:Nat)(y:Option Nat)(b n k oa:Nat)(us:List T)(f2:Nat→List Nat→Value)(gT:Value):Gh where
 hd s z:=if s=d then(match z.getLast? with
  |some i=>if i<n then G.hd s0 z else f2 (i-n) z.dropLast
  |none=>gT)else G.hd s z
 ad s z:=if s=d then(match z.getLast? with
  |some i=>if i<n then G.ad s0 z else if(T.agg us).inT ((i-n)::z.dropLast.reverse)then⟨b,oa+(T.agg us).offT ((i-n)::z.dropLast.reverse),jr⟩else(match y with
   |some y=>G.ad y (z.dropLast++[i-n])
   |none=>default)
  |none=>default)else G.ad s z
 lb b' o:=if b'=b∧oa≤o∧o<oa+us.length*k then(match zCy us [] n (o-oa)with
  |some p=>jq (jt,d,p)
  |none=>jr)else match G.lb b' o with
  |some (fl,s,z)=>(match zDI s0 y n s z with
   |some z'=>jq (fl,d,z')
   |none=>jq (fl,s,z))
  |none=>jr
 ow b':=match G.ow b' with
  |some (s,z)=>(match zDI s0 y n s z with
   |some z'=>jq (d,z')
   |none=>jq (s,z))
  |none=>jr
def aWr(d s0:Nat)(y:Option Nat)(k:Nat)(ts:List T):Wr:=(d,jq (.sl k ts))::(s0,jq .any)::(match y with
 |some y=>[(y,jq .any)]
 |none=>[])
def zBi(d s0:Nat)(y:Option Nat):Chg:=(d,0)::(s0,1)::(match y with
 |some y=>[(y,1)]
 |none=>[])
structure zGz (Γ:Ctx) (E:Env) (G:Gh) (d s0:Nat) (y:Option Nat) (k n:Nat) (us:List T) (f2:Nat→List Nat→Value) (nv:List Value):Prop where
 size:∀u∈us,u.size=k
 tup:yU us=js
 clean:xE us
 one:∀j z,(f2 j z).oneCell'=js
 len:nv.length=us.length*k
 slot:∀y',y=jq y'→y'≠d∧y'≠s0∧E y'=jq (.sl k us)∧ ∀j z,f2 j z=G.hd y' (z++[j])
 none:y=jr→ ∀(j:Nat) u,us[j]? =jq u→ ∀(G2:Gh)(w2:World),(∀z,G2.hd d (z++[n+j])=f2 j z)→R Γ.St G2 w2 d u [n+j]
 vals:∀(G2:Gh),(∀j z,G2.hd d (z++[n+j])=f2 j z)→ ∀(o:Nat)(v:Value),(yJ G2 d us [] n)[o]? =jq v→nv[o]? =jq v
theorem zKi{G G2:Gh}{s d:Nat}:(xs:List T)→ ∀(p:List Nat)(j:Nat),(∀i,i<xs.length→ ∀z,G2.hd d (z++((j+i)::p))=G.hd s (z++((j+i)::p)))→yJ G2 d xs p j=yJ G s xs p j
 | [],_,_,_=>by simp only[yJ]
 |x::xs,p,j,h=>by
  simp only[yJ];have ih:yJ G2 d xs p (j+1)=yJ G s xs p (j+1):=zKi xs p (j+1) (fun i hi z=>by rw[show j+1+i=j+(i+1)from by omega];exact h (i+1) (by simpa using hi) z)
  rw[zBq x (j::p) (j::p) (by simpa using h 0 (by simp)),ih]
theorem zD4(z:List Nat):z=[]∨ ∃y i,z=y++[i]:=by
 rcases List.eq_nil_or_concat z with h|⟨y,i,h⟩
 ·exact .inl h
 ·exact .inr ⟨y,i,by simpa using h⟩
section
variable {P:Program}{Γ:Ctx}{E:Env}{d:Nat}
theorem zBV{G:Gh}{a:Act}{w:World}(gc:Rep Γ E G a.tmps w)(hd:d<Γ.N){t t2 ty e:TypeId}{ti:TypeInfo}{z:Value}{k:Nat}(ht:P.underlying t=jq (.slice e))(hi:P.info? e=jq ti)(hz:ti.zero=jq z)
  (hk:ti.size=k)(_hk0:0<k)(fm:z.cells.size=k)(hb:ti.bytes≤2048){s0:Nat}{y:Option Nat}{xs us:List T}{f2:Nat→List Nat→Value}{nv:List Value}(hZ:E s0=jq (.sl k xs))(eO:s0≠d)
  (hn:zGz Γ E G d s0 y k xs.length us f2 nv){xv:Value}(hx:zGy P t2 e ti xv us.length nv w)(gn:∀v∈nv,v.oneCell'=js)(cu:xs.length+us.length≤68719476736):
  ∃v w',(Builtin.append_ #[t,t2] ty #[G.hd s0 [],xv]).run P w=.ok v w'∧ ∃G',Rep Γ (E.app (aWr d s0 y k (xs++us)) (zBi d s0 y)) G' (a.tmps.setIfInBounds d v) w':=by
 have hm:=gc.mem;obtain⟨e1,e2,e3⟩:=gc.ent s0 _ hZ;simp only[Top]at e3;simp only[R]at e2;have mN:T.sizes us=us.length*k:=wT us hn.size;have fin:∀(G':Gh)(w':World)(v:Value),sG (zBi d s0 y) G w G' w'→Mem Γ G' w'→G'.hd d []=v→R Γ.St G' w' d (.sl k (xs++us)) []→(∀s p,s≠d→G'.hd s p=G.hd s p)→
   Rep Γ (E.app (aWr d s0 y k (xs++us)) (zBi d s0 y)) G' (a.tmps.setIfInBounds d v) w':=by
  intro G' w' v gw gz hdv db hother;refine wQ gc (by simp) gw gz ?_ ?_
  ·intro s hs
   have gf:s≠d:=by rintro rfl;simp[aWr,Wr.find]at hs
   have eV:s≠s0:=by rintro rfl;simp[aWr,Wr.find,gf.symm]at hs
   have iI:∀y',y=jq y'→s≠y':=by
    rintro y' rfl rfl
    simp[aWr,Wr.find,gf.symm,eV.symm]at hs
   refine⟨fun n' hn'=>?_,by rw[J6];simp[gf.symm]⟩;simp only[zBi,Js,Q6.injEq]at hn';rcases hn' with⟨h1,_⟩|⟨h1,_⟩|hn'
   ·exact gf h1
   ·exact eV h1
   ·cases y with
    |none=>simp at hn'
    |some y'=>simp at hn';exact iI y' rfl hn'.1
  ·intro s t' hs
   by_cases h1:s=d
   ·subst h1
    simp[aWr,Wr.find]at hs;subst hs;refine⟨?_,db,by simp only[Top];exact zD3 xs us e3 hn.clean⟩;rw[J6];simp[gc.size,hd,mkV,hdv]
   ·have h3:t'=.any∧(s=s0∨y=jq s):=by
     simp only[aWr,Wr.find]at hs;rw[if_neg (fun h=>h1 h.symm)]at hs;split at hs
     ·rename_i h2;simp at hs;exact⟨hs.symm,.inl h2.symm⟩
     ·cases y with
      |none=>simp[Wr.find]at hs
      |some y'=>
       simp only[Wr.find]at hs;split at hs
       ·rename_i h2;simp at hs;exact⟨hs.symm,.inr (by rw[h2])⟩
       ·cases hs
    obtain⟨rfl,h3⟩:=h3;refine⟨?_,by simp only[R],by simp[Top]⟩;rw[J6];simp only[Ne.symm h1,if_false,mkV];rw[hother s [] h1];rcases h3 with rfl|h3
    ·exact e1
    ·obtain⟨_,_,h4,_⟩:=hn.slot s h3
     exact(gc.ent s _ h4).1
 have pb:∀s p,(∀n',(s,n')∉zBi d s0 y)→zDI s0 y xs.length s p=jr:=by
  intro s p h;have h1:s≠s0:=fun e=>h 1 (by simp[zBi,e])
  have h2:y≠jq s:=fun e=>h 1 (by simp[zBi,e])
  simp[zDI,h1,h2]
 by_cases gN:∃a' c,G.hd s0 []=.slice a' xs.length c∧xs.length+us.length≤c
 ·
  obtain⟨a',c,hh,gN⟩:=gN;rcases e2 with⟨rfl,a1,h1⟩|⟨b,o0,cap,cs,et,h1,h2,h3,h4,h5,h6,h7,h8⟩
  ·rw[h1]at hh
   simp at hh;obtain⟨rfl,rfl⟩:=hh;have fd:us=[]:=Jn (by simp only[Li]at gN;omega);subst fd;have bW:nv=[]:=Jn (by have:=hn.len;simp at this;simp[this]);subst bW;have gx:=zEp (P:=P) (t:=t) (ty:=ty) (w':=w) ht hi hx (by simp) (base:=a1) (n:=0) (cap:=0) (by simp) (by cases a1<;>rfl);refine⟨.slice a1 0 0,w,by rw[h1];exact gx,G.put d (fun _=>.slice a1 0 0),fin _ w _ ?_ (hm.put rfl d _ (fun _=>rfl)) (by rw[Gh.put_self]) (by simp[R,Gh.put]) (fun s p h=>G.put_other _ p h)⟩;have:=G.put_keep (w:=w) (w':=w) rfl d (fun _=>.slice a1 0 0);exact⟨fun s p h=>this.hd s p (fun n hn=>h n (by simp at hn;simp[zBi,hn])),fun s p h=>this.ad s p (fun n hn=>h n (by simp at hn;simp[zBi,hn])),fun b o f s p h0 h1 h2=>this.lb b o f s p h0 h1 (fun n hn=>h2 n (by simp at hn;simp[zBi,hn])),fun b s p h1 h2=>this.ow b s p h1 (fun n hn=>h2 n (by simp at hn;simp[zBi,hn])),this.blk,by intros;assumption⟩
  ·rw[h1]at hh
   simp at hh;obtain⟨rfl,rfl⟩:=hh;have hmk0:us.length*k+xs.length*k≤cap*k:=by rw[←H6];exact Lh _ (by omega)
   have iF:∀o,o0+(xs.length*k+us.length*k)≤o→o0+xs.length*k≤o:=fun o h=>by omega
   generalize hoa:o0+xs.length*k=oa at h7 iF
   have hmk':oa+us.length*k≤o0+cap*k:=by omega
   have hmk:us.length*k+oa≤cs.size:=by omega
   generalize gY:w.setRow b (cs.toList.take (oa)++nv++cs.toList.drop (oa+nv.length)).toArray=w'
   have gQ:w'.heap[b]? =jq (.cells (cs.toList.take (oa)++nv++cs.toList.drop (oa+nv.length)).toArray et (0,0)):=by rw[←gY];exact setRow_heap w b cs _ et _ h2
   have gp:∀b',b'≠b→w'.heap[b']? =w.heap[b']?:=fun b' h=>by rw[←gY];exact setRow_other w b b' _ h
   have gL:w'.heap.size=w.heap.size:=by rw[←gY];exact size_setRow w b _
   have hcsl:cs.toList.length=cs.size:=K8 ..;have pL:=hn.len;have eB:∀i,yQ w' b i=if oa≤i∧i<oa+us.length*k then nv[i-oa]? else yQ w b i:=by
    intro i;simp only[yQ,World.cell?,gQ,h2,Qi,Lx,if_false];rw[←K6,←K6 (xs:=cs)];simp only[]
    by_cases g1:i<oa
    ·rw[if_neg (by omega),Ji,K9 (by simp;omega),G4 g1]
    ·by_cases g2:i<oa+us.length*k
     ·rw[if_pos ⟨by omega,g2⟩,Ji,Je (by simp;omega),K9 (by simp;omega)]
      congr 1;simp;omega
     ·rw[if_neg (by omega),Ji,Je (by simp;omega),Je (by simp;omega),Ky]
      congr 1;simp;omega
   have gR:∀b' o fl s p,G.lb b' o=jq (fl,s,p)→(fl,s,p)≠(js,s0,[])→ ¬(b'=b∧oa≤o∧o<oa+us.length*k):=by
    rintro b' o fl s p g1 g2 ⟨rfl,g3,g4⟩
    rw[h7 o g3 (by omega)]at g1;simp at g1;exact g2 (by simp[←g1.1,←g1.2.1,←g1.2.2])
   have eu:∀b' o,¬(b'=b∧oa≤o∧o<oa+us.length*k)→yQ w' b' o=yQ w b' o:=by
    intro b' o g
    by_cases eh:b'=b
    ·subst eh
     rw[eB,if_neg (fun g2=>g ⟨rfl,g2⟩)]
    ·simp[yQ,World.cell?,gp b' eh]
   have pc:((cs.toList.take (oa)++nv++cs.toList.drop (oa+nv.length)).toArray).size=cs.size:=by simp;omega
   have mn:∀(b':Nat) ms c,w.heap[b']? =jq (.map ms c)→w'.heap[b']? =jq (.map ms c):=fun b' ms c g=>by
    by_cases e:b'=b
    ·subst e
     rw[h2]at g;cases g
    ·rw[gp b' e];exact g
   have eg:Blk w w':=by
    intro b' cs' e' g1
    by_cases eh:b'=b
    ·subst eh
     rw[h2]at g1;simp at g1;obtain⟨rfl,rfl⟩:=g1;exact⟨_,gQ,pc⟩
    ·exact⟨cs',by rw[gp b' eh];exact g1,rfl⟩
   generalize gk:G.ip d s0 y b xs.length k oa us f2 (.slice (jq ⟨b,o0,jr⟩) (xs.length+us.length) cap)=G'
   have ghdr:G'.hd d []=.slice (jq ⟨b,o0,jr⟩) (xs.length+us.length) cap:=by rw[←gk];simp[Gh.ip]
   have ghd1:∀i z,i<xs.length→G'.hd d (z++[i])=G.hd s0 (z++[i]):=fun i z g=>by rw[←gk];simp[Gh.ip,g]
   have ghd2:∀j z,G'.hd d (z++[xs.length+j])=f2 j z:=fun j z=>by rw[←gk];simp[Gh.ip,show¬xs.length+j<xs.length from by omega]
   have ghd0:∀s z,s≠d→G'.hd s z=G.hd s z:=fun s z g=>by rw[←gk];simp[Gh.ip,g]
   have gad0:∀s z,s≠d→G'.ad s z=G.ad s z:=fun s z g=>by rw[←gk];simp[Gh.ip,g]
   have gad1:∀i z,i<xs.length→G'.ad d (z++[i])=G.ad s0 (z++[i]):=fun i z g=>by rw[←gk];simp[Gh.ip,g]
   have gad2:∀j f,(T.agg us).inT (j::f)=js→G'.ad d (f.reverse++[xs.length+j])=⟨b,oa+(T.agg us).offT (j::f),jr⟩:=fun j f g=>by rw[←gk];simp[Gh.ip,g,show¬xs.length+j<xs.length from by omega]
   have gad3:∀y' j z,y=jq y'→(T.agg us).inT (j::z.reverse)=jt→G'.ad d (z++[xs.length+j])=G.ad y' (z++[j]):=fun y' j z g1 g2=>by rw[←gk];simp[Gh.ip,g1,g2,show¬xs.length+j<xs.length from by omega]
   have glb2:∀i p,i<us.length*k→zCy us [] xs.length i=jq p→G'.lb b (oa+i)=jq (jt,d,p):=fun i p g1 g2=>by rw[←gk];simp only[Gh.ip];rw[if_pos (by simp;omega),show oa+i-oa=i from by omega,g2]
   have glb0:∀b' o fl s p,G.lb b' o=jq (fl,s,p)→ ¬(b'=b∧oa≤o∧o<oa+us.length*k)→zDI s0 y xs.length s p=jr→G'.lb b' o=jq (fl,s,p):=fun b' o fl s p g1 g2 g3=>by rw[←gk];simp only[Gh.ip];rw[if_neg g2,g1];simp[g3]
   have glb1:∀b' o fl s p p',G.lb b' o=jq (fl,s,p)→ ¬(b'=b∧oa≤o∧o<oa+us.length*k)→zDI s0 y xs.length s p=jq p'→G'.lb b' o=jq (fl,d,p'):=fun b' o fl s p p' g1 g2 g3=>by rw[←gk];simp only[Gh.ip];rw[if_neg g2,g1];simp[g3]
   have gow0:∀b' s p,G.ow b'=jq (s,p)→zDI s0 y xs.length s p=jr→G'.ow b'=jq (s,p):=fun b' s p g1 g2=>by rw[←gk];simp[Gh.ip,g1,g2]
   have gow1:∀b' s p p',G.ow b'=jq (s,p)→zDI s0 y xs.length s p=jq p'→G'.ow b'=jq (d,p'):=fun b' s p p' g1 g2=>by rw[←gk];simp[Gh.ip,g1,g2]
   have eT:∀p,zDI s0 y xs.length s0 p=jq p:=fun p=>by simp[zDI]
   have mi:∀y' z j,y=jq y'→y'≠s0→zDI s0 y xs.length y' (z++[j])=jq (z++[xs.length+j]):=fun y' z j g1 g2=>by simp[zDI,g1,g2]
   have gf:∀s p,Off (zBi d s0 y) s p→s≠d:=fun s p h e=>absurd (h 0 (by simp[zBi,e])) (by simp)
   have gw:sG (zBi d s0 y) G w G' w':=by
    refine⟨fun s p h=>ghd0 s p (gf s p h),fun s p h=>gad0 s p (gf s p h),fun b' o fl s p _ g1 g2=>?_,fun b' s p g1 g2=>gow0 b' s p g1 (pb s p g2),eg,fun b' _ _ ms c _ _ g=>mn b' ms c g⟩;have hs:s≠s0:=fun e=>g2 1 (by simp[zBi,e])
    have g3:=gR b' o fl s p g1 (by simp[hs]);exact⟨glb0 b' o fl s p g1 g3 (pb s p g2),eu b' o g3⟩
   have pV:=hm.ow b _ h6;have gz:Mem Γ G' w':=by
    refine⟨fun s z=>?_,fun b' o' l hl=>?_,fun b' l hl=>?_,fun b' x' gX=>?_,fun b' g1 g2=>?_,by rw[gL];exact hm.sz,hm.bk.trans eg (by rw[←gY];rfl) (by rw[←gY];rfl)⟩
    ·by_cases g:s=d
     ·subst g
      rcases zD4 z with rfl|⟨z',i,rfl⟩
      ·rw[ghdr];rfl
      ·by_cases g1:i<xs.length
       ·rw[ghd1 i z' g1];exact hm.one _ _
       ·have:=ghd2 (i-xs.length) z'
        rw[show xs.length+(i-xs.length)=i from by omega]at this;rw[this];exact hn.one _ _
     ·rw[ghd0 s z g];exact hm.one _ _
    ·have:zBp Γ w b':=by
      rw[←gk]at hl;simp only[Gh.ip]at hl;split at hl
      ·rename_i g;rw[g.1];exact pV
      ·split at hl
       ·rename_i g;exact hm.lb _ _ _ g
       ·cases hl
     exact⟨by rw[gL];exact this.1,this.2⟩
    ·have:zBp Γ w b':=by
      rw[←gk]at hl;simp only[Gh.ip]at hl;split at hl
      ·rename_i g;exact hm.ow _ _ g
      ·cases hl
     exact⟨by rw[gL];exact this.1,this.2⟩
    ·have eh:b'≠b:=by rintro rfl;rw[pV.2.2]at gX;cases gX
     rw[gp b' eh];exact hm.st b' x' gX
    ·have eh:b'≠b:=by
      rintro rfl
      rcases pV.2.1 with g3|g3
      ·omega
      ·exact g2 g3
     rw[gp b' eh];exact hm.fr b' g1 g2
   have br:vJ G' w' d us [] xs.length b (oa):=by
    refine zFP us [] xs.length b (oa) hn.tup (fun i x gX f hf=>?_) (fun i p' g1 g2=>glb2 i p' (by omega) g2) (fun i v hv=>?_)
    ·have:=gad2 i f (by simp only[T.inT,gX];exact hf)
     simpa[T.offT,gX]using this
    ·have g1:=hn.vals G' ghd2 i v hv
     have g2:=(Ja.1 g1).1;rw[eB,if_pos ⟨by omega,by omega⟩,show oa+i-oa=i from by omega];exact g1
   have db:R Γ.St G' w' d (.sl k (xs++us)) []:=by
    simp only[R];rw[ghdr];refine .inr ⟨b,o0,cap,_,et,by simp,gQ,by simp;omega,h4,by rw[pc];exact h5,gow1 b s0 [] [] h6 (eT []),?_,zDH _ _ _ _ _ (fun i x gX=>?_)⟩
    ·intro o g1 g2
     rw[J8,H6]at g1;exact glb1 b o js s0 [] [] (h7 o (by omega) g2) (by omega) (eT [])
    ·rw[Kb]at gX
     simp only[Jc];split at gX
     ·rename_i gE
      obtain⟨g1,g2,g3⟩:=qC xs [] 0 b o0 k i x h8 gX;simp only[Jc]at g1 g3;have bZ:∀b' o fl z,G.lb b' o=jq (fl,s0,z++[i])→G'.lb b' o=jq (fl,d,z++[i])∧yQ w' b' o=yQ w b' o:=fun b' o fl z g=>by have g4:=gR b' o fl s0 _ g (by simp);exact⟨glb1 b' o fl s0 _ _ g g4 (eT _),eu b' o g4⟩
      refine⟨zEm x [i] [i] b _ (fun z=>ghd1 i z gE) (fun z=>gad1 i z gE) (fun b' o z g=>bZ b' o jt z g) g1,g2,?_⟩;refine zAn (G:=G) (w:=w) (s:=s0) (p:=[i]) ⟨⟨fun z=>ghd1 i z gE,fun z _=>gad1 i z gE,fun b' o f z _ _ g=>bZ b' o f z g,fun b' z _ g=>gow1 b' s0 _ _ g (eT _),eg,fun b' _ ms c _ g=>mn b' ms c g⟩,fun b' o _ g=>?_,fun b' g=>gow1 b' s0 _ _ g (eT _)⟩ x (xC.mono (fun _ _=>False.elim) x (vZ xs e3 i x gX)) g3;have:=bZ b' o js [] (by simpa using g);simpa using this
     ·rename_i hge
      obtain⟨j,rfl⟩:∃j,i=xs.length+j:=⟨i-xs.length,by omega⟩;rw[show xs.length+j-xs.length=j from by omega]at gX;have g1:=zEh us [] xs.length b (oa) j x br gX;rw[show T.sizes (us.take j)=j*k from by rw[wT _ (fun u hu=>hn.size u (List.mem_of_mem_take hu)),Ge,Nat.min_eq_left (by have:=(Ja.1 gX).1;omega)],show oa+j*k=o0+(xs.length+j)*k from by rw[H6];omega]at g1
      refine⟨g1,hn.size x (Kx gX),?_⟩;cases hy:y with
      |none=>exact hn.none hy j x gX G' w' (fun z=>ghd2 j z)
      |some y'=>
       obtain⟨y1,y2,y3,y4⟩:=hn.slot y' hy;obtain⟨_,y5,_⟩:=gc.ent y' _ y3;simp only[R]at y5;rcases y5 with⟨rfl,_⟩|⟨b2,o2,cap2,cs2,et2,_,_,_,_,_,_,_,y6⟩
       ·simp at gX
       ·obtain⟨_,_,y7⟩:=qC us [] 0 b2 o2 k j x y6 gX
        simp only[Jc]at y7;refine zKb x [j] [xs.length+j] (zDc.okTups_get us hn.tup j x gX) ⟨fun z=>by rw[ghd2,y4],fun z g=>gad3 y' j z hy (by simp only[T.inT,gX];exact g),fun b' o fl z _ g=>?_,fun b' z g=>gow1 b' y' _ _ g (mi y' z j hy y2),eg,fun b' _ ms c _ g=>mn b' ms c g⟩ (xC.mono (fun _ _=>False.elim) x (vZ us hn.clean j x gX)) y7;have g4:=gR b' o fl y' _ g (by simp[y2]);exact⟨glb1 b' o fl y' _ _ g g4 (mi y' z j hy y2),eu b' o g4⟩
   have gH:=run_storeCells_at P b (oa) et nv 0 cs w h2 (by omega) gn;simp only[Jan]at gH;rw[gY]at gH;have gx:=zEp (P:=P) (t:=t) (ty:=ty) (w':=w') ht hi hx (by omega) (base:=jq ⟨b,o0,jr⟩) gN (by simp only[hk,uG,hoa];exact gH);refine⟨_,w',by rw[h1];exact gx,G',fin G' w' _ gw gz ghdr db ghd0⟩
 ·
  have aZ:∃a' c,G.hd s0 []=.slice a' xs.length c∧ ∀w2:World,w2.heap=w.heap→(Builtin.firstCells ti.size xs.length (.slice a' xs.length c)).run P w2=.ok (yJ G s0 xs [] 0).toArray w2:=by
   rcases e2 with⟨rfl,a1,h1⟩|⟨b,o0,cap,cs,et,h1,h2,h3,h4,h5,h6,h7,h8⟩
   ·exact⟨a1,0,h1,fun w2 _=>by cases a1<;>simp[Builtin.firstCells,loadCells,loadCellsFrom,yJ]⟩
   ·refine⟨_,_,h1,fun w2 pt=>?_⟩
    have hl:=kR xs [] 0 b o0 h8;refine run_firstCells_some (P:=P) w2 ti.size xs.length ⟨b,o0,jr⟩ _ _ _ ?_ (fun j v hv=>?_)
    ·rw[wP,hk]
     exact wT xs (zBA xs [] 0 b o0 h8).2
    ·have:=zAS xs [] 0 b o0 hl j v hv
     rw[uG];simp only[yQ]at this;simpa[World.cell?,pt]using this
  obtain⟨a',c,hh,gp⟩:=aZ;have eE:yU xs=js∧(∀x∈xs,x.size=k)∧ ∀i x,xs[i]? =jq x→R Γ.St G w s0 x [i]:=by
   rcases e2 with⟨rfl,a1,h1⟩|⟨b,o0,cap,cs,et,h1,h2,h3,h4,h5,h6,h7,h8⟩
   ·simp[yU]
   ·refine⟨zAq (St:=Γ.St) (k:=k) xs [] 0 b o0 (kR xs [] 0 b o0 h8),(zBA xs [] 0 b o0 h8).2,fun i x gX=>?_⟩
    have:=(qC xs [] 0 b o0 k i x h8 gX).2.2;simpa using this
  have gS:c<xs.length+us.length:=by
   rcases Jf c (xs.length+us.length)with g|g
   ·exact g
   ·exact absurd ⟨a',c,hh,g⟩ gN
  have gx:=zIZ (P:=P) (t:=t) (ty:=ty) ht hi hz hx gS cu hb gp;have hge:=grownCap_ge w (xs.length+us.length) c e;have dy:=grownCap_le_maxLen w (xs.length+us.length) c e (by simp only[maxLen];omega)
  generalize grownCap w (xs.length+us.length) c e=cap' at gx hge dy
  generalize gY:w.drew.alloc (.cells ((yJ G s0 xs [] 0++nv).toArray++Builtin.zeroCells z.cells (cap'-(xs.length+us.length))) e)=w' at gx
  have hwh:w'.heap=w.heap.push (.cells ((yJ G s0 xs [] 0++nv).toArray++Builtin.zeroCells z.cells (cap'-(xs.length+us.length))) e):=by rw[←gY];rfl
  have pY:T.sizes xs=xs.length*k:=wT xs eE.2.1;obtain⟨g1,g2,g3,g4,g5⟩:=zDc hm hwh d (xs++us) (fun i=>if i<xs.length then jq (s0,[i])else y.map fun y'=>(y',[i-xs.length])) (zDI s0 y xs.length) (fun i z=>if i<xs.length then G.hd s0 (z++[i])else f2 (i-xs.length) z) (.slice (jq ⟨w.heap.size,0,jr⟩) (xs.length+us.length) cap') ((zBi d s0 y).tail)
   (zD2 xs us eE.1 hn.tup) (fun i z=>by split;exact hm.one _ _;exact hn.one _ _) rfl
   (fun i u x q z' hu hs=>by
    split at hs
    ·simp at hs;obtain⟨rfl,rfl⟩:=hs;simp[zDI]
    ·rename_i eZ
     cases y with
     |none=>simp at hs
     |some y'=>
      simp at hs;obtain⟨rfl,rfl⟩:=hs;have:=(hn.slot y' rfl).2.1;simp[zDI,this,show xs.length+(i-xs.length)=i from by omega])
   (fun i u x q hu hs=>by
    rw[Kb]at hu;split at hs
    ·rename_i gE
     rw[if_pos gE]at hu;simp at hs;obtain⟨rfl,rfl⟩:=hs;exact⟨fun z'=>by simp[gE],eE.2.2 i u hu,vZ xs e3 i u hu,eO⟩
    ·rename_i eZ
     rw[if_neg eZ]at hu;cases hy:y with
     |none=>rw[hy]at hs;simp at hs
     |some y'=>
      rw[hy]at hs;simp at hs;obtain⟨rfl,rfl⟩:=hs;obtain⟨y1,y2,y3,y4⟩:=hn.slot y' hy;obtain⟨_,y5,_⟩:=gc.ent y' _ y3;simp only[R]at y5;refine⟨fun z'=>by simp[eZ,y4],?_,vZ us hn.clean _ u hu,y1⟩;rcases y5 with⟨rfl,_⟩|⟨b2,o2,cap2,cs2,et2,_,_,_,_,_,_,_,y6⟩
      ·simp at hu
      ·have:=(qC us [] 0 b2 o2 k _ u y6 hu).2.2
       simpa using this)
   (fun i u hu hs G2 w2 ey=>by
    rw[Kb]at hu;split at hs
    ·cases hs
    ·rename_i eZ
     rw[if_neg eZ]at hu;cases hy:y with
     |some y'=>rw[hy]at hs;simp at hs
     |none=>
      have:=hn.none hy (i-xs.length) u hu G2 w2 (fun z'=>by rw[show xs.length+(i-xs.length)=i from by omega,ey,if_neg eZ])
      rwa [show xs.length+(i-xs.length)=i from by omega]at this)
   (fun G2 ey o v hv=>by
    rw[zEn,Jc]at hv;have h1:yJ G2 d xs [] 0=yJ G s0 xs [] 0:=zKi xs [] 0 (fun i eL z'=>by rw[Jc,ey,if_pos eL]);rw[h1]at hv;have bZ:(yJ G s0 xs [] 0).length=xs.length*k:=by rw[wP,pY]
    have hl2:(yJ G2 d us [] xs.length).length=us.length*k:=by rw[wP,mN]
    have ho:o<xs.length*k+us.length*k:=by have:=(Ja.1 hv).1;rw[J8]at this;omega
    have pL:=hn.len;rw[Array.getElem?_append_left (by simp;omega),List.getElem?_toArray];rw[Kb]at hv ⊢
    split at hv
    ·rename_i gE;rw[if_pos gE];exact hv
    ·rename_i eZ;rw[if_neg eZ]
     exact hn.vals G2 (fun j z'=>by rw[ey,if_neg (by omega),show xs.length+j-xs.length=j from by omega]) _ v hv)
   (fun s p h=>pb s p (by simpa[zBi]using h)) (ho:=by rw[←gY];rfl) (hq:=by rw[←gY];rfl)
  refine⟨_,w',by rw[hh];exact gx,_,fin _ w' _ (by simpa[zBi]using g1) g2 (by simp[Gh.nb]) ?_ (fun s p h=>by simp[Gh.nb,h])⟩;simp only[R];refine .inr ⟨w.heap.size,0,cap',_,e,by simp[Gh.nb],g5,by simpa using hge,dy,?_,by simp[Gh.nb],?_,zQ3 _ _ _ _ _ (fun x gX=>?_) g3 g4⟩
  ·have bZ:(yJ G s0 xs [] 0).length=xs.length*k:=by rw[wP,pY]
   have pL:=hn.len;simp only[Array.size_append,Qp,J8,size_zeroCells,fm,bZ,pL,←H6];rw[Jc];exact Lh _ (by omega)
  ·intro o ho _
   rw[J8,H6]at ho;simp[Gh.nb,zDE (xs++us) [] 0 o (by rw[zEo];omega)]
  ·rcases K4.1 gX with h|h
   ·exact eE.2.1 x h
   ·exact hn.size x h
end
end Go.Ab

namespace Go.Ab
open Go
mutual
def T.flat:T→Bool
 |.lit _|.ro _=>js
 |.agg xs=>zAG xs
 |.any|.same _ _|.addr _ _|.sub _ _ _ _ _|.sl _ _|.ptr _|.mp _ _|.tup _=>jt
def zAG:List T→Bool
 | []=>js
 |x::xs=>x.flat&&zAG xs
end
section
variable {St:Stb}{G G2:Gh}{w w2:World}{s d:Nat}
mutual
theorem zJa:(t:T)→ ∀(p p':List Nat),t.flat=js→(∀z,G2.hd d (z++p')=G.hd s (z++p))→R St G w s t p→R St G2 w2 d t p'
 |.lit _,p,p',_,h,hr=>by have:=h [];simp only[Jy]at this;simp only[R]at hr ⊢;rw[this];exact hr
 |.ro _,p,p',_,h,hr=>by have:=h [];simp only[Jy]at this;simp only[R]at hr ⊢;rw[this];exact hr
 |.agg xs,p,p',hf,h,hr=>by simp only[R,T.flat]at hr hf ⊢;exact zN2 xs p p' 0 hf h hr
 |.any,_,_,hf,_,_|.same _ _,_,_,hf,_,_|.addr _ _,_,_,hf,_,_|.sub _ _ _ _ _,_,_,hf,_,_|.sl _ _,_,_,hf,_,_|.ptr _,_,_,hf,_,_|.mp _ _,_,_,hf,_,_|.tup _,_,_,hf,_,_=>by simp[T.flat]at hf
theorem zN2:(xs:List T)→ ∀(p p':List Nat)(j:Nat),zAG xs=js→(∀z,G2.hd d (z++p')=G.hd s (z++p))→RF St G w s xs p j→RF St G2 w2 d xs p' j
 | [],_,_,_,_,_,_=>by simp only[RF]
 |x::xs,p,p',j,hf,h,hr=>by
  simp only[RF,zAG,J3]at hr hf ⊢
  exact⟨zJa x (j::p) (j::p') hf.1 (fun z=>by have:=h (z++[j]);simpa using this) hr.1,zN2 xs p p' (j+1) hf.2 h hr.2⟩
end
end
mutual
theorem zG0:(t:T)→t.flat=js→zZ t∧t.okTup=js
 |.lit _,_|.ro _,_=>by simp[zZ,xC,T.okTup]
 |.agg xs,h=>by simp only[T.flat]at h;simpa only[zZ,xC,T.okTup]using zAy xs h
 |.any,h|.same _ _,h|.addr _ _,h|.sub _ _ _ _ _,h|.sl _ _,h|.ptr _,h|.mp _ _,h|.tup _,h=>by simp[T.flat]at h
theorem zAy:(xs:List T)→zAG xs=js→xE xs∧yU xs=js
 | [],_=>by simp[xE,xX,yU]
 |x::xs,h=>by simp only[zAG,J3]at h;simp only[xE,xX,yU,J3];exact⟨⟨(zG0 x h.1).1,(zAy xs h.2).1⟩,(zG0 x h.1).2,(zAy xs h.2).2⟩
end
theorem zHO:(xs:List T)→zAG xs=js→ ∀(i:Nat)(x:T),xs[i]? =jq x→x.flat=js
 | [],_,_,_,h=>by simp at h
 |y::ys,hk,i,x,h=>by
  simp only[zAG,J3]at hk;cases i with
  |zero=>simp at h;subst h;exact hk.1
  |succ i=>exact zHO ys hk.2 i x (by simpa using h)
mutual
def zFH:T→Bool
 |.lit _=>js
 |.sl _ xs=>zCp xs
 |.agg xs=>zCp xs
 |.ptr t=>zFH t
 |.any|.ro _|.same _ _|.addr _ _|.sub _ _ _ _ _|.tup _|.mp _ _=>jt
def zCp:List T→Bool
 | []=>js
 |x::xs=>zFH x&&zCp xs
end
theorem zKj:(ys:List T)→zCp ys=js→ ∀u∈ys,∀xs,u≠.tup xs
 | [],_,_,h,_=>by simp at h
 |y::ys,hr,u,h,xs=>by
  simp only[zCp,J3]at hr;rcases Js.1 h with rfl|h
  ·rintro rfl;simp[zFH]at hr
  ·exact zKj ys hr.2 u h xs
theorem zFz:(ys:List T)→(roT.roTs ys).length=ys.length
 | []=>rfl
 |y::ys=>by simp[roT.roTs,zFz ys]
theorem zG1{k:Nat}:(ys:List T)→(∀u∈ys,u.size=k)→(∀u∈ys,∀xs,u≠.tup xs)→ ∀u∈roT.roTs ys,u.size=k
 | [],_,_,u,h=>by simp[roT.roTs]at h
 |y::ys,h1,h2,u,h=>by
  simp only[roT.roTs,Js]at h;rcases h with rfl|h
  ·rw[zEi y (h2 y (by simp))];exact h1 y (by simp)
  ·exact zG1 ys (fun v hv=>h1 v (by simp[hv])) (fun v hv=>h2 v (by simp[hv])) u h
theorem zKk:(ys:List T)→ ∀(j:Nat)(u:T),(roT.roTs ys)[j]? =jq u→ ∃u0,ys[j]? =jq u0∧u=roT u0
 | [],_,_,h=>by simp[roT.roTs]at h
 |y::ys,j,u,h=>by
  cases j with
  |zero=>simp[roT.roTs]at h;exact⟨y,by simp,h.symm⟩
  |succ j=>
   obtain⟨u0,h1,h2⟩:=zKk ys j u (by simpa[roT.roTs]using h);exact⟨u0,by simpa using h1,h2⟩
theorem zN3{St:Stb}{G2:Gh}{d:Nat}:(ys:List T)→ ∀(cs':Array Value)(o' k n:Nat),RoL St ys cs' o' k→(∀u∈ys,u.size=k)→(∀j u,ys[j]? =jq u→ ∀z',G2.hd d (z'++[n+j])=kO (zDD u cs' (o'+j*k) z'.reverse))→
  ∀(i:Nat)(v:Value),(yJ G2 d (roT.roTs ys) [] n)[i]? =jq v→cs'[o'+i]? =jq v
 | [],_,_,_,_,_,_,_,i,v,hv=>by simp[roT.roTs,yJ]at hv
 |y::ys,cs',o',k,n,h,hs,hd,i,v,hv=>by
  simp only[RoL]at h;simp only[roT.roTs,yJ]at hv;have gU:∀xs,y≠.tup xs:=by rintro xs rfl;simp only[RoC]at h;exact h.1
  have iH:∀xs,roT y≠.tup xs:=fun xs e=>by cases y<;>simp[roT]at e
  have hl:(vals G2 d (roT y) [n]).length=k:=by rw[vF _ _ iH,zEi y gU,hs y (by simp)]
  rw[Kb]at hv;split at hv
  ·exact zGn y cs' o' [n] (fun z'=>by simpa using hd 0 y (by simp) z') h.1 i v hv
  ·have:=zN3 ys cs' (o'+k) k (n+1) h.2 (fun u hu=>hs u (by simp[hu])) (fun j u hu z'=>by
    have:=hd (j+1) u (by simpa using hu) z'
    rwa [show n+(j+1)=n+1+j from by omega,show o'+(j+1)*k=o'+k+j*k from by rw[Ly];omega]at this) _ v hv
   rwa [hl,show o'+k+(i-k)=o'+i from by omega]at this
mutual
theorem zOM{G:Gh}(hg:∀s z,(G.hd s z).oneCell'=js){s:Nat}:(t:T)→ ∀(p:List Nat)(v:Value),v∈vals G s t p→v.oneCell'=js
 |.agg xs,p,v,h=>by simp only[vals]at h;exact zDJ hg xs p 0 v h
 |.any,p,v,h|.lit _,p,v,h|.ro _,p,v,h|.same _ _,p,v,h|.addr _ _,p,v,h|.sub _ _ _ _ _,p,v,h|.sl _ _,p,v,h|.ptr _,p,v,h|.mp _ _,p,v,h|.tup _,p,v,h=>by simp only[vals,List.mem_singleton]at h;rw[h];exact hg s p
theorem zDJ{G:Gh}(hg:∀s z,(G.hd s z).oneCell'=js){s:Nat}:(xs:List T)→ ∀(p:List Nat)(j:Nat)(v:Value),v∈yJ G s xs p j→v.oneCell'=js
 | [],_,_,_,h=>by simp[yJ]at h
 |x::xs,p,j,v,h=>by
  simp only[yJ,K4]at h;rcases h with h|h
  ·exact zOM hg x _ v h
  ·exact zDJ hg xs p _ v h
end
theorem zC2{G G2:Gh}{s d:Nat}:(us:List T)→ ∀(n j:Nat),(∀i z,G2.hd d (z++[n+i])=G.hd s (z++[j+i]))→yJ G2 d us [] n=yJ G s us [] j
 | [],_,_,_=>by simp only[yJ]
 |x::xs,n,j,h=>by
  have ih:yJ G2 d xs [] (n+1)=yJ G s xs [] (j+1):=zC2 xs (n+1) (j+1) (fun i z=>by rw[show n+1+i=n+(i+1)from by omega,show j+1+i=j+(i+1)from by omega];exact h (i+1) z)
  simp only[yJ];rw[ih,zBq x [j] [n] (by simpa using h 0)]
theorem zEq{G G2:Gh}{s d:Nat}:(us:List T)→ ∀(n j:Nat)(q:List Nat),(∀i z,G2.hd d (z++[n+i])=G.hd s (z++((j+i)::q)))→yJ G2 d us [] n=yJ G s us q j
 | [],_,_,_,_=>by simp only[yJ]
 |x::xs,n,j,q,h=>by
  have ih:yJ G2 d xs [] (n+1)=yJ G s xs q (j+1):=zEq xs (n+1) (j+1) q (fun i z=>by rw[show n+1+i=n+(i+1)from by omega,show j+1+i=j+(i+1)from by omega];exact h (i+1) z)
  simp only[yJ];rw[ih,zBq x (j::q) [n] (by simpa using h 0)]
section
variable {P:Program}{Γ:Ctx}{E:Env}{o:Oper}{d:Nat}
theorem zN4{St:Stb}{G:Gh}{w:World}{r:Nat}{q:List Nat}{k:Nat}{us:List T}(h:R St G w r (.sl k us) q){size:Nat}(hk:size=k):
  ∃xa c,G.hd r q=.slice xa us.length c∧ ∀w2:World,w2.heap=w.heap→(Builtin.firstCells size us.length (.slice xa us.length c)).run P w2=.ok (yJ G r us q 0).toArray w2:=by
 simp only[R]at h;rcases h with⟨rfl,a1,h1⟩|⟨b,o0,cap,cs,et,h1,h2,h3,h4,h5,h6,h7,h8⟩
 ·exact⟨a1,0,h1,fun w2 _=>by cases a1<;>simp[Builtin.firstCells,loadCells,loadCellsFrom,yJ]⟩
 ·refine⟨_,_,h1,fun w2 pt=>?_⟩
  have hl:=kR us q 0 b o0 h8;refine run_firstCells_some (P:=P) w2 size us.length ⟨b,o0,jr⟩ _ _ _ ?_ (fun j v hv=>?_)
  ·rw[wP,hk]
   exact wT us (zBA us q 0 b o0 h8).2
  ·have:=zAS us q 0 b o0 hl j v hv
   rw[uG];simp only[yQ]at this;simpa[World.cell?,pt]using this
theorem zBB{G:Gh}{a:Act}{w:World}(gc:Rep Γ E G a.tmps w){s:Nat}{t:T}(h:E s=jq t)(ht:t.single=js):a.eval (.tmp s)=G.hd s []:=by rw[wG (gc.ent s t h).1,xF ht]
theorem zJb(t e:TypeId)(ti:TypeInfo)(z:Value)(k s0 y:Nat)(xs us:List T)(ho:o.op=.call { callee:=.builtin .append,args:=#[.tmp s0,.tmp y],argTypes:=#[t,t] })(gg:o.dst=jq d)(hd:d<Γ.N)
  (ht:P.underlying t=jq (.slice e))(hi:P.info? e=jq ti)(hz:ti.zero=jq z)(hk:ti.size=k)(eA:0<k)(fm:z.cells.size=k)(hb:ti.bytes≤2048)
  (hZ:E s0=jq (.sl k xs))(hy:E y=jq (.sl k us))(eO:s0≠d)(cv:y≠d)(df:y≠s0)(cu:xs.length+us.length≤68719476736):
  wC P Γ o E (E.app (aWr d s0 (jq y) k (xs++us)) (zBi d s0 (jq y))):=by
 refine wC.value gg fun a w G gc=>?_
 obtain⟨_,y2,y3⟩:=gc.ent y _ hy;simp only[Top]at y3;obtain⟨xa,c,h1,h2⟩:=zN4 (P:=P) y2 hk;have fd:yU us=js∧ ∀u∈us,u.size=k:=by
  simp only[R]at y2;rcases y2 with⟨rfl,_⟩|⟨b,o0,cap,cs,et,_,_,_,_,_,_,_,h8⟩
  ·simp[yU]
  ·exact⟨zAq (St:=Γ.St) (k:=k) us [] 0 b o0 (kR us [] 0 b o0 h8),(zBA us [] 0 b o0 h8).2⟩
 have hn:zGz Γ E G d s0 (jq y) k xs.length us (fun j z'=>G.hd y (z'++[j])) (yJ G y us [] 0):=
  ⟨fd.2,fd.1,y3,fun j z'=>gc.mem.one _ _,by rw[wP];exact wT us fd.2,fun y' hy'=>by simp at hy';subst hy';exact⟨cv,df,hy,fun _ _=>rfl⟩,fun h=>by simp at h,
   fun G2 ey o v hv=>by rw[←zC2 us xs.length 0 (fun i z'=>by rw[ey,Jc])];exact hv⟩
 obtain⟨v,w',gx,G',gk⟩:=zBV (P:=P) (ty:=o.type) gc hd ht hi hz hk eA fm hb hZ eO hn (xv:=a.eval (.tmp y)) ⟨.inl ⟨e,xa,c,ht,by rw[zBB gc hy rfl,h1],h2⟩⟩ (fun v hv=>zDe gc.mem us [] 0 v hv) cu;refine⟨v,w',?_,G',gk⟩;rw[←zBB gc hZ rfl]at gx;simp[execOp,ho,resolve,invoke,builtin,gx]
theorem zJc(t e:TypeId)(ti:TypeInfo)(z:Value)(k s0:Nat)(y:Operand)(r:Nat)(q:List Nat)(xs us:List T)(ho:o.op=.call { callee:=.builtin .append,args:=#[.tmp s0,y],argTypes:=#[t,t] })(gg:o.dst=jq d)(hd:d<Γ.N)
  (ht:P.underlying t=jq (.slice e))(hi:P.info? e=jq ti)(hz:ti.zero=jq z)(hk:ti.size=k)(eA:0<k)(fm:z.cells.size=k)(hb:ti.bytes≤2048)
  (hZ:E s0=jq (.sl k xs))(hy:uJ E y=jq (r,q,.sl k us))(hf:zAG us=js)(eO:s0≠d)(cu:xs.length+us.length≤68719476736):
  wC P Γ o E (E.app (aWr d s0 jr k (xs++us)) (zBi d s0 jr)):=by
 refine wC.value gg fun a w G gc=>?_
 obtain⟨y2,y1⟩:=qD gc hy rfl;obtain⟨xa,c,h1,h2⟩:=zN4 (P:=P) y2 hk;have fd:(∀u∈us,u.size=k)∧ ∀j u,us[j]? =jq u→R Γ.St G w r u (j::q):=by
  simp only[R]at y2;rcases y2 with⟨rfl,_⟩|⟨b,o0,cap,cs,et,_,_,_,_,_,_,_,h8⟩
  ·simp
  ·refine⟨(zBA us q 0 b o0 h8).2,fun j u hu=>?_⟩
   have:=(qC us q 0 b o0 k j u h8 hu).2.2;simpa using this
 have gK:=zAy us hf;have hn:zGz Γ E G d s0 jr k xs.length us (fun j z'=>G.hd r (z'++(j::q))) (yJ G r us q 0):=
  ⟨fd.1,gK.2,gK.1,fun j z'=>gc.mem.one _ _,by rw[wP];exact wT us fd.1,fun y' hy'=>by simp at hy',
   fun _ j u hu G2 w2 ey=>zJa u (j::q) [xs.length+j] (zHO us hf j u hu) (fun z'=>ey z') (fd.2 j u hu),
   fun G2 ey o v hv=>by rw[←zEq us xs.length 0 q (fun i z'=>by rw[ey,Jc])];exact hv⟩
 obtain⟨v,w',gx,G',gk⟩:=zBV (P:=P) (ty:=o.type) gc hd ht hi hz hk eA fm hb hZ eO hn (xv:=a.eval y) ⟨.inl ⟨e,xa,c,ht,by rw[y1,h1],h2⟩⟩ (fun v hv=>zDe gc.mem us q 0 v hv) cu;refine⟨v,w',?_,G',gk⟩;rw[←zBB gc hZ rfl]at gx;simp[execOp,ho,resolve,invoke,builtin,gx]
mutual
theorem zQ8:(u:T)→zFH u=js→(roT u).flat=js
 |.agg xs,h=>by simp only[zFH]at h;simp only[roT,T.flat];exact zET xs h
 |.lit _,_|.sl _ _,_|.ptr _,_|.mp _ _,_=>by simp[roT,T.flat]
 |.any,h|.ro _,h|.same _ _,h|.addr _ _,h|.sub _ _ _ _ _,h|.tup _,h=>by simp[zFH]at h
theorem zET:(xs:List T)→zCp xs=js→zAG (roT.roTs xs)=js
 | [],_=>by simp[roT.roTs,zAG]
 |x::xs,h=>by simp only[zCp,J3]at h;simp only[roT.roTs,zAG,J3];exact⟨zQ8 x h.1,zET xs h.2⟩
end
theorem zJd(t e:TypeId)(ti:TypeInfo)(z:Value)(k s0:Nat)(y:Operand)(r:Nat)(q:List Nat)(xs ys:List T)(ho:o.op=.call { callee:=.builtin .append,args:=#[.tmp s0,y],argTypes:=#[t,t] })(gg:o.dst=jq d)(hd:d<Γ.N)
  (ht:P.underlying t=jq (.slice e))(hi:P.info? e=jq ti)(hz:ti.zero=jq z)(hk:ti.size=k)(eA:0<k)(fm:z.cells.size=k)(hb:ti.bytes≤2048)
  (hZ:E s0=jq (.sl k xs))(hy:uJ E y=jq (r,q,.ro (.sl k ys)))(hro:zCp ys=js)(df:∀u∈ys,u.size=k)(eO:s0≠d)(cu:xs.length+ys.length≤68719476736):
  wC P Γ o E (E.app (aWr d s0 jr k (xs++roT.roTs ys)) (zBi d s0 jr)):=by
 refine wC.value gg fun a w G gc=>?_
 obtain⟨y2,y1⟩:=qD gc hy rfl;obtain⟨xa,c,h1,h2,h3,h4⟩:=zDb y2;have hf:=zET ys hro;have gK:=zAy _ hf;have gv:(roT.roTs ys).length=ys.length:=zFz ys;have gu:∀u∈roT.roTs ys,u.size=k:=zG1 ys df (fun u hu=>zKj ys hro u hu);obtain⟨cs',o',h5,h6⟩:∃(cs':Array Value)(o':Nat),RoL Γ.St ys cs' o' k∧(ys≠[]→ ∃b et fr,xa=jq ⟨b,o',jr⟩∧Γ.St b=jq (.cells cs' et fr)):=by
  by_cases gf:ys=[]
  ·subst gf;exact⟨#[],0,by simp[RoL],fun h=>absurd rfl h⟩
  ·obtain⟨b,o',cs',et,fr,h5,h6,h7⟩:=h4 gf
   exact⟨cs',o',h7,fun _=>⟨b,et,fr,h5,h6⟩⟩
 let f2:Nat→List Nat→Value:=fun j z'=>match ys[j]? with
  |some u=>kO (zDD u cs' (o'+j*k) z'.reverse)
  |none=>.bool jt
 have hf2:∀j u,ys[j]? =jq u→ ∀z',f2 j z'=kO (zDD u cs' (o'+j*k) z'.reverse):=fun j u hu z'=>by simp[f2,hu]
 let G0:Gh:={ G with hd:=fun s z'=>if s=d then(match z'.getLast? with
  |some j=>f2 j z'.dropLast
  |none=>.bool jt)else G.hd s z' }
 have hG0:∀j z',G0.hd d (z'++[j])=f2 j z':=fun j z'=>by simp[G0]
 have cy:∀(G2:Gh)(n:Nat),(∀j z',G2.hd d (z'++[n+j])=f2 j z')→ ∀(i:Nat)(v:Value),(yJ G2 d (roT.roTs ys) [] n)[i]? =jq v→cs'[o'+i]? =jq v:=by intro G2 n ey i v hv;exact zN3 ys cs' o' k n h5 df (fun j u hu z'=>by rw[ey,hf2 j u hu]) i v hv
 have aK:∀w2:World,w2.heap=w.heap→(Builtin.firstCells ti.size ys.length (.slice xa ys.length c)).run P w2=.ok (yJ G0 d (roT.roTs ys) [] 0).toArray w2:=by
  intro w2 pt
  by_cases gf:ys=[]
  ·subst gf
   cases xa<;>simp[Builtin.firstCells,loadCells,loadCellsFrom,roT.roTs,yJ]
  ·obtain⟨b,et,fr,rfl,h7⟩:=h6 gf
   refine run_firstCells_some (P:=P) w2 ti.size ys.length ⟨b,o',jr⟩ _ _ _ ?_ (fun j v hv=>?_)
   ·rw[wP,hk,wT _ gu,gv]
   ·have:=cy G0 0 (fun j z'=>by rw[Jc];exact hG0 j z') j v hv
    rw[uG];have h8:=gc.mem.st b _ h7;simp[World.cell?,pt,h8,this]
 have mj:∀j z',(f2 j z').oneCell'=js:=fun j z'=>by
  dsimp only[f2];split
  ·exact zB6 _
  ·rfl
 have hn:zGz Γ E G d s0 jr k xs.length (roT.roTs ys) f2 (yJ G0 d (roT.roTs ys) [] 0):=by
  refine⟨gu,gK.2,gK.1,mj,by rw[wP];exact wT _ gu,fun y' hy'=>by simp at hy',fun _ j u hu G2 w2 ey=>?_,fun G2 ey i v hv=>?_⟩
  ·obtain⟨u0,dj,rfl⟩:=zKk ys j u hu
   exact zQy u0 cs' (o'+j*k) [xs.length+j] (fun z'=>by rw[ey z',hf2 j u0 dj]) (zFO ys cs' o' k j u0 h5 dj)
  ·rw[←zC2 (roT.roTs ys) xs.length 0 (fun i z'=>by rw[ey,Jc];exact(hG0 i z').symm)]
   exact hv
 have aB:∀v∈yJ G0 d (roT.roTs ys) [] 0,v.oneCell'=js:=by
  intro v hv;refine zDJ (fun s z'=>?_) _ [] 0 v hv;simp only[G0];split
  ·split
   ·exact mj _ _
   ·rfl
  ·exact gc.mem.one _ _
 have bE:zGy P t e ti (a.eval y) (roT.roTs ys).length (yJ G0 d (roT.roTs ys) [] 0) w:=⟨.inl ⟨e,xa,c,ht,by rw[y1,h1,gv],by rw[gv];exact aK⟩⟩;obtain⟨v,w',gx,G',gk⟩:=zBV (P:=P) (ty:=o.type) gc hd ht hi hz hk eA fm hb hZ eO hn bE aB (by rw[gv];exact cu);refine⟨v,w',?_,G',gk⟩;rw[←zBB gc hZ rfl]at gx;simp[execOp,ho,resolve,invoke,builtin,gx]
end
end Go.Ab

namespace Go.Ab
open Go
theorem zF0:(us:List T)→qE us=us.flatMap tQ
 | []=>rfl
 |u::us=>by simp[qE,zF0 us]
theorem zC3(u:T)(h:u.zOk=js):∀m,zAM (J1 m u)=js
 |0=>rfl
 |m+1=>by simp[Ks,zAM,h,zC3 u h m]
section
variable {P:Program}{Γ:Ctx}{E:Env}{o:Oper}{d:Nat}
theorem zG2(t t2 e:TypeId)(k2:IntKind)(ti:TypeInfo)(z:Value)(u:T)(k s0:Nat)(y:Operand)(kd:IntKind)(m:Nat)(xs:List T)(ho:o.op=.call { callee:=.builtin .append,args:=#[.tmp s0,y],argTypes:=#[t,t2] })(gg:o.dst=jq d)(hd:d<Γ.N)
  (ht:P.underlying t=jq (.slice e))(cE:P.underlying t2=jq (.int k2))(hi:P.info? e=jq ti)(hz:ti.zero=jq z)(hk:ti.size=k)(eA:0<k)(hb:ti.bytes≤2048)(hu:u.zOk=js)(hv:tQ u=z.cells.toList)(fd:u.size=k)
  (hZ:E s0=jq (.sl k xs))(hy:opT E y=jq (.lit (.int kd m)))(eO:s0≠d)(cu:xs.length+m≤68719476736):
  wC P Γ o E (E.app (aWr d s0 jr k (xs++J1 m u)) (zBi d s0 jr)):=by
 refine wC.value gg fun a w G gc=>?_
 have fm:z.cells.size=k:=by grind[vM]
 have hzo:=zC3 u hu m;have gK:=zBU _ hzo
 let f2:Nat→List Nat→Value:=fun _ z'=>kO (zhd u z'.reverse)
 have hnvl:((Builtin.zeroCells z.cells m).toList).length=m*k:=by grind[Builtin.zeroCells]
 have hn:zGz Γ E G d s0 jr k xs.length (J1 m u) f2 (Builtin.zeroCells z.cells m).toList:=by
  refine⟨by grind,gK.2,gK.1,fun _ _=>zB6 _,by grind,by simp,fun _ j x hx G2 w2 ey=>?_,fun G2 ey i v px=>?_⟩
  ·grind[zIV]
  ·have h1:yJ G2 d (J1 m u) [] xs.length=qE (J1 m u):=by grind[zDF]
   rw[h1,zF0]at px;obtain⟨h2,h3⟩:=zIW tQ u k (by grind) eA m i v px
   grind[Builtin.zeroCells]
 have gn:∀v∈(Builtin.zeroCells z.cells m).toList,v.oneCell'=js:=by
  intro v px;simp only[Builtin.zeroCells,Array.toList_map,Array.toList_range,Jh,K5]at px;obtain⟨i,eL,rfl⟩:=px
  grind[Nat.mod_lt,zER]
 have bE:zGy P t2 e ti (a.eval y) (J1 m u).length (Builtin.zeroCells z.cells m).toList w:=by
  refine⟨.inr ⟨k2,kd,z,cE,?_,hz,by simp,?_,by omega⟩⟩
  ·rw[(xD gc hy).1];simp
  ·simp only[Jl]
   exact Ko (Uf (show m≤68719476736 by omega) hb) (by decide)
 obtain⟨v,w',gx,G',gk⟩:=zBV (P:=P) (ty:=o.type) gc hd ht hi hz hk eA fm hb hZ eO hn bE gn (by grind);refine⟨v,w',?_,G',gk⟩;rw[←zBB gc hZ rfl]at gx;simp[execOp,ho,resolve,invoke,builtin,gx]
end
end Go.Ab

namespace Go.Ab
open Go
def zKl(G:Gh)(nd:List (Nat×List Nat×T)):Value:=
 match nd with
 | [x]=>sC G x.1 x.2.2 x.2.1
 |nd=>.tuple (nd.map fun x=>sC G x.1 x.2.2 x.2.1).toArray
def FnC(P:Program)(f:FuncId)(us:List T)(res:List T)(rws:List (Nat×T)):Prop:=
 ∀(St:Stb)(W:Nat→Prop)(w:World)(G:Gh)(vs:Array Value),vs.size=us.length→
  (∀(i:Nat) u,us[i]? =jq u→vs[i]? =jq (mkV G i u [])∧R St G w i u [])→Mem ⟨St,W,w,0⟩ G w→
  Calls P f vs w fun e w'=> ∃(S':Stb)(G':Gh)(nd:List (Nat×List Nat×T)),zDy St S' W w.heap.size∧e=.returned (zKl G' nd)∧Mem ⟨S',W,w,0⟩ G' w'∧nd.map (·.2.2)=res∧
   (∀x∈nd,R S' G' w' x.1 x.2.2 x.2.1∧us.length≤x.1)∧(nd.map (·.1)).Nodup∧
   ∀i u',(i,u')∈rws→R S' G' w' i u' []∧ ∃u,us[i]? =jq u∧mkV G' i u' []=mkV G i u []
mutual
def vG:T→Bool
 |.ro _|.mp _ _=>jt
 |.sl _ xs|.agg xs|.tup xs=>uM xs
 |.ptr t=>vG t
 |.any|.lit _|.same _ _|.addr _ _|.sub _ _ _ _ _=>js
def uM:List T→Bool
 | []=>js
 |x::xs=>vG x&&uM xs
end
section
variable {St St':Stb}{G:Gh}{w:World}{s:Nat}
mutual
theorem zON:(t:T)→ ∀(p:List Nat),vG t=js→R St G w s t p→R St' G w s t p
 |.ro _,_,h,_|.mp _ _,_,h,_=>by simp[vG]at h
 |.sl k xs,p,h,hr=>by
  simp only[vG,R]at h hr ⊢
  rcases hr with hr|⟨b,o0,cap,cs,e,h1,h2,h3,h4,h5,h6,h7,h8⟩
  ·exact .inl hr
  ·exact .inr ⟨b,o0,cap,cs,e,h1,h2,h3,h4,h5,h6,h7,zWj xs p 0 b o0 k h h8⟩
 |.agg xs,p,h,hr|.tup xs,p,h,hr=>by simp only[vG,R]at h hr ⊢;exact zWk xs p 0 h hr
 |.ptr t,p,h,hr=>by
  simp only[vG,R]at h hr ⊢
  obtain⟨b,cs,e,h1,h2,h3,h6,h4,h5⟩:=hr;exact⟨b,cs,e,h1,h2,h3,h6,h4,zON t _ h h5⟩
 |.any,_,_,hr|.lit _,_,_,hr|.same _ _,_,_,hr|.addr _ _,_,_,hr|.sub _ _ _ _ _,_,_,hr=>by first|(simp only[R];done)|simpa only[R]using hr
theorem zWj:(xs:List T)→ ∀(p:List Nat)(i b o k:Nat),uM xs=js→RL St G w s xs p i b o k→RL St' G w s xs p i b o k
 | [],_,_,_,_,_,_,_=>by simp only[RL]
 |x::xs,p,i,b,o,k,h,hr=>by
  simp only[uM,J3,RL]at h hr ⊢
  exact⟨hr.1,zON x _ h.1 hr.2.1,zWj xs p (i+1) b _ k h.2 hr.2.2⟩
theorem zWk:(xs:List T)→ ∀(p:List Nat)(i:Nat),uM xs=js→RF St G w s xs p i→RF St' G w s xs p i
 | [],_,_,_,_=>by simp only[RF]
 |x::xs,p,i,h,hr=>by
  simp only[uM,J3,RF]at h hr ⊢
  exact⟨zON x _ h.1 hr.1,zWk xs p (i+1) h.2 hr.2⟩
end
end
section
variable {St St':Stb} (h:∀b x,St b=jq x→St' b=jq x)
 include h
mutual
theorem uN:(t:T)→ ∀(cs:Array Value)(o:Nat),RoC St t cs o→RoC St' t cs o
 |.sl k xs,cs,o,hr=>by
  simp only[RoC]at hr ⊢
  obtain⟨a,c,h1,h2,h3,h4⟩:=hr;refine⟨a,c,h1,h2,h3,fun gf=>?_⟩;obtain⟨b,o',cs',e,fr,h5,h6,h7⟩:=h4 gf;exact⟨b,o',cs',e,fr,h5,h b _ h6,zKm xs cs' o' k h7⟩
 |.agg xs,cs,o,hr=>by simp only[RoC]at hr ⊢;exact zKn xs cs o hr
 |.ptr t,cs,o,hr=>by
  simp only[RoC]at hr ⊢
  obtain⟨b,o',cs',e,fr,h5,h6,h7⟩:=hr;exact⟨b,o',cs',e,fr,h5,h b _ h6,uN t cs' o' h7⟩
 |.ro u,cs,o,hr=>by
  simp only[RoC]at hr ⊢
  obtain⟨f,vs,h1,h2,h3⟩:=hr;exact⟨f,vs,h1,h2,uN u _ _ h3⟩
 |.any,_,_,hr|.lit _,_,_,hr|.same _ _,_,_,hr|.addr _ _,_,_,hr|.sub _ _ _ _ _,_,_,hr|.tup _,_,_,hr|.mp _ _,_,_,hr=>by first|(simp only[RoC]at hr;done)|simpa only[RoC]using hr
theorem zKm:(xs:List T)→ ∀(cs:Array Value)(o k:Nat),RoL St xs cs o k→RoL St' xs cs o k
 | [],_,_,_,_=>by have _:=h;simp only[RoL]
 |x::xs,cs,o,k,hr=>by simp only[RoL]at hr ⊢;exact⟨uN x cs o hr.1,zKm xs cs _ k hr.2⟩
theorem zKn:(xs:List T)→ ∀(cs:Array Value)(o:Nat),RoF St xs cs o→RoF St' xs cs o
 | [],_,_,_=>by have _:=h;simp only[RoF]
 |x::xs,cs,o,hr=>by simp only[RoF]at hr ⊢;exact⟨uN x cs o hr.1,zKn xs cs _ hr.2⟩
end
end
section
variable {St St':Stb}{G:Gh}{w:World}{s:Nat} (h:∀b x,St b=jq x→St' b=jq x)
 include h
theorem zKo:∀(ks:List Value)(xs:List T)(es:List MapEntry),RoM St ks xs es→RoM St' ks xs es
 | [],[],[],_=>by have _:=h;trivial
 |k::ks,x::xs,e::es,hr=>by simp only[RoM]at hr ⊢;exact⟨hr.1,uN h x _ _ hr.2.1,zKo ks xs es hr.2.2⟩
 | [],_::_,_,hr| [],[],_::_,hr|_::_,[],_,hr|_::_,_::_,[],hr=>by simp only[RoM]at hr
mutual
theorem zJe:(t:T)→ ∀(p:List Nat),R St G w s t p→R St' G w s t p
 |.ro t,_,hr=>by simp only[R]at hr ⊢;exact uN h t _ _ hr
 |.sl k xs,p,hr=>by
  simp only[R]at hr ⊢
  rcases hr with hr|⟨b,o0,cap,cs,e,h1,h2,h3,h4,h5,h6,h7,h8⟩
  ·exact .inl hr
  ·exact .inr ⟨b,o0,cap,cs,e,h1,h2,h3,h4,h5,h6,h7,zN5 xs p 0 b o0 k h8⟩
 |.agg xs,p,hr|.tup xs,p,hr=>by simp only[R]at hr ⊢;exact zN6 xs p 0 hr
 |.ptr t,p,hr=>by
  simp only[R]at hr ⊢
  obtain⟨b,cs,e,h1,h2,h3,h6,h4,h5⟩:=hr;exact⟨b,cs,e,h1,h2,h3,h6,h4,zJe t _ h5⟩
 |.mp ks xs,_,hr=>by
  simp only[R]at hr ⊢
  obtain⟨b,ms,c,h1,h2,h3,h4⟩:=hr;exact⟨b,ms,c,h1,h2,h3,zKo h ks xs _ h4⟩
 |.any,_,hr|.lit _,_,hr|.same _ _,_,hr|.addr _ _,_,hr|.sub _ _ _ _ _,_,hr=>by first|(simp only[R];done)|simpa only[R]using hr
theorem zN5:(xs:List T)→ ∀(p:List Nat)(i b o k:Nat),RL St G w s xs p i b o k→RL St' G w s xs p i b o k
 | [],_,_,_,_,_,_=>by have _:=h;simp only[RL]
 |x::xs,p,i,b,o,k,hr=>by simp only[RL]at hr ⊢;exact⟨hr.1,zJe x _ hr.2.1,zN5 xs p (i+1) b _ k hr.2.2⟩
theorem zN6:(xs:List T)→ ∀(p:List Nat)(i:Nat),RF St G w s xs p i→RF St' G w s xs p i
 | [],_,_,_=>by have _:=h;simp only[RF]
 |x::xs,p,i,hr=>by simp only[RF]at hr ⊢;exact⟨zJe x _ hr.1,zN6 xs p (i+1) hr.2⟩
end
end
mutual
def strip:T→T
 |.lit v=>.lit v
 |.ro u=>if u.single then u else .any
 |.sl k xs=>.sl k (wX xs)
 |.agg xs=>.agg (wX xs)
 |.ptr t=>.ptr (strip t)
 |.any|.same _ _|.addr _ _|.sub _ _ _ _ _|.tup _|.mp _ _=>.any
def wX:List T→List T
 | []=>[]
 |x::xs=>strip x::wX xs
end
theorem zAr:(xs:List T)→(wX xs).length=xs.length
 | []=>rfl
 |x::xs=>by simp[wX,zAr xs]
mutual
theorem zDK:(t:T)→(strip t).size=t.size
 |.agg xs=>by simp only[strip,T.size];exact zF1 xs
 |.ro u=>by
  simp only[strip];split
  ·rename_i h;cases u<;>simp[T.single]at h<;>simp[T.size]
  ·simp[T.size]
 |.lit _|.sl _ _|.ptr _|.mp _ _|.any|.same _ _|.addr _ _|.sub _ _ _ _ _|.tup _=>by simp[strip,T.size]
theorem zF1:(xs:List T)→T.sizes (wX xs)=T.sizes xs
 | []=>rfl
 |x::xs=>by simp only[wX,T.sizes,zDK x,zF1 xs]
end
theorem jS{St:Stb}{u:T}(hu:u.single=js){v:Value}{cs:Array Value}{o:Nat}(h:RoC St u #[v] 0)(hc:cs[o]? =jq v):RoC St u cs o:=by
 cases u<;>simp[T.single]at hu<;>simp only[RoC]at h ⊢ <;>simp at h<;>first
  |exact⟨v,hc,h⟩
  |(obtain⟨rfl,h2⟩:=h;exact⟨hc,h2⟩)
  |(obtain⟨f,vs,rfl,h2⟩:=h;exact⟨f,vs,hc,h2⟩)
  |(obtain⟨a,c,rfl,h2⟩:=h;exact⟨a,c,hc,by simpa using h2⟩)
  |(obtain⟨b,o',rfl,h2⟩:=h;obtain⟨cs',⟨e,f1,f2,h3⟩,h4⟩:=h2;exact⟨b,o',cs',e,(f1,f2),hc,h3,h4⟩)
section
variable {St Sc:Stb}{G:Gh}{w:World}{s:Nat} (gn:∀s p,(G.hd s p).oneCell'=js) (ee:∀b x,St b=jq x→Sc b=jq x) (ef:∀b,(∃y,G.ow b=jq (s,y))→Sc b=w.heap[b]?)
 include gn ee ef
mutual
theorem frz:(t:T)→ ∀(p:List Nat)(b o:Nat)(cs:Array Value)(e:TypeId)(fr:Nat×Nat),w.heap[b]? =jq (.cells cs e fr)→Loc G w s t p b o→R St G w s t p→RoC Sc (strip t) cs o
 |.agg xs,p,b,o,cs,e,fr,hb,hl,hr=>by simp only[Loc,R,strip,RoC]at hl hr ⊢;exact zYK xs p 0 b o cs e fr hb hl.2 hr
 |.tup _,_,_,_,_,_,_,_,hl,_=>by have _:=ef;simp only[Loc]at hl
 |.any,p,b,o,cs,e,fr,hb,hl,hr|.same _ _,p,b,o,cs,e,fr,hb,hl,hr|.addr _ _,p,b,o,cs,e,fr,hb,hl,hr|.sub _ _ _ _ _,p,b,o,cs,e,fr,hb,hl,hr|.mp _ _,p,b,o,cs,e,fr,hb,hl,hr=>by have h1:=(vA rfl hl).2.2;simp only[yQ,World.cell?,hb]at h1;simp only[strip,RoC];exact⟨_,by simpa using h1,gn s p⟩
 |.lit v,p,b,o,cs,e,fr,hb,hl,hr=>by
  have h1:=(vA rfl hl).2.2;simp only[yQ,World.cell?,hb]at h1;simp only[strip,RoC,R]at hr ⊢
  exact⟨by rw[←hr];simpa using h1,by rw[←hr];exact gn s p⟩
 |.ro u,p,b,o,cs,e,fr,hb,hl,hr=>by
  have h1:=(vA rfl hl).2.2;simp only[yQ,World.cell?,hb]at h1;simp only[strip,R]at hr ⊢
  split
  ·rename_i hu
   exact jS hu (uN ee u _ _ hr) (by simpa using h1)
  ·simp only[RoC];exact⟨_,by simpa using h1,gn s p⟩
 |.sl k xs,p,b,o,cs,e,fr,hb,hl,hr=>by have h1:=(vA rfl hl).2.2;simp only[yQ,World.cell?,hb]at h1;exact jS rfl (zKp (.sl k xs) p rfl hr) (by simpa using h1)
 |.ptr t,p,b,o,cs,e,fr,hb,hl,hr=>by have h1:=(vA rfl hl).2.2;simp only[yQ,World.cell?,hb]at h1;exact jS rfl (zKp (.ptr t) p rfl hr) (by simpa using h1)
theorem zYK:(xs:List T)→ ∀(p:List Nat)(j b o:Nat)(cs:Array Value)(e:TypeId)(fr:Nat×Nat),w.heap[b]? =jq (.cells cs e fr)→vJ G w s xs p j b o→RF St G w s xs p j→RoF Sc (wX xs) cs o
 | [],_,_,_,_,_,_,_,_,_,_=>by have _:=gn;have _:=ee;have _:=ef;simp only[wX,RoF]
 |x::xs,p,j,b,o,cs,e,fr,hb,hl,hr=>by
  simp only[vJ,RF,wX,RoF]at hl hr ⊢
  exact⟨frz x _ b o cs e fr hb hl.1 hr.1,by rw[zDK];exact zYK xs p (j+1) b _ cs e fr hb hl.2 hr.2⟩
theorem zYL:(xs:List T)→ ∀(p:List Nat)(i b o k:Nat)(cs:Array Value)(e:TypeId)(fr:Nat×Nat),w.heap[b]? =jq (.cells cs e fr)→RL St G w s xs p i b o k→RoL Sc (wX xs) cs o k
 | [],_,_,_,_,_,_,_,_,_,_=>by have _:=gn;have _:=ee;have _:=ef;simp only[wX,RoL]
 |x::xs,p,i,b,o,k,cs,e,fr,hb,hr=>by
  simp only[RL,wX,RoL]at hr ⊢
  exact⟨frz x _ b o cs e fr hb hr.1.1 hr.2.1,zYL xs p (i+1) b _ k cs e fr hb hr.2.2⟩
theorem zKp:(t:T)→ ∀(p:List Nat),t.single=js→R St G w s t p→RoC Sc (strip t) #[G.hd s p] 0
 |.agg _,_,h,_|.tup _,_,h,_=>by simp[T.single]at h
 |.any,p,_,_|.same _ _,p,_,_|.addr _ _,p,_,_|.sub _ _ _ _ _,p,_,_|.mp _ _,p,_,_=>by simp only[strip,RoC];exact⟨_,by simp,gn s p⟩
 |.lit v,p,_,hr=>by simp only[strip,RoC,R]at hr ⊢;exact⟨by simp[hr],by rw[←hr];exact gn s p⟩
 |.ro u,p,_,hr=>by
  simp only[strip,R]at hr ⊢
  split
  ·exact uN ee u _ _ hr
  ·simp only[RoC];exact⟨_,by simp,gn s p⟩
 |.sl k xs,p,_,hr=>by
  simp only[strip,R,RoC]at hr ⊢
  rw[zAr];rcases hr with⟨rfl,a,h1⟩|⟨b,o0,cap,cs,e,h1,h2,h3,h4,h5,h6,h7,h8⟩
  ·exact⟨a,0,by simp[h1],by simp,by simp[maxLen],fun h=>by simp[wX]at h⟩
  ·exact⟨jq ⟨b,o0,jr⟩,cap,by simp[h1],h3,h4,fun _=>⟨b,o0,cs,e,(0,0),rfl,by rw[ef b ⟨_,h6⟩];exact h2,zYL xs p 0 b o0 k cs e (0,0) h2 h8⟩⟩
 |.ptr t,p,_,hr=>by
  simp only[strip,R,RoC]at hr ⊢
  obtain⟨b,cs,e,h1,h2,h3,h6,h4,h5⟩:=hr;exact⟨b,0,cs,e,(0,0),by simp[h1],by rw[ef b ⟨_,h6⟩];exact h2,frz t _ b 0 cs e (0,0) h2 h4 h5⟩
end
end
end Go.Ab

namespace Go.Ab
open Go
mutual
def clo(E:Env):T→T
 |.agg ts=>.agg (zBC E ts)
 |.lit v=>.lit v
 |.ro u=>.ro u
 |.same r q=>match qU E 4 r q with
  |some (_,_,.ro u)=>.ro u
  |some (_,_,.lit v)=>.lit v
  |some (_,_,t)=>if t.single then .ro (strip t)else .any
  |none=>.any
 |.sub r q k lo hi=>match qU E 4 r q with
  |some (_,_,.sl k' xs)=>if k=k'∧lo≤hi∧hi≤xs.length then .ro (.sl k (((wX xs).drop lo).take (hi-lo)))else .any
  |_=>.any
 |.sl k xs=>.ro (strip (.sl k xs))
 |.ptr t=>.ro (strip (.ptr t))
 |.any|.addr _ _|.tup _|.mp _ _=>.any
def zBC(E:Env):List T→List T
 | []=>[]
 |x::xs=>clo E x::zBC E xs
end
mutual
def qA(E:Env)(rs:List Nat)(s:Nat):T→Bool
 |.agg ts=>zAX E rs s ts
 |.same r q|.sub r q _ _ _=>match qU E 4 r q with
  |some (r',_,_)=> !rs.contains r'
  |none=>js
 |.sl _ _|.ptr _=> !rs.contains s
 |.lit _|.ro _|.any|.addr _ _|.mp _ _=>js
 |.tup _=>jt
def zAX(E:Env)(rs:List Nat)(s:Nat):List T→Bool
 | []=>js
 |x::xs=>qA E rs s x&&zAX E rs s xs
end
theorem zTJ{St:Stb}{k:Nat}{xs:List T}{v:Value}{lo hi:Nat}(h:RoC St (.sl k xs) #[v] 0)(h1:lo≤hi)(h2:hi≤xs.length):RoC St (.sl k ((xs.drop lo).take (hi-lo))) #[zB4 v k lo hi] 0:=by
 simp only[RoC]at h ⊢
 obtain⟨a',c,g4,g5,g6,g7⟩:=h;have hv:v=.slice a' xs.length c:=by grind
 subst hv;have gv:((xs.drop lo).take (hi-lo)).length=hi-lo:=by simp;omega
 refine⟨if c=lo then a' else a'.map (·.add (lo*k)),c-lo,by grind[zB4],by omega,by omega,?_⟩;intro gf;have ep:xs≠[]:=by grind
 obtain⟨b,o',cs',e',fr,rfl,h3,h4⟩:=g7 ep;have gK:c≠lo:=by grind
 grind[uG,zGp,zGo]
section
variable {Γ:Ctx}{E:Env}{G Gc:Gh}{a:Act}{w:World}{Sc:Stb}{rs:List Nat}{s i:Nat} (gc:Rep Γ E G a.tmps w) (ee:∀b x,Γ.St b=jq x→Sc b=jq x) (ef:∀r,r∉rs→ ∀b,(∃y,G.ow b=jq (r,y))→Sc b=w.heap[b]?) (gF:∀z,Gc.hd i z=G.hd s z)
 include gc ee ef gF
mutual
theorem zWl:(t:T)→ ∀(p:List Nat),qA E rs s t=js→R Γ.St G w s t p→R Sc Gc w i (clo E t) p
 |.agg ts,p,h,hr=>by simp only[qA,clo,R]at h hr ⊢;exact zQ9 ts p 0 h hr
 |.tup _,_,h,_=>by grind[qA]
 |.lit v,p,_,hr=>by simp only[clo,R]at hr ⊢;grind
 |.ro u,p,_,hr=>by simp only[clo,R]at hr ⊢;grind[uN]
 |.any,_,_,_|.addr _ _,_,_,_|.mp _ _,_,_,_=>by simp only[clo,R]
 |.sl k xs,p,h,hr=>by
  simp only[qA,Hz,Lg,decide_eq_false_iff_not]at h;have:=zKp (fun s p=>gc.mem.one s p) ee (ef s h) (.sl k xs) p rfl hr;simp only[clo,R]
  grind
 |.ptr t,p,h,hr=>by
  simp only[qA,Hz,Lg,decide_eq_false_iff_not]at h;have:=zKp (fun s p=>gc.mem.one s p) ee (ef s h) (.ptr t) p rfl hr;simp only[clo,R]
  grind
 |.same r q,p,h,hr=>by
  simp only[qA,clo,R]at h hr ⊢
  cases hf:qU E 4 r q with
  |none=>simp only[R]
  |some x=>
   obtain⟨r',q',t⟩:=x;simp only[hf,Hz,Lg,decide_eq_false_iff_not]at h;obtain⟨h1,h2,_⟩:=zDa gc 4 r q r' q' t hf;have h3:Gc.hd i p=G.hd r' q':=by grind
   by_cases hs:t.single=js
   ·have h4:=zKp (fun s p=>gc.mem.one s p) ee (ef r' h) t q' hs h1
    cases t with
    |ro u=>simp only[R]at h1 ⊢;grind[uN]
    |lit v=>simp only[R]at h1 ⊢;grind
    |agg _=>grind[T.single]
    |tup _=>grind[T.single]
    |_=>simp only[hs,if_true,R];grind
   ·cases t<;>simp[T.single]at hs<;>simp[T.single,R]
 |.sub r q k lo hi,p,h,hr=>by
  simp only[qA,clo,R]at h hr ⊢
  cases hf:qU E 4 r q with
  |none=>simp only[R]
  |some x=>
   obtain⟨r',q',t⟩:=x;simp only[hf,Hz,Lg,decide_eq_false_iff_not]at h;obtain⟨h1,h2,_⟩:=zDa gc 4 r q r' q' t hf;cases t with
   |sl k' xs=>
    simp only[];split
    ·rename_i hc
     obtain⟨rfl,dz,pm⟩:=hc;have h4:=zKp (fun s p=>gc.mem.one s p) ee (ef r' h) (.sl k xs) q' rfl h1;simp only[strip]at h4;simp only[R]
     grind[zTJ,zAr]
    ·simp only[R]
   |_=>simp only[R]
theorem zQ9:(ts:List T)→ ∀(p:List Nat)(j:Nat),zAX E rs s ts=js→RF Γ.St G w s ts p j→RF Sc Gc w i (zBC E ts) p j
 | [],_,_,_,_=>by have _:=gc;have _:=ee;have _:=ef;have _:=gF;simp only[zBC,RF]
 |x::xs,p,j,h,hr=>by
  simp only[zAX,J3,zBC,RF]at h hr ⊢
  exact⟨zWl x _ h.1 hr.1,zQ9 xs p (j+1) h.2 hr.2⟩
end
end
section
variable {E:Env}{G Gc:Gh}{rs:List Nat}{s i:Nat}
theorem zG3(t:T)(h:t.single=js):(clo E t).single=js:=by cases t<;>simp[T.single]at h<;>simp only[clo]<;>first|rfl|(split<;>first|rfl|(split<;>rfl))
mutual
theorem zQA(gF:∀z,Gc.hd i z=G.hd s z):(t:T)→ ∀(p:List Nat),qA E rs s t=js→vals Gc i (clo E t) p=vals G s t p
 |.agg ts,p,h=>by simp only[qA,clo,vals]at h ⊢;exact zEU gF ts p 0 h
 |.tup _,_,h=>by grind[qA]
 |.lit _,p,_|.ro _,p,_|.any,p,_|.addr _ _,p,_|.sl _ _,p,_|.ptr _,p,_|.mp _ _,p,_|.same _ _,p,_|.sub _ _ _ _ _,p,_=>by
  have h1:∀u:T,u.single=js→vals Gc i u p=[G.hd s p]:=fun u hu=>by cases u<;>simp[T.single]at hu<;>simp[vals,gF]
  rw[h1 _ (zG3 _ rfl)];simp[vals]
theorem zEU(gF:∀z,Gc.hd i z=G.hd s z):(ts:List T)→ ∀(p:List Nat)(j:Nat),zAX E rs s ts=js→yJ Gc i (zBC E ts) p j=yJ G s ts p j
 | [],_,_,_=>by rfl
 |x::xs,p,j,h=>by simp only[zAX,J3]at h;simp only[zBC,yJ];rw[zQA gF x _ h.1,zEU gF xs p _ h.2]
end
theorem zJf(gF:∀z,Gc.hd i z=G.hd s z)(t:T)(h:qA E rs s t=js):mkV Gc i (clo E t) []=mkV G s t []:=by
 cases t with
 |agg ts=>grind[qA,clo,mkV,zEU]
 |tup _=>grind[qA]
 |_=>rw[xF (zG3 _ rfl),xF rfl,gF]
end
end Go.Ab
