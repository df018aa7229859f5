/- x -/
import Derived.Orders
import Derived.Laws.AppendOwn
import Derived.Laws.MakeOwn
import Derived.Great.BuildSlice
import Derived.Laws.Tables
open List renaming replicate→J1,mem_map→Ja,getElem?_eq_some_iff→Jb,getElem?_append_right→Jg,append_assoc→Jh,length_append→Ji,append_nil→Jk,map_cons→Jl,mem_range→Jp,mem_cons→Jq,all_eq_true→Jt,nil_append→Jy,getElem?_map→Jz,eq_nil_of_length_eq_zero→K4,mem_append→K6,getElem?_append→Kg,length_cons→Ki,length_take→Kl,nodup_cons→Km,set_cons_succ→Ko,reverse_reverse→Ks,ext_getElem?→Kt,replicate_succ→L1,mem_of_getElem?→L4,getElem?_append_left→L6,take_succ_cons→L7,set_cons_zero→L8,length_set→La,flatMap_cons→Lb,getElem?_drop→Lg,contains_eq_mem→Li,reverse_nil→H2,length_nil→H7,reverse_cons→Hp,map_nil→G5,length_replicate→Gg,cons_append→Gi,map_take→Gj,getElem?_take_of_lt→U6,reverse_append→Up,size_toArray→Q4,drop_eq_getElem_cons→Q5,take_append→Qa,isEmpty_iff→Qb,flatMap_append→Qh,cons→Qs,getElem?_cons_succ→Qy
open Bool renaming and_eq_true→J2,false_eq_true→Lu,not_eq_true'→Hq,true_and→Uo,false_and→Ql
open Nat renaming zero_add→J8,le_refl→Jd,mul_le_mul→Jj,lt_or_ge→Jm,mul_le_mul_right→Kf,succ_mul→Kx,add_assoc→Ll,le_trans→H6,add_mul→Hw,min_eq_left→Ua,lt_of_lt_of_le→Q3,add_zero→Qx
open Int renaming toNat_natCast→J9,natCast_mul→Lj
open Array renaming getElem?_setIfInBounds→Jc,length_toList→Ka,getD_eq_getD_getElem?→Kc,getElem?_toList→Kh,getElem?_eq_some_iff→Hd,range→Qu,ext'→Ja0
open Option renaming isSome_none→Uh,map_none→Qf
open Prod renaming mk→Ja1
open Option renaming some→dq,none→dt
open Bool renaming true→du,false→dv
theorem dw{p:Prop}[h:Decidable p](a:¬p):decide p=false:=decide_eq_false a
theorem dx{p:Prop}[h:Decidable p](a:p):decide p=true:=decide_eq_true a
namespace Go.Ab
open Go
inductive T where
 |any
 |lit (v:Value)
 |ro (t:T)
 |same (r:Nat) (p:List Nat)
 |addr (r:Nat) (p:List Nat)
 |sub (r:Nat) (p:List Nat) (k lo hi:Nat)
 |sl (k:Nat) (xs:List T)
 |agg (xs:List T)
 |ptr (t:T)
 |tup (xs:List T)
 deriving Inhabited
abbrev Stb:=Nat→Option Obj
mutual
def T.size:T→Nat
 |.agg xs=>T.sizes xs
 |_=>1
def T.sizes:List T→Nat
 | []=>0
 |x::xs=>x.size+T.sizes xs
end
mutual
def RoC(St:Stb):T→Array Value→Nat→Prop
 |.any,cs,o=> ∃v,cs[o]? =dq v∧v.oneCell'=du
 |.lit v,cs,o=>cs[o]? =dq v∧v.oneCell'=du
 |.ro u,cs,o=> ∃f vs,cs[o]? =dq (.func (.func f) #[] vs)∧vs.size+1=u.size∧RoC St u (#[.func (.func f) #[] #[]]++vs) 0
 |.sl k xs,cs,o=> ∃a c,cs[o]? =dq (.slice a xs.length c)∧xs.length≤c∧c≤maxLen∧
   (xs≠[]→ ∃b o' cs' e fr,a=dq ⟨b,o',dt⟩∧St b=dq (.cells cs' e fr)∧RoL St xs cs' o' k)
 |.agg xs,cs,o=>RoF St xs cs o
 |.ptr t,cs,o=> ∃b o' cs' e fr,cs[o]? =dq (.pointer (dq ⟨b,o',dt⟩))∧St b=dq (.cells cs' e fr)∧RoC St t cs' o'
 |.same _ _,_,_=>False
 |.addr _ _,_,_=>False
 |.sub _ _ _ _ _,_,_=>False
 |.tup _,_,_=>False
def RoL(St:Stb):List T→Array Value→Nat→Nat→Prop
 | [],_,_,_=>True
 |x::xs,cs,o,k=>RoC St x cs o∧RoL St xs cs (o+k) k
def RoF(St:Stb):List T→Array Value→Nat→Prop
 | [],_,_=>True
 |x::xs,cs,o=>RoC St x cs o∧RoF St xs cs (o+x.size)
end
structure Gh where
 hd:Nat→List Nat→Value
 ad:Nat→List Nat→Addr
 lb:Nat→Nat→Option (Bool×Nat×List Nat)
 ow:Nat→Option (Nat×List Nat)
def yH(w:World)(b o:Nat):Option Value:=w.cell? ⟨b,o,dt⟩
mutual
def Loc(G:Gh)(w:World)(s:Nat):T→List Nat→Nat→Nat→Prop
 |.agg xs,p,b,o=>G.ad s p=⟨b,o,dt⟩∧wJ G w s xs p 0 b o
 |.tup _,_,_,_=>False
 |.any,p,b,o|.lit _,p,b,o|.ro _,p,b,o|.same _ _,p,b,o|.addr _ _,p,b,o|.sub _ _ _ _ _,p,b,o|.sl _ _,p,b,o|.ptr _,p,b,o=>
  G.ad s p=⟨b,o,dt⟩∧G.lb b o=dq (dv,s,p)∧yH w b o=dq (G.hd s p)
def wJ(G:Gh)(w:World)(s:Nat):List T→List Nat→Nat→Nat→Nat→Prop
 | [],_,_,_,_=>True
 |x::xs,p,j,b,o=>Loc G w s x (j::p) b o∧wJ G w s xs p (j+1) b (o+x.size)
end
def zBg(v:Value)(k lo hi:Nat):Value:=
 match v with
 |.slice a _ c=>.slice (if c=lo then a else a.map (·.add (lo*k))) (hi-lo) (c-lo)
 |v=>v
mutual
def R(St:Stb)(G:Gh)(w:World)(s:Nat):T→List Nat→Prop
 |.any,_=>True
 |.lit v,p=>G.hd s p=v
 |.ro t,p=>RoC St t #[G.hd s p] 0
 |.same r q,p=>G.hd s p=G.hd r q
 |.addr r q,p=>G.hd s p=.pointer (dq (G.ad r q))
 |.sub r q k lo hi,p=>G.hd s p=zBg (G.hd r q) k lo hi
 |.sl k xs,p=>(xs=[]∧ ∃a,G.hd s p=.slice a 0 0)∨ ∃b o0 cap cs e,G.hd s p=.slice (dq ⟨b,o0,dt⟩) xs.length cap∧
   w.heap[b]? =dq (.cells cs e (0,0))∧xs.length≤cap∧cap≤maxLen∧o0+cap*k≤cs.size∧G.ow b=dq (s,p)∧
   (∀o,o0+xs.length*k≤o→o<o0+cap*k→G.lb b o=dq (du,s,p))∧RL St G w s xs p 0 b o0 k
 |.agg xs,p=>RF St G w s xs p 0
 |.ptr t,p=> ∃b cs e,G.hd s p=.pointer (dq ⟨b,0,dt⟩)∧w.heap[b]? =dq (.cells cs e (0,0))∧cs.size=t.size∧G.ow b=dq (s,p)∧
   Loc G w s t (0::p) b 0∧R St G w s t (0::p)
 |.tup xs,p=>RF St G w s xs p 0
def RL(St:Stb)(G:Gh)(w:World)(s:Nat):List T→List Nat→Nat→Nat→Nat→Nat→Prop
 | [],_,_,_,_,_=>True
 |x::xs,p,i,b,o,k=>(Loc G w s x (i::p) b o∧x.size=k)∧R St G w s x (i::p)∧RL St G w s xs p (i+1) b (o+k) k
def RF(St:Stb)(G:Gh)(w:World)(s:Nat):List T→List Nat→Nat→Prop
 | [],_,_=>True
 |x::xs,p,j=>R St G w s x (j::p)∧RF St G w s xs p (j+1)
end
mutual
def yM(φ:Nat→List Nat→Prop):T→Prop
 |.same r p|.addr r p|.sub r p _ _ _=>φ r p
 |.sl _ xs|.agg xs|.tup xs=>xG φ xs
 |.ptr t=>yM φ t
 |.any|.lit _|.ro _=>True
def xG(φ:Nat→List Nat→Prop):List T→Prop
 | []=>True
 |x::xs=>yM φ x∧xG φ xs
end
mutual
theorem yM.mono{φ ψ:Nat→List Nat→Prop}(h:∀r p,φ r p→ψ r p):(t:T)→yM φ t→yM ψ t
 |.same _ _,ht|.addr _ _,ht|.sub _ _ _ _ _,ht=>h _ _ ht
 |.sl _ xs,ht|.agg xs,ht|.tup xs,ht=>by simp only[yM]at ht ⊢;exact xG.mono h xs ht
 |.ptr t,ht=>by simp only[yM]at ht ⊢;exact yM.mono h t ht
 |.any,_|.lit _,_|.ro _,_=>by simp[yM]
theorem xG.mono{φ ψ:Nat→List Nat→Prop}(h:∀r p,φ r p→ψ r p):(xs:List T)→xG φ xs→xG ψ xs
 | [],_=>trivial
 |x::xs,hx=>⟨yM.mono h x hx.1,xG.mono h xs hx.2⟩
end
mutual
theorem yM.triv{φ:Nat→List Nat→Prop}(h:∀r p,φ r p):(t:T)→yM φ t
 |.same _ _|.addr _ _|.sub _ _ _ _ _=>by simp only[yM];exact h _ _
 |.sl _ xs|.agg xs|.tup xs=>by simp only[yM];exact xG.triv h xs
 |.ptr t=>by simp only[yM];exact yM.triv h t
 |.any|.lit _|.ro _=>by simp only[yM]
theorem xG.triv{φ:Nat→List Nat→Prop}(h:∀r p,φ r p):(xs:List T)→xG φ xs
 | []=>by simp only[xG]
 |x::xs=>by simp only[xG];exact⟨yM.triv h x,xG.triv h xs⟩
end
abbrev zT(t:T):Prop:=yM (fun _ _=>False) t
abbrev yV(xs:List T):Prop:=xG (fun _ _=>False) xs
def Blk(w w':World):Prop:=∀(b:Nat) cs e,w.heap[b]? =dq (.cells cs e (0,0))→ ∃cs',w'.heap[b]? =dq (.cells cs' e (0,0))∧cs'.size=cs.size
structure MovesE (G:Gh) (w:World) (G':Gh) (w':World) (s:Nat) (p:List Nat) (s':Nat) (p':List Nat):Prop where
 hd:∀z,G'.hd s' (z++p')=G.hd s (z++p)
 ad:∀z,z≠[]→G'.ad s' (z++p')=G.ad s (z++p)
 lb:∀b o f z,z≠[]→(∃y,G.ow b=dq (s,y))→G.lb b o=dq (f,s,z++p)→G'.lb b o=dq (f,s',z++p')∧yH w' b o=yH w b o
 ow:∀b z,z≠[]→G.ow b=dq (s,z++p)→G'.ow b=dq (s',z++p')
 blk:Blk w w'
structure zHy (G:Gh) (w:World) (G':Gh) (w':World) (s:Nat) (p:List Nat) (s':Nat) (p':List Nat):Prop extends MovesE G w G' w' s p s' p' where
 sp:∀b o,(∃y,G.ow b=dq (s,y))→G.lb b o=dq (du,s,p)→G'.lb b o=dq (du,s',p')∧yH w' b o=yH w b o
 ow0:∀b,G.ow b=dq (s,p)→G'.ow b=dq (s',p')
def zAl(G G':Gh)(r:Nat)(p:List Nat):Prop:=G'.hd r p=G.hd r p∧G'.ad r p=G.ad r p
section
variable {St:Stb}{G:Gh}{w:World}{G':Gh}{w':World}{s:Nat}{p:List Nat}{s':Nat}{p':List Nat}
mutual
theorem zD5(hm:MovesE G w G' w' s p s' p'):(t:T)→ ∀(z:List Nat)(b o:Nat),z≠[]→(∃y,G.ow b=dq (s,y))→Loc G w s t (z++p) b o→Loc G' w' s' t (z++p') b o
 |.agg xs,z,b,o,hz,gW,h=>by
  simp only[Loc]at h ⊢
  exact⟨(hm.ad z hz).trans h.1,zHz hm xs z 0 b o gW h.2⟩
 |.any,z,b,o,hz,gW,h|.lit _,z,b,o,hz,gW,h|.ro _,z,b,o,hz,gW,h|.same _ _,z,b,o,hz,gW,h|.addr _ _,z,b,o,hz,gW,h|.sub _ _ _ _ _,z,b,o,hz,gW,h|.sl _ _,z,b,o,hz,gW,h|.ptr _,z,b,o,hz,gW,h=>by
  simp only[Loc]at h ⊢
  obtain⟨h1,h2,h3⟩:=h;have hl:=hm.lb b o dv z hz gW h2;exact⟨(hm.ad z hz).trans h1,hl.1,by rw[hl.2,h3,hm.hd]⟩
 |.tup _,_,_,_,_,_,h=>by simp only[Loc]at h
theorem zHz(hm:MovesE G w G' w' s p s' p'):(xs:List T)→ ∀(z:List Nat)(j b o:Nat),(∃y,G.ow b=dq (s,y))→wJ G w s xs (z++p) j b o→wJ G' w' s' xs (z++p') j b o
 | [],_,_,_,_,_,_=>by simp only[wJ]
 |x::xs,z,j,b,o,gW,h=>by
  simp only[wJ]at h ⊢
  exact⟨zD5 hm x (j::z) b o (by simp) gW h.1,zHz hm xs z (j+1) b _ gW h.2⟩
end
mutual
theorem zD6(hm:MovesE G w G' w' s p s' p'):(t:T)→ ∀(z:List Nat),z≠[]→yM (zAl G G') t→R St G w s t (z++p)→R St G' w' s' t (z++p')
 |.any,_,_,_,_=>by simp only[R]
 |.lit _,z,_,_,h=>by simp only[R]at h ⊢;rw[hm.hd];exact h
 |.ro _,z,_,_,h=>by simp only[R]at h ⊢;rw[hm.hd];exact h
 |.same r q,z,_,hk,h=>by simp only[R]at h ⊢;rw[hm.hd,hk.1];exact h
 |.addr r q,z,_,hk,h=>by simp only[R]at h ⊢;rw[hm.hd,hk.2];exact h
 |.sub r q k lo hi,z,_,hk,h=>by simp only[R]at h ⊢;rw[hm.hd,hk.1];exact h
 |.agg xs,z,_,hk,h=>by simp only[R,yM]at h hk ⊢;exact zD7 hm xs z 0 hk h
 |.tup xs,z,_,hk,h=>by simp only[R,yM]at h hk ⊢;exact zD7 hm xs z 0 hk h
 |.sl k xs,z,hz,hk,h=>by
  simp only[R,yM]at h hk ⊢
  rw[hm.hd];rcases h with h|⟨b,o0,cap,cs,e,h1,h2,h3,h4,h5,h6,h7,h8⟩
  ·exact .inl h
  ·obtain⟨cs',fE,gv⟩:=hm.blk b cs e h2
   exact .inr ⟨b,o0,cap,cs',e,h1,fE,h3,h4,by omega,hm.ow b z hz h6,fun o ho fX=>(hm.lb b o du z hz ⟨_,h6⟩ (h7 o ho (by omega))).1,zIs hm xs z 0 b o0 k ⟨_,h6⟩ hk h8⟩
 |.ptr t,z,hz,hk,h=>by
  simp only[R,yM]at h hk ⊢
  rw[hm.hd];obtain⟨b,cs,e,h1,h2,h3,h6,h4,h5⟩:=h;obtain⟨cs',fE,gv⟩:=hm.blk b cs e h2;exact⟨b,cs',e,h1,fE,by omega,hm.ow b z hz h6,zD5 hm t (0::z) b 0 (by simp) ⟨_,h6⟩ h4,zD6 hm t (0::z) (by simp) hk h5⟩
theorem zIs(hm:MovesE G w G' w' s p s' p'):(xs:List T)→ ∀(z:List Nat)(i b o k:Nat),(∃y,G.ow b=dq (s,y))→xG (zAl G G') xs→RL St G w s xs (z++p) i b o k→RL St G' w' s' xs (z++p') i b o k
 | [],_,_,_,_,_,_,_,_=>by simp only[RL]
 |x::xs,z,i,b,o,k,gW,hk,h=>by
  simp only[RL,xG]at h hk ⊢
  exact⟨⟨zD5 hm x (i::z) b o (by simp) gW h.1.1,h.1.2⟩,zD6 hm x (i::z) (by simp) hk.1 h.2.1,zIs hm xs z (i+1) b _ k gW hk.2 h.2.2⟩
theorem zD7(hm:MovesE G w G' w' s p s' p'):(xs:List T)→ ∀(z:List Nat)(j:Nat),xG (zAl G G') xs→RF St G w s xs (z++p) j→RF St G' w' s' xs (z++p') j
 | [],_,_,_,_=>by simp only[RF]
 |x::xs,z,j,hk,h=>by
  simp only[RF,xG]at h hk ⊢
  exact⟨zD6 hm x (j::z) (by simp) hk.1 h.1,zD7 hm xs z (j+1) hk.2 h.2⟩
end
theorem zAo(hm:zHy G w G' w' s p s' p')(t:T)(hk:yM (zAl G G') t)(h:R St G w s t p):R St G' w' s' t p':=by
 have hd0:G'.hd s' p'=G.hd s p:=by simpa using hm.hd []
 cases t with
 |any=>simp only[R]
 |lit _=>simp only[R]at h ⊢;rw[hd0];exact h
 |ro _=>simp only[R]at h ⊢;rw[hd0];exact h
 |same r q=>simp only[R]at h ⊢;rw[hd0,hk.1];exact h
 |addr r q=>simp only[R]at h ⊢;rw[hd0,hk.2];exact h
 |sub r q k lo hi=>simp only[R]at h ⊢;rw[hd0,hk.1];exact h
 |agg xs=>simp only[R,yM]at h hk ⊢;simpa using zD7 hm.toMovesE xs [] 0 hk (by simpa using h)
 |tup xs=>simp only[R,yM]at h hk ⊢;simpa using zD7 hm.toMovesE xs [] 0 hk (by simpa using h)
 |sl k xs=>
  simp only[R,yM]at h hk ⊢
  rw[hd0];rcases h with h|⟨b,o0,cap,cs,e,h1,h2,h3,h4,h5,h6,h7,h8⟩
  ·exact .inl h
  ·obtain⟨cs',fE,gv⟩:=hm.blk b cs e h2
   exact .inr ⟨b,o0,cap,cs',e,h1,fE,h3,h4,by omega,hm.ow0 b h6,fun o ho fX=>(hm.sp b o ⟨_,h6⟩ (h7 o ho (by omega))).1,by simpa using zIs hm.toMovesE xs [] 0 b o0 k ⟨_,h6⟩ hk (by simpa using h8)⟩
 |ptr t=>
  simp only[R,yM]at h hk ⊢
  rw[hd0];obtain⟨b,cs,e,h1,h2,h3,h6,h4,h5⟩:=h;obtain⟨cs',fE,gv⟩:=hm.blk b cs e h2;exact⟨b,cs',e,h1,fE,by omega,hm.ow0 b h6,zD5 hm.toMovesE t [0] b 0 (by simp) ⟨_,h6⟩ h4,zD6 hm.toMovesE t [0] (by simp) hk h5⟩
theorem zPl(hm:zHy G w G' w' s p s' p')(t:T)(z:List Nat)(hk:yM (zAl G G') t)(h:R St G w s t (z++p)):R St G' w' s' t (z++p'):=by
 cases z with
 |nil=>exact zAo hm t hk h
 |cons i z=>exact zD6 hm.toMovesE t (i::z) (by simp) hk h
end
end Go.Ab

namespace Go.Ab
open Go
def T.get:T→List Nat→Option T
 |t,[]=>dq t
 |.sl _ xs,i::f|.agg xs,i::f|.tup xs,i::f=>match xs[i]? with
  |some x=>x.get f
  |none=>dt
 |.ptr t,i::f=>if i=0 then t.get f else dt
 |.any,_::_|.lit _,_::_|.ro _,_::_|.same _ _,_::_|.addr _ _,_::_|.sub _ _ _ _ _,_::_=>dt
termination_by structural _ f=>f
def T.set:T→List Nat→T→T
 |_,[],u=>u
 |.sl k xs,i::f,u=>match xs[i]? with
  |some x=>.sl k (xs.set i (x.set f u))
  |none=>.sl k xs
 |.agg xs,i::f,u=>match xs[i]? with
  |some x=>.agg (xs.set i (x.set f u))
  |none=>.agg xs
 |.tup xs,i::f,u=>match xs[i]? with
  |some x=>.tup (xs.set i (x.set f u))
  |none=>.tup xs
 |.ptr t,i::f,u=>if i=0 then .ptr (t.set f u)else .ptr t
 |.any,_::_,_=>.any
 |.lit v,_::_,_=>.lit v
 |.ro t,_::_,_=>.ro t
 |.same r q,_::_,_=>.same r q
 |.addr r q,_::_,_=>.addr r q
 |.sub r q k lo hi,_::_,_=>.sub r q k lo hi
termination_by structural _ f _=>f
def T.locd:T→List Nat→Bool
 |_,[]=>dv
 |.sl _ _,_::_|.ptr _,_::_=>du
 |.agg xs,i::f|.tup xs,i::f=>match xs[i]? with
  |some x=>x.locd f
  |none=>dv
 |.any,_::_|.lit _,_::_|.ro _,_::_|.same _ _,_::_|.addr _ _,_::_|.sub _ _ _ _ _,_::_=>dv
termination_by structural _ f=>f
abbrev rp(f p:List Nat):List Nat:=f.reverse++p
theorem zAM(i:Nat)(f p:List Nat):rp (i::f) p=rp f (i::p):=by simp[rp]
section
variable {St:Stb}{G:Gh}{w:World}{s:Nat}
theorem qU:(xs:List T)→ ∀(p:List Nat)(i0 b o k i:Nat)(x:T),RL St G w s xs p i0 b o k→xs[i]? =dq x→
  Loc G w s x ((i0+i)::p) b (o+i*k)∧x.size=k∧R St G w s x ((i0+i)::p)
 | [],_,_,_,_,_,_,_,_,h=>by simp at h
 |y::ys,p,i0,b,o,k,i,x,hr,h=>by
  simp only[RL]at hr;cases i with
  |zero=>
   simp at h;subst h;simpa using⟨hr.1.1,hr.1.2,hr.2.1⟩
  |succ i=>
   have:=qU ys p (i0+1) b (o+k) k i x hr.2.2 (by simpa using h);rw[show i0+(i+1)=i0+1+i from by omega,show o+(i+1)*k=o+k+i*k from by rw[Kx];omega];exact this
theorem zAW:(xs:List T)→ ∀(p:List Nat)(j i:Nat)(x:T),RF St G w s xs p j→xs[i]? =dq x→R St G w s x ((j+i)::p)
 | [],_,_,_,_,_,h=>by simp at h
 |y::ys,p,j,i,x,hr,h=>by
  simp only[RF]at hr;cases i with
  |zero=>simp at h;subst h;simpa using hr.1
  |succ i=>
   have:=zAW ys p (j+1) i x hr.2 (by simpa using h)
   rwa [show j+(i+1)=j+1+i from by omega]
theorem zJl:(xs:List T)→ ∀(p:List Nat)(j b o i:Nat)(x:T),wJ G w s xs p j b o→xs[i]? =dq x→
  ∃o',Loc G w s x ((j+i)::p) b o'∧o≤o'∧o'+x.size≤o+T.sizes xs
 | [],_,_,_,_,_,_,_,h=>by simp at h
 |y::ys,p,j,b,o,i,x,hr,h=>by
  simp only[wJ]at hr;cases i with
  |zero=>simp at h;subst h;exact⟨o,by simpa using hr.1,by omega,by simp[T.sizes]⟩
  |succ i=>
   obtain⟨o',h1,h2,h3⟩:=zJl ys p (j+1) b (o+y.size) i x hr.2 (by simpa using h);refine⟨o',?_,by omega,by simp only[T.sizes];omega⟩
   rwa [show j+(i+1)=j+1+i from by omega]
def At(G:Gh)(w:World)(s:Nat)(t:T)(p:List Nat):Prop:=
 ∃b o cs e,Loc G w s t p b o∧w.heap[b]? =dq (.cells cs e (0,0))∧o+t.size≤cs.size
theorem At.field{xs:List T}{p:List Nat}(h:At G w s (.agg xs) p){i:Nat}{x:T}(hx:xs[i]? =dq x):At G w s x (i::p):=by obtain⟨b,o,cs,e,hl,hh,hs⟩:=h;simp only[Loc]at hl;obtain⟨o',h1,h2,h3⟩:=zJl xs p 0 b o i x hl.2 hx;simp only[T.size]at hs;exact⟨b,o',cs,e,by simpa using h1,hh,by omega⟩
theorem zC2{k:Nat}{xs:List T}{p:List Nat}(h:R St G w s (.sl k xs) p){i:Nat}{x:T}(hx:xs[i]? =dq x):
  At G w s x (i::p)∧R St G w s x (i::p):=by
 simp only[R]at h;have hi:=(Jb.1 hx).1;rcases h with⟨rfl,_⟩|⟨b,o0,cap,cs,e,h1,h2,h3,h4,h5,h6,h7,h8⟩
 ·simp at hx
 ·obtain⟨a1,a2,a3⟩:=qU xs p 0 b o0 k i x h8 hx
  simp only[J8]at a1 a3;refine⟨⟨b,o0+i*k,cs,e,a1,h2,?_⟩,a3⟩;rw[a2,Ll,←Kx];exact H6 (Nat.add_le_add_left (Kf _ (by omega)) _) h5
theorem zBh{t:T}{p:List Nat}(h:R St G w s (.ptr t) p):At G w s t (0::p)∧R St G w s t (0::p):=by simp only[R]at h;obtain⟨b,cs,e,h1,h2,h3,h6,h4,h5⟩:=h;exact⟨⟨b,0,cs,e,h4,h2,by omega⟩,h5⟩
theorem zA0:(f:List Nat)→ ∀(t u:T)(p:List Nat),At G w s t p→R St G w s t p→t.get f=dq u→At G w s u (rp f p)∧R St G w s u (rp f p)
 | [],t,u,p,ha,h,hg=>by simp[T.get]at hg;subst hg;simpa[rp]using⟨ha,h⟩
 |i::f,t,u,p,ha,h,hg=>by
  rw[zAM];cases t with
  |sl k xs=>
   simp only[T.get]at hg;cases hx:xs[i]? with
   |none=>simp[hx]at hg
   |some x=>rw[hx]at hg;exact zA0 f x u _ (zC2 h hx).1 (zC2 h hx).2 hg
  |ptr t=>
   simp only[T.get]at hg;split at hg
   ·rename_i hi;subst hi;exact zA0 f t u _ (zBh h).1 (zBh h).2 hg
   ·cases hg
  |agg xs=>
   simp only[T.get]at hg;cases hx:xs[i]? with
   |none=>simp[hx]at hg
   |some x=>rw[hx]at hg;exact zA0 f x u _ (ha.field hx) (by simp only[R]at h;simpa using zAW xs p 0 i x h hx) hg
  |tup xs=>obtain⟨b,o,cs,e,hl,_⟩:=ha;simp only[Loc]at hl
  |_=>simp[T.get]at hg
theorem zBU:(f:List Nat)→ ∀(t u:T)(p:List Nat),R St G w s t p→t.get f=dq u→R St G w s u (rp f p)∧(t.locd f=du→At G w s u (rp f p))
 | [],t,u,p,h,hg=>by simp[T.get]at hg;subst hg;simpa[rp,T.locd]using h
 |i::f,t,u,p,h,hg=>by
  rw[zAM];cases t with
  |sl k xs=>
   simp only[T.get]at hg;cases hx:xs[i]? with
   |none=>simp[hx]at hg
   |some x=>rw[hx]at hg;exact⟨(zA0 f x u _ (zC2 h hx).1 (zC2 h hx).2 hg).2,fun _=>(zA0 f x u _ (zC2 h hx).1 (zC2 h hx).2 hg).1⟩
  |ptr t=>
   simp only[T.get]at hg;split at hg
   ·rename_i hi;subst hi;exact⟨(zA0 f t u _ (zBh h).1 (zBh h).2 hg).2,fun _=>(zA0 f t u _ (zBh h).1 (zBh h).2 hg).1⟩
   ·cases hg
  |agg xs=>
   simp only[T.get,T.locd]at hg ⊢
   cases hx:xs[i]? with
   |none=>simp[hx]at hg
   |some x=>rw[hx]at hg;exact zBU f x u _ (by simp only[R]at h;simpa using zAW xs p 0 i x h hx) hg
  |tup xs=>
   simp only[T.get,T.locd]at hg ⊢
   cases hx:xs[i]? with
   |none=>simp[hx]at hg
   |some x=>rw[hx]at hg;exact zBU f x u _ (by simp only[R]at h;simpa using zAW xs p 0 i x h hx) hg
  |_=>simp[T.get]at hg
end
structure Upd (G:Gh) (w:World) (G':Gh) (w':World) (s:Nat) (tgt:List Nat):Prop where
 hd:∀p,¬tgt<:+p→G'.hd s p=G.hd s p
 ad:∀p,¬tgt<:+p→G'.ad s p=G.ad s p
 lb:∀b o f p,G.lb b o=dq (f,s,p)→ ¬tgt<:+p→G'.lb b o=dq (f,s,p)∧yH w' b o=yH w b o
 ow:∀b p,G.ow b=dq (s,p)→ ¬tgt<:+p→G'.ow b=dq (s,p)
 blk:Blk w w'
section
variable {St:Stb}{G:Gh}{w:World}{G':Gh}{w':World}{s:Nat}{tgt:List Nat}
theorem Upd.moves(h:Upd G w G' w' s tgt){p:List Nat}(hp:∀z,¬tgt<:+z++p):zHy G w G' w' s p s p where
 hd z:=h.hd _ (hp z)
 ad z _:=h.ad _ (hp z)
 lb b o f z _ _ hl:=h.lb b o f _ hl (hp z)
 ow b z _ hl:=h.ow b _ hl (hp z)
 sp b o _ hl:=h.lb b o du p hl (hp [])
 ow0 b hl:=h.ow b p hl (hp [])
 blk:=h.blk
mutual
theorem zD8(hm:Upd G w G' w' s tgt):(t:T)→ ∀(p:List Nat)(b o:Nat),(∀z,¬tgt<:+z++p)→Loc G w s t p b o→Loc G' w' s t p b o
 |.agg xs,p,b,o,hz,h=>by
  simp only[Loc]at h ⊢
  exact⟨(hm.ad p (hz [])).trans h.1,zJm hm xs p 0 b o hz h.2⟩
 |.any,p,b,o,hz,h|.lit _,p,b,o,hz,h|.ro _,p,b,o,hz,h|.same _ _,p,b,o,hz,h|.addr _ _,p,b,o,hz,h|.sub _ _ _ _ _,p,b,o,hz,h|.sl _ _,p,b,o,hz,h|.ptr _,p,b,o,hz,h=>by
  simp only[Loc]at h ⊢
  obtain⟨h1,h2,h3⟩:=h;have hl:=hm.lb b o dv p h2 (hz []);exact⟨(hm.ad p (hz [])).trans h1,hl.1,by rw[hl.2,h3,hm.hd p (hz [])]⟩
 |.tup _,_,_,_,_,h=>by simp only[Loc]at h
theorem zJm(hm:Upd G w G' w' s tgt):(xs:List T)→ ∀(p:List Nat)(j b o:Nat),(∀z,¬tgt<:+z++p)→wJ G w s xs p j b o→wJ G' w' s xs p j b o
 | [],_,_,_,_,_,_=>by simp only[wJ]
 |x::xs,p,j,b,o,hz,h=>by
  simp only[wJ]at h ⊢
  exact⟨zD8 hm x (j::p) b o (fun z=>by have:=hz (z++[j]);simpa using this) h.1,zJm hm xs p (j+1) b _ hz h.2⟩
end
theorem zJn(hm:Upd G w G' w' s tgt)(t u:T)(p:List Nat)(b o:Nat)(ht:∀xs,t≠.agg xs)(hu:∀xs,u≠.agg xs)(ag:∀xs,u≠.tup xs)(hz:¬tgt<:+p)(h:Loc G w s t p b o):Loc G' w' s u p b o:=by
 have h3:G.ad s p=⟨b,o,dt⟩∧G.lb b o=dq (dv,s,p)∧yH w b o=dq (G.hd s p):=by
  cases t with
  |agg xs=>exact absurd rfl (ht xs)
  |tup xs=>simp only[Loc]at h
  |_=>simpa only[Loc]using h
 obtain⟨h1,h2,h3⟩:=h3;have hl:=hm.lb b o dv p h2 hz;have h4:G'.ad s p=⟨b,o,dt⟩∧G'.lb b o=dq (dv,s,p)∧yH w' b o=dq (G'.hd s p):=⟨(hm.ad p hz).trans h1,hl.1,by rw[hl.2,h3,hm.hd p hz]⟩;cases u with
 |agg xs=>exact absurd rfl (hu xs)
 |tup xs=>exact absurd rfl (ag xs)
 |_=>simpa only[Loc]using h4
theorem qV{f p:List Nat}{i i':Nat}(hi:i'≠i)(z:List Nat):¬f.reverse++(i::p)<:+z++(i'::p):=by
 rintro⟨y,hy⟩
 rw[←Jh]at hy;have:=List.append_inj_right' hy rfl;simp at this;exact hi this.symm
theorem kK{f p:List Nat}{i:Nat}:¬f.reverse++(i::p)<:+p:=by intro h;have:=h.length_le;simp at this;omega
theorem zH0:(xs:List T)→ ∀(i:Nat)(x y:T),xs[i]? =dq x→y.size=x.size→T.sizes (xs.set i y)=T.sizes xs
 | [],_,_,_,h,_=>by simp at h
 |z::zs,i,x,y,h,hs=>by
  cases i with
  |zero=>simp at h;subst h;simp[T.sizes,hs]
  |succ i=>simp only[Ko,T.sizes,zH0 zs i x y (by simpa using h) hs]
theorem zD9:(f:List Nat)→ ∀(t u u0:T),t.get f=dq u0→u.size=u0.size→(t.set f u).size=t.size
 | [],t,u,u0,h,hs=>by simp[T.get]at h;subst h;simpa[T.set]using hs
 |i::f,t,u,u0,h,hs=>by
  cases t with
  |sl k xs=>simp only[T.get]at h;cases hx:xs[i]? <;>simp[hx,T.set,T.size]at h ⊢
  |tup xs=>simp only[T.get]at h;cases hx:xs[i]? <;>simp[hx,T.set,T.size]at h ⊢
  |agg xs=>
   simp only[T.get]at h;cases hx:xs[i]? with
   |none=>simp[hx]at h
   |some x=>
    rw[hx]at h;simp only[T.set,hx,T.size];exact zH0 xs i x _ hx (zD9 f x u u0 h hs)
  |ptr t=>simp only[T.get]at h;split at h<;>simp_all [T.set,T.size]
  |_=>simp[T.get]at h
theorem zJo(hm:Upd G w G' w' s tgt):(xs:List T)→ ∀(p:List Nat)(j b o i:Nat)(x y:T),wJ G w s xs p j b o→xs[i]? =dq x→y.size=x.size→
  (∀i',i'≠j+i→ ∀z,¬tgt<:+z++(i'::p))→(∀o',Loc G w s x ((j+i)::p) b o'→Loc G' w' s y ((j+i)::p) b o')→wJ G' w' s (xs.set i y) p j b o
 | [],_,_,_,_,_,_,_,_,h,_,_,_=>by simp at h
 |z::zs,p,j,b,o,i,x,y,hl,h,hs,hz,hy=>by
  simp only[wJ]at hl;cases i with
  |zero=>
   simp at h;subst h;simp only[L8,wJ,hs];exact⟨by simpa using hy o (by simpa using hl.1),LocF_upd' hm zs p (j+1) b _ (fun i' hZ=>hz i' (by omega)) hl.2⟩
  |succ i=>
   simp only[Ko,wJ];refine⟨zD8 hm z _ b o (hz j (by omega)) hl.1,zJo hm zs p (j+1) b _ i x y hl.2 (by simpa using h) hs (fun i' hZ=>hz i' (by omega)) ?_⟩;rw[show j+1+i=j+(i+1)from by omega];exact hy
where LocF_upd' (hm:Upd G w G' w' s tgt):(xs:List T)→ ∀(p:List Nat)(j b o:Nat),(∀i',j≤i'→ ∀z,¬tgt<:+z++(i'::p))→wJ G w s xs p j b o→wJ G' w' s xs p j b o
 | [],_,_,_,_,_,_=>by simp only[wJ]
 |x::xs,p,j,b,o,hz,h=>by
  simp only[wJ]at h ⊢
  exact⟨zD8 hm x (j::p) b o (hz j (Jd _)) h.1,LocF_upd' hm xs p (j+1) b _ (fun i' hZ=>hz i' (by omega)) h.2⟩
theorem zIt:(f:List Nat)→ ∀(t u u0:T)(p:List Nat)(b o:Nat),Upd G w G' w' s (rp f p)→Loc G w s t p b o→t.get f=dq u0→u.size=u0.size→
  (∀o',Loc G w s u0 (rp f p) b o'→Loc G' w' s u (rp f p) b o')→Loc G' w' s (t.set f u) p b o
 | [],t,u,u0,p,b,o,hm,hl,hg,hs,hu=>by simp[T.get]at hg;subst hg;simpa[T.set,rp]using hu o (by simpa[rp]using hl)
 |i::f,t,u,u0,p,b,o,hm,hl,hg,hs,hu=>by
  have gB:=hm;rw[zAM]at gB;cases t with
  |sl k xs=>
   have:∃ys,(T.sl k xs).set (i::f) u=.sl k ys:=by simp only[T.set];split<;>exact⟨_,rfl⟩
   obtain⟨ys,hy⟩:=this;rw[hy];exact zJn gB (.sl k xs) (.sl k ys) p b o (by simp) (by simp) (by simp) kK hl
  |ptr t=>
   have:∃ys,(T.ptr t).set (i::f) u=.ptr ys:=by simp only[T.set];split<;>exact⟨_,rfl⟩
   obtain⟨ys,hy⟩:=this;rw[hy];exact zJn gB (.ptr t) (.ptr ys) p b o (by simp) (by simp) (by simp) kK hl
  |agg xs=>
   simp only[T.get]at hg;cases hx:xs[i]? with
   |none=>simp[hx]at hg
   |some x=>
    rw[hx]at hg;simp only[T.set,hx];simp only[Loc]at hl ⊢
    refine⟨(gB.ad p kK).trans hl.1,zJo gB xs p 0 b o i x _ hl.2 hx (zD9 f x u u0 hg hs) (fun i' hZ z=>qV (by omega) z) ?_⟩;intro o' ho';simp only[J8]at ho' ⊢
    exact zIt f x u u0 (i::p) b o' gB ho' hg hs (by simpa only[zAM]using hu)
  |tup xs=>simp only[Loc]at hl
  |_=>simp[T.get]at hg
end
end Go.Ab

namespace Go.Ab
open Go
section
variable {St:Stb}{G:Gh}{w:World}{G':Gh}{w':World}{s:Nat}{tgt:List Nat}
theorem zM1(hm:Upd G w G' w' s tgt)(t:T)(p:List Nat)(hz:∀z,¬tgt<:+z++p)(hk:yM (zAl G G') t)(h:R St G w s t p):R St G' w' s t p:=by simpa using zPl (hm.moves hz) t [] hk (by simpa using h)
theorem zPm(hm:Upd G w G' w' s tgt):(xs:List T)→ ∀(p:List Nat)(i b o k:Nat),(∀i',i≤i'→ ∀z,¬tgt<:+z++(i'::p))→xG (zAl G G') xs→RL St G w s xs p i b o k→RL St G' w' s xs p i b o k
 | [],_,_,_,_,_,_,_,_=>by simp only[RL]
 |x::xs,p,i,b,o,k,hz,hk,h=>by
  simp only[RL,xG]at h hk ⊢
  exact⟨⟨zD8 hm x (i::p) b o (hz i (Jd _)) h.1.1,h.1.2⟩,zM1 hm x (i::p) (hz i (Jd _)) hk.1 h.2.1,
   zPm hm xs p (i+1) b _ k (fun i' hZ=>hz i' (by omega)) hk.2 h.2.2⟩
theorem zPn(hm:Upd G w G' w' s tgt):(xs:List T)→ ∀(p:List Nat)(i0 b o k i:Nat)(x y:T),RL St G w s xs p i0 b o k→xs[i]? =dq x→y.size=x.size→xG (zAl G G') xs→
  (∀i',i'≠i0+i→ ∀z,¬tgt<:+z++(i'::p))→(∀o',Loc G w s x ((i0+i)::p) b o'→Loc G' w' s y ((i0+i)::p) b o')→R St G' w' s y ((i0+i)::p)→
  RL St G' w' s (xs.set i y) p i0 b o k
 | [],_,_,_,_,_,_,_,_,_,h,_,_,_,_,_=>by simp at h
 |z::zs,p,i0,b,o,k,i,x,y,hr,h,hs,hk,hz,hl,hy=>by
  simp only[RL,xG]at hr hk;cases i with
  |zero=>
   simp at h;subst h;simp only[L8,RL];exact⟨⟨by simpa using hl o (by simpa using hr.1.1),by omega⟩,by simpa using hy,zPm hm zs p (i0+1) b _ k (fun i' hZ=>hz i' (by omega)) hk.2 hr.2.2⟩
  |succ i=>
   simp only[Ko,RL];rw[show i0+(i+1)=i0+1+i from by omega]at hl hy hz;exact⟨⟨zD8 hm z _ b o (hz i0 (by omega)) hr.1.1,hr.1.2⟩,zM1 hm z _ (hz i0 (by omega)) hk.1 hr.2.1,zPn hm zs p (i0+1) b _ k i x y hr.2.2 (by simpa using h) hs hk.2 hz hl hy⟩
theorem zPo(hm:Upd G w G' w' s tgt):(xs:List T)→ ∀(p:List Nat)(i:Nat),(∀i',i≤i'→ ∀z,¬tgt<:+z++(i'::p))→xG (zAl G G') xs→RF St G w s xs p i→RF St G' w' s xs p i
 | [],_,_,_,_,_=>by simp only[RF]
 |x::xs,p,i,hz,hk,h=>by
  simp only[RF,xG]at h hk ⊢
  exact⟨zM1 hm x (i::p) (hz i (Jd _)) hk.1 h.1,zPo hm xs p (i+1) (fun i' hZ=>hz i' (by omega)) hk.2 h.2⟩
theorem zLr(hm:Upd G w G' w' s tgt):(xs:List T)→ ∀(p:List Nat)(i0 i:Nat)(x y:T),RF St G w s xs p i0→xs[i]? =dq x→xG (zAl G G') xs→
  (∀i',i'≠i0+i→ ∀z,¬tgt<:+z++(i'::p))→R St G' w' s y ((i0+i)::p)→
  RF St G' w' s (xs.set i y) p i0
 | [],_,_,_,_,_,_,h,_,_,_=>by simp at h
 |z::zs,p,i0,i,x,y,hr,h,hk,hz,hy=>by
  simp only[RF,xG]at hr hk;cases i with
  |zero=>
   simp at h;subst h;simp only[L8,RF];exact⟨by simpa using hy,zPo hm zs p (i0+1) (fun i' hZ=>hz i' (by omega)) hk.2 hr.2⟩
  |succ i=>
   simp only[Ko,RF];rw[show i0+(i+1)=i0+1+i from by omega]at hy hz;exact⟨zM1 hm z _ (hz i0 (by omega)) hk.1 hr.1,zLr hm zs p (i0+1) i x y hr.2 (by simpa using h) hk.2 hz hy⟩
theorem vX{φ:Nat→List Nat→Prop}:(xs:List T)→xG φ xs→ ∀(i:Nat)(x:T),xs[i]? =dq x→yM φ x
 | [],_,_,_,h=>by simp at h
 |y::ys,hk,i,x,h=>by
  simp only[xG]at hk;cases i with
  |zero=>simp at h;subst h;exact hk.1
  |succ i=>exact vX ys hk.2 i x (by simpa using h)
theorem zFE:(f:List Nat)→ ∀(t u u0:T)(p:List Nat),Upd G w G' w' s (rp f p)→R St G w s t p→t.get f=dq u0→u.size=u0.size→yM (zAl G G') t→
  (∀b o,Loc G w s u0 (rp f p) b o→Loc G' w' s u (rp f p) b o)→R St G' w' s u (rp f p)→R St G' w' s (t.set f u) p
 | [],t,u,u0,p,hm,hr,hg,hs,hk,hl,hu=>by simpa[T.set,rp]using hu
 |i::f,t,u,u0,p,hm,hr,hg,hs,hk,hl,hu=>by
  have gB:=hm;rw[zAM]at gB hl hu;cases t with
  |sl k xs=>
   simp only[T.get]at hg;cases hx:xs[i]? with
   |none=>simp[hx]at hg
   |some x=>
    rw[hx]at hg;simp only[T.set,hx];simp only[R,yM]at hr hk ⊢
    rcases hr with⟨rfl,_⟩|⟨b,o0,cap,cs,e,h1,h2,h3,h4,h5,h6,h7,h8⟩
    ·simp at hx
    ·obtain⟨cs',fE,gv⟩:=gB.blk b cs e h2
     refine .inr ⟨b,o0,cap,cs',e,by rw[gB.hd p kK,La];exact h1,fE,by rw[La];exact h3,h4,by omega,gB.ow b p h6 kK,?_,?_⟩
     ·intro o ho fX
      rw[La]at ho;exact(gB.lb b o du p (h7 o ho (by omega)) kK).1
     ·have mL:=qU xs p 0 b o0 k i x h8 hx
      simp only[J8]at mL;refine zPn gB xs p 0 b o0 k i x _ h8 hx (zD9 f x u u0 hg hs) hk (fun i' hZ z=>qV (by omega) z) ?_ ?_
      ·intro o' ho'
       simp only[J8]at ho' ⊢
       exact zIt f x u u0 (i::p) b o' gB ho' hg hs (fun o''=>hl b o'')
      ·simp only[J8]
       exact zFE f x u u0 (i::p) gB mL.2.2 hg hs (vX xs hk i x hx) hl hu
  |ptr t=>
   simp only[T.get]at hg;split at hg
   ·rename_i hi;subst hi
    simp only[T.set,if_true];simp only[R,yM]at hr hk ⊢
    obtain⟨b,cs,e,h1,h2,h3,h6,h4,h5⟩:=hr;obtain⟨cs',fE,gv⟩:=gB.blk b cs e h2;refine⟨b,cs',e,by rw[gB.hd p kK];exact h1,fE,by rw[zD9 f t u u0 hg hs];omega,gB.ow b p h6 kK,zIt f t u u0 (0::p) b 0 gB h4 hg hs (fun o''=>hl b o''),zFE f t u u0 (0::p) gB h5 hg hs hk hl hu⟩
   ·cases hg
  |agg xs=>
   simp only[T.get]at hg;cases hx:xs[i]? with
   |none=>simp[hx]at hg
   |some x=>
    rw[hx]at hg;simp only[T.set,hx];simp only[R,yM]at hr hk ⊢
    refine zLr gB xs p 0 i x _ hr hx hk (fun i' hZ z=>qV (by omega) z) ?_;simp only[J8];exact zFE f x u u0 (i::p) gB (by simpa using zAW xs p 0 i x hr hx) hg hs (vX xs hk i x hx) hl hu
  |tup xs=>
   simp only[T.get]at hg;cases hx:xs[i]? with
   |none=>simp[hx]at hg
   |some x=>
    rw[hx]at hg;simp only[T.set,hx];simp only[R,yM]at hr hk ⊢
    refine zLr gB xs p 0 i x _ hr hx hk (fun i' hZ z=>qV (by omega) z) ?_;simp only[J8];exact zFE f x u u0 (i::p) gB (by simpa using zAW xs p 0 i x hr hx) hg hs (vX xs hk i x hx) hl hu
  |_=>simp[T.get]at hg
end
end Go.Ab

namespace Go.Ab
open Go
mutual
def vals(G:Gh)(s:Nat):T→List Nat→List Value
 |.agg xs,p=>zX G s xs p 0
 |.any,p|.lit _,p|.ro _,p|.same _ _,p|.addr _ _,p|.sub _ _ _ _ _,p|.sl _ _,p|.ptr _,p|.tup _,p=>[G.hd s p]
def zX(G:Gh)(s:Nat):List T→List Nat→Nat→List Value
 | [],_,_=>[]
 |x::xs,p,j=>vals G s x (j::p)++zX G s xs p (j+1)
end
def tM(G:Gh)(s:Nat)(t:T)(p:List Nat):Value:=
 match t with
 |.agg xs=>.agg (zX G s xs p 0).toArray
 |_=>G.hd s p
def kX(G:Gh)(s:Nat):List T→List Nat→Nat→List Value
 | [],_,_=>[]
 |x::xs,p,j=>tM G s x (j::p)::kX G s xs p (j+1)
def mkV(G:Gh)(s:Nat)(t:T)(p:List Nat):Value:=
 match t with
 |.agg xs=>.agg (zX G s xs p 0).toArray
 |.tup xs=>.tuple (kX G s xs p 0).toArray
 |_=>G.hd s p
mutual
def Top:T→Prop
 |.sl _ xs=>yV xs
 |.ptr t=>zT t
 |.agg xs|.tup xs=>vS xs
 |.any|.lit _|.ro _|.same _ _|.addr _ _|.sub _ _ _ _ _=>True
def vS:List T→Prop
 | []=>True
 |x::xs=>Top x∧vS xs
end
mutual
theorem Top.of_clean:(t:T)→zT t→Top t
 |.sl _ xs,h=>by simpa only[Top,zT,yM]using h
 |.ptr t,h=>by simpa only[Top,zT,yM]using h
 |.agg xs,h|.tup xs,h=>by simp only[Top];exact vS.of_clean xs (by simpa only[zT,yM]using h)
 |.any,_|.lit _,_|.ro _,_|.same _ _,_|.addr _ _,_|.sub _ _ _ _ _,_=>by simp only[Top]
theorem vS.of_clean:(xs:List T)→yV xs→vS xs
 | [],_=>by simp only[vS]
 |x::xs,h=>by simp only[vS];exact⟨Top.of_clean x h.1,vS.of_clean xs h.2⟩
end
abbrev Chg:=List (Nat×Nat)
def Off(chg:Chg)(s:Nat)(p:List Nat):Prop:=∀n,(s,n)∈chg→p.length<n
def zAm(chg:Chg)(r:Nat)(p:List Nat):Bool:=chg.all fun c=>c.1 != r||decide (p.length<c.2)
theorem zOa{chg:Chg}{r:Nat}{p:List Nat}(h:zAm chg r p=du):Off chg r p:=by
 intro n hn;have:=Jt.1 h _ hn
 grind
mutual
def T.okB(chg:Chg):T→Bool
 |.same r p|.addr r p|.sub r p _ _ _=>zAm chg r p
 |.agg xs|.tup xs=>zJp chg xs
 |.any|.lit _|.ro _|.sl _ _|.ptr _=>du
def zJp(chg:Chg):List T→Bool
 | []=>du
 |x::xs=>x.okB chg&&zJp chg xs
end
mutual
theorem zAN{chg:Chg}:(t:T)→Top t→t.okB chg=du→yM (Off chg) t
 |.same r p,_,h|.addr r p,_,h|.sub r p _ _ _,_,h=>by simp only[T.okB]at h;simp only[yM];exact zOa h
 |.agg xs,ht,h|.tup xs,ht,h=>by simp only[T.okB,Top]at h ht;simp only[yM];exact zFF xs ht h
 |.sl _ xs,ht,_=>by simp only[Top]at ht;simp only[yM];grind[xG.mono]
 |.ptr t,ht,_=>by simp only[Top]at ht;simp only[yM];grind[yM.mono]
 |.any,_,_|.lit _,_,_|.ro _,_,_=>by simp only[yM]
theorem zFF{chg:Chg}:(xs:List T)→vS xs→zJp chg xs=du→xG (Off chg) xs
 | [],_,_=>by simp only[xG]
 |x::xs,ht,h=>by simp only[zJp,vS,J2]at h ht;simp only[xG];exact⟨zAN x ht.1 h.1,zFF xs ht.2 h.2⟩
end
abbrev Env:=Nat→Option T
abbrev Wr:=List (Nat×Option T)
def Wr.find(wr:Wr)(s:Nat):Option (Option T):=
 match wr with
 | []=>dt
 |(k,x)::r=>if k=s then dq x else Wr.find r s
def Env.app(E:Env)(wr:Wr)(chg:Chg):Env:=fun s=>
 match wr.find s with
 |some x=>x
 |none=>match E s with
  |some t=>if t.okB chg then dq t else dt
  |none=>dt
structure Ctx where
 St:Stb
 W:Nat→Prop
 w0:World
 N:Nat
def zBV(Γ:Ctx)(w:World)(b:Nat):Prop:=b<w.heap.size∧(Γ.w0.heap.size≤b∨Γ.W b)∧Γ.St b=dt
structure zSA (w w':World):Prop where
 blk:Blk w w'
 os:w'.os=w.os
 out:w'.output=w.output
structure Mem (Γ:Ctx) (G:Gh) (w:World):Prop where
 one:∀s p,(G.hd s p).oneCell'=du
 lb:∀b o l,G.lb b o=dq l→zBV Γ w b
 ow:∀b l,G.ow b=dq l→zBV Γ w b
 st:∀b x,Γ.St b=dq x→w.heap[b]? =dq x
 fr:∀b,b<Γ.w0.heap.size→ ¬Γ.W b→w.heap[b]? =Γ.w0.heap[b]?
 sz:Γ.w0.heap.size≤w.heap.size
 bk:zSA Γ.w0 w
theorem Blk.trans{w w' w'':World}(h:Blk w w')(h':Blk w' w''):Blk w w'':=fun b cs e hb=>by
 obtain⟨cs',h1,h2⟩:=h b cs e hb;obtain⟨cs'',h3,h4⟩:=h' b cs' e h1
 grind
theorem zSA.trans{w w' w'':World}(h:zSA w w')(h':Blk w' w'')(ho:w''.os=w'.os)(hq:w''.output=w'.output):zSA w w'':=⟨h.blk.trans h',ho.trans h.os,hq.trans h.out⟩
def Ent(Γ:Ctx)(G:Gh)(w:World)(v:Option Value)(s:Nat)(t:T):Prop:=v=dq (mkV G s t [])∧R Γ.St G w s t []∧Top t
structure Rep (Γ:Ctx) (E:Env) (G:Gh) (tmps:Array Value) (w:World):Prop where
 size:tmps.size=Γ.N
 ent:∀s t,E s=dq t→Ent Γ G w tmps[s]? s t
 mem:Mem Γ G w
def Sim(Γ:Ctx)(E:Env)(a:Act)(w:World):Prop:=a.defers=[]∧ ∃G,Rep Γ E G a.tmps w
structure zCQ (S S':Stb) (W:Nat→Prop) (n:Nat):Prop where
 le:∀b x,S b=dq x→S' b=dq x
 nw:∀b,S b=dt→S' b≠dt→n≤b∨W b
theorem zCQ.refl{S:Stb}{W:Nat→Prop}{n:Nat}:zCQ S S W n:=⟨fun _ _ h=>h,by grind⟩
theorem zCQ.trans{S S' S'':Stb}{W:Nat→Prop}{n:Nat}(h:zCQ S S' W n)(h':zCQ S' S'' W n):zCQ S S'' W n:=
 ⟨fun b x hb=>h'.le b x (h.le b x hb),fun b hb eF=>by
  cases hs:S' b with
  |none=>exact h'.nw b hs eF
  |some x=>exact h.nw b hb (by grind)⟩
abbrev Ctx.at(Γ:Ctx)(S:Stb):Ctx:={ Γ with St:=S }
def qW(Γ:Ctx)(E:Env)(a:Act)(w:World):Prop:=∃S,zCQ Γ.St S Γ.W Γ.w0.heap.size∧Sim (Γ.at S) E a w
theorem qW.of{Γ:Ctx}{E:Env}{a:Act}{w:World}(h:Sim Γ E a w):qW Γ E a w:=⟨Γ.St,.refl,h⟩
theorem qW.up{Γ:Ctx}{E:Env}{a:Act}{w:World}{S:Stb}(hS:zCQ Γ.St S Γ.W Γ.w0.heap.size)(h:qW (Γ.at S) E a w):qW Γ E a w:=by obtain⟨S',h1,h2⟩:=h;exact⟨S',hS.trans h1,h2⟩
structure qQ (chg:Chg) (G:Gh) (w:World) (G':Gh) (w':World):Prop where
 hd:∀s p,Off chg s p→G'.hd s p=G.hd s p
 ad:∀s p,Off chg s p→G'.ad s p=G.ad s p
 lb:∀b o f s p,(∃y,G.ow b=dq (s,y))→G.lb b o=dq (f,s,p)→(∀n,(s,n)∉chg)→G'.lb b o=dq (f,s,p)∧yH w' b o=yH w b o
 ow:∀b s p,G.ow b=dq (s,p)→(∀n,(s,n)∉chg)→G'.ow b=dq (s,p)
 blk:Blk w w'
theorem Off.of_not{chg:Chg}{s:Nat}(h:∀n,(s,n)∉chg)(p:List Nat):Off chg s p:=fun n hn=>absurd hn (h n)
section
variable {Γ:Ctx}{G G':Gh}{w w':World}{s:Nat}{chg:Chg}
mutual
theorem zAO{s':Nat}:(t:T)→ ∀(p p':List Nat),(∀z,G'.hd s' (z++p')=G.hd s (z++p))→vals G' s' t p'=vals G s t p
 |.agg xs,p,p',h=>by simp only[vals];exact zDA xs p p' 0 h
 |.any,p,p',h|.lit _,p,p',h|.ro _,p,p',h|.same _ _,p,p',h|.addr _ _,p,p',h|.sub _ _ _ _ _,p,p',h|.sl _ _,p,p',h|.ptr _,p,p',h|.tup _,p,p',h=>by simp only[vals];rw[show G'.hd s' p'=G.hd s p from by simpa using h []]
theorem zDA{s':Nat}:(xs:List T)→ ∀(p p':List Nat)(j:Nat),(∀z,G'.hd s' (z++p')=G.hd s (z++p))→zX G' s' xs p' j=zX G s xs p j
 | [],_,_,_,_=>by rfl
 |x::xs,p,p',j,h=>by simp only[zX];rw[zAO x (j::p) (j::p') (fun z=>by have:=h (z++[j]);grind),zDA xs p p' (j+1) h]
end
theorem zB7{s':Nat}(t:T)(p p':List Nat)(h:∀z,G'.hd s' (z++p')=G.hd s (z++p)):tM G' s' t p'=tM G s t p:=by
 unfold tM;split
 ·grind[zDA]
 ·simpa using h []
theorem zM2{s':Nat}:(xs:List T)→ ∀(p p':List Nat)(j:Nat),(∀z,G'.hd s' (z++p')=G.hd s (z++p))→kX G' s' xs p' j=kX G s xs p j
 | [],_,_,_,_=>by rfl
 |x::xs,p,p',j,h=>by simp only[kX];rw[zB7 x (j::p) (j::p') (fun z=>by have:=h (z++[j]);simpa using this),zM2 xs p p' (j+1) h]
theorem zEm{s':Nat}(t:T)(p p':List Nat)(h:∀z,G'.hd s' (z++p')=G.hd s (z++p)):mkV G' s' t p'=mkV G s t p:=by
 unfold mkV;split
 ·grind[zDA]
 ·grind[zM2]
 ·simpa using h []
theorem qQ.moves(hk:qQ chg G w G' w')(hs:∀n,(s,n)∉chg)(p:List Nat):zHy G w G' w' s p s p where
 hd _:=hk.hd _ _ (.of_not hs _)
 ad _ _:=hk.ad _ _ (.of_not hs _)
 lb b o f _ _ gW hl:=hk.lb b o f s _ gW hl hs
 ow b _ _ hl:=hk.ow b s _ hl hs
 sp b o gW hl:=hk.lb b o du s _ gW hl hs
 ow0 b hl:=hk.ow b s _ hl hs
 blk:=hk.blk
theorem qQ.keepR(hk:qQ chg G w G' w'){t:T}(h:yM (Off chg) t):yM (zAl G G') t:=
 yM.mono (fun r p hr=>⟨hk.hd r p hr,hk.ad r p hr⟩) t h
theorem Ent.keep(hk:qQ chg G w G' w')(hs:∀n,(s,n)∉chg){v:Option Value}{t:T}(ht:t.okB chg=du)(h:Ent Γ G w v s t):Ent Γ G' w' v s t:=by
 obtain⟨h1,h2,h3⟩:=h;refine⟨?_,?_,h3⟩
 ·rw[h1,zEm t [] [] (fun z=>hk.hd _ _ (.of_not hs _))]
 ·simpa using zPl (hk.moves hs []) t [] (hk.keepR (zAN t h3 ht)) (by grind)
end
theorem vC{Γ:Ctx}{E:Env}{G G':Gh}{tmps tmps':Array Value}{w w':World}{wr:Wr}{chg:Chg}(h:Rep Γ E G tmps w)
  (gQ:tmps'.size=tmps.size)(hk:qQ chg G w G' w')(gz:Mem Γ G' w')
  (gD:∀s,wr.find s=dt→(∀n,(s,n)∉chg)∧tmps'[s]? =tmps[s]?)
  (ek:∀s t,wr.find s=dq (dq t)→Ent Γ G' w' tmps'[s]? s t):Rep Γ (E.app wr chg) G' tmps' w' where
 size:=by rw[gQ,h.size]
 mem:=gz
 ent s t hs:=by
  unfold Env.app at hs;cases hf:wr.find s with
  |some x=>
   grind
  |none=>
   rw[hf]at hs;simp at hs;cases he:E s with
   |none=>grind
   |some u=>
    simp[he]at hs;obtain⟨gH,rfl⟩:=hs;rw[(gD s hf).2];exact Ent.keep hk (gD s hf).1 gH (h.ent s u he)
end Go.Ab

namespace Go.Ab
open Go
mutual
def cpT(s:Nat):T→List Nat→T
 |.lit v,_=>.lit v
 |.ro t,_=>.ro t
 |.same r q,_=>.same r q
 |.addr r q,_=>.addr r q
 |.sub r q k lo hi,_=>.sub r q k lo hi
 |.agg xs,p=>.agg (cpF s xs p 0)
 |.any,p|.sl _ _,p|.ptr _,p|.tup _,p=>.same s p
def cpF(s:Nat):List T→List Nat→Nat→List T
 | [],_,_=>[]
 |x::xs,p,j=>cpT s x (j::p)::cpF s xs p (j+1)
end
mutual
theorem sL(s:Nat):(t:T)→ ∀p,Top (cpT s t p)
 |.agg xs,p=>by simp only[cpT,Top];exact zM3 s xs p 0
 |.lit _,_|.ro _,_|.same _ _,_|.addr _ _,_|.sub _ _ _ _ _,_|.any,_|.sl _ _,_|.ptr _,_|.tup _,_=>by simp only[cpT,Top]
theorem zM3(s:Nat):(xs:List T)→ ∀p j,vS (cpF s xs p j)
 | [],_,_=>by simp only[cpF,vS]
 |x::xs,p,j=>by simp only[cpF,vS];exact⟨sL s x _,zM3 s xs p _⟩
end
section
variable {St:Stb}{G G':Gh}{w w':World}{s d:Nat}
mutual
theorem zDg(hs:∀p,G'.hd s p=G.hd s p):(t:T)→ ∀(p p':List Nat),(∀z,G'.hd d (z++p')=G.hd s (z++p))→(∀xs,t≠.tup xs)→yM (zAl G G') (cpT s t p)→R St G w s t p→R St G' w' d (cpT s t p) p'
 |.lit _,p,p',hd,_,_,h=>by simp only[cpT,R]at h ⊢;rw[show G'.hd d p'=_ from by simpa using hd []];exact h
 |.ro _,p,p',hd,_,_,h=>by simp only[cpT,R]at h ⊢;rw[show G'.hd d p'=_ from by simpa using hd []];exact h
 |.same r q,p,p',hd,_,hk,h=>by simp only[cpT,R,yM]at h hk ⊢;rw[show G'.hd d p'=_ from by simpa using hd [],hk.1];exact h
 |.addr r q,p,p',hd,_,hk,h=>by simp only[cpT,R,yM]at h hk ⊢;rw[show G'.hd d p'=_ from by simpa using hd [],hk.2];exact h
 |.sub r q k lo hi,p,p',hd,_,hk,h=>by simp only[cpT,R,yM]at h hk ⊢;rw[show G'.hd d p'=_ from by simpa using hd [],hk.1];exact h
 |.any,p,p',hd,_,_,_|.sl _ _,p,p',hd,_,_,_|.ptr _,p,p',hd,_,_,_=>by simp only[cpT,R];rw[show G'.hd d p'=_ from by simpa using hd [],hs]
 |.tup xs,_,_,_,h,_,_=>absurd rfl (h xs)
 |.agg xs,p,p',hd,_,hk,h=>by simp only[cpT,R,yM]at h hk ⊢;exact zIu hs xs p p' 0 hd hk h
theorem zIu(hs:∀p,G'.hd s p=G.hd s p):(xs:List T)→ ∀(p p':List Nat)(j:Nat),(∀z,G'.hd d (z++p')=G.hd s (z++p))→xG (zAl G G') (cpF s xs p j)→RF St G w s xs p j→RF St G' w' d (cpF s xs p j) p' j
 | [],_,_,_,_,_,_=>by simp only[cpF,RF]
 |x::xs,p,p',j,hd,hk,h=>by
  simp only[cpF,RF,xG]at h hk ⊢
  refine⟨?_,zIu hs xs p p' (j+1) hd hk.2 h.2⟩
  by_cases hx:∃ys,x=.tup ys
  ·obtain⟨ys,rfl⟩:=hx
   simp only[cpT,R];rw[show G'.hd d (j::p')=_ from by simpa using hd [j],hs]
  ·exact zDg hs x (j::p) (j::p') (fun z=>by have:=hd (z++[j]);simpa using this) (fun ys e=>hx ⟨ys,e⟩) hk.1 h.1
end
mutual
theorem zOb:(t:T)→ ∀(p p':List Nat),(∀z,G'.hd d (z++p')=G.hd s (z++p))→vals G' d (cpT s t p) p'=vals G s t p
 |.agg xs,p,p',h=>by simp only[cpT,vals];exact zDh xs p p' 0 h
 |.any,p,p',h|.lit _,p,p',h|.ro _,p,p',h|.same _ _,p,p',h|.addr _ _,p,p',h|.sub _ _ _ _ _,p,p',h|.sl _ _,p,p',h|.ptr _,p,p',h|.tup _,p,p',h=>by simp only[cpT,vals];rw[show G'.hd d p'=G.hd s p from by simpa using h []]
theorem zDh:(xs:List T)→ ∀(p p':List Nat)(j:Nat),(∀z,G'.hd d (z++p')=G.hd s (z++p))→zX G' d (cpF s xs p j) p' j=zX G s xs p j
 | [],_,_,_,_=>by rfl
 |x::xs,p,p',j,h=>by simp only[cpF,zX];rw[zOb x (j::p) (j::p') (fun z=>by have:=h (z++[j]);grind),zDh xs p p' (j+1) h]
end
theorem zA1(t:T)(p p':List Nat)(ht:∀xs,t≠.tup xs)(h:∀z,G'.hd d (z++p')=G.hd s (z++p)):mkV G' d (cpT s t p) p'=tM G s t p:=by
 cases t with
 |agg xs=>grind[cpT,mkV,tM,zDh]
 |tup xs=>grind
 |_=>simpa[cpT,mkV,tM]using h []
end
theorem kY(G:Gh)(s:Nat)(t:T)(p:List Nat)(ht:∀xs,t≠.tup xs):mkV G s t p=tM G s t p:=by
 cases t with
 |tup xs=>grind
 |_=>rfl
def Gh.put(G:Gh)(d:Nat)(f:List Nat→Value):Gh:={ G with hd:=fun s z=>if s=d then f z else G.hd s z }
theorem Gh.put_other(G:Gh){d s:Nat}(f:List Nat→Value)(p:List Nat)(h:s≠d):(G.put d f).hd s p=G.hd s p:=by simp[Gh.put,h]
theorem Gh.put_self(G:Gh)(d:Nat)(f:List Nat→Value)(p:List Nat):(G.put d f).hd d p=f p:=by simp[Gh.put]
theorem zV5{d s:Nat}{p:List Nat}(h:Off [(d,0)] s p):s≠d:=by
 rintro rfl
 exact absurd (h 0 (by simp)) (by simp)
theorem Gh.put_keep(G:Gh){w w':World}(hw:w'.heap=w.heap)(d:Nat)(f:List Nat→Value):qQ [(d,0)] G w (G.put d f) w' where
 hd s p h:=G.put_other f p (zV5 h)
 ad _ _ _:=rfl
 lb b o f' s p _ h _:=⟨h,by grind[yH,World.cell?]⟩
 ow b s p h _:=h
 blk b cs e h:=by grind
theorem Mem.put{Γ:Ctx}{G:Gh}{w w':World}(h:Mem Γ G w)(hw:w'.heap=w.heap)(d:Nat)(f:List Nat→Value)(hf:∀z,(f z).oneCell'=du)(ho:w'.os=w.os:=by rfl)(hq:w'.output=w.output:=by rfl):Mem Γ (G.put d f) w' where
 one s p:=by unfold Gh.put;dsimp only;split;exact hf p;exact h.one s p
 lb b o l hl:=by have:=h.lb b o l hl;exact⟨by rw[hw];exact this.1,this.2⟩
 ow b l hl:=by have:=h.ow b l hl;exact⟨by rw[hw];exact this.1,this.2⟩
 st b x hx:=by rw[hw];exact h.st b x hx
 fr b h1 h2:=by rw[hw];exact h.fr b h1 h2
 sz:=by rw[hw];exact h.sz
 bk:=h.bk.trans (fun b cs e hb=>by grind) ho hq
theorem uZ(d:Nat)(x:Option T)(s:Nat):Wr.find [(d,x)] s=if d=s then dq x else dt:=by rfl
theorem vD{Γ:Ctx}{E:Env}{G:Gh}{tmps:Array Value}{w w':World}(h:Rep Γ E G tmps w)(hw:w'.heap=w.heap){d:Nat}(hd:d<Γ.N)
  (f:List Nat→Value)(hf:∀z,(f z).oneCell'=du)(t:T)(v:Value)(hv:v=mkV (G.put d f) d t [])(hr:R Γ.St (G.put d f) w' d t [])(ht:Top t)(ho:w'.os=w.os:=by rfl)(hq:w'.output=w.output:=by rfl):
  Rep Γ (E.app [(d,dq t)] [(d,0)]) (G.put d f) (tmps.setIfInBounds d v) w':=by
 refine vC h (by simp) (G.put_keep hw d f) (h.mem.put hw d f hf ho hq) ?_ ?_
 ·grind[uZ]
 ·intro s t' hs
  rw[uZ]at hs;split at hs
  ·rename_i he
   subst he;simp at hs;subst hs;refine⟨?_,hr,ht⟩;rw[Jc];simp[h.size,hd,hv]
  ·cases hs
def xR(P:Program)(Γ:Ctx)(o:Oper)(E E':Env):Prop:=
 ∀(a:Act)(w:World)(K:Act→World→Prop)(Q:Exit→Act→World→Prop),Sim Γ E a w→(∀a' w',qW Γ E' a' w'→K a' w')→o.wp P a w K Q
def opT(E:Env):Operand→Option T
 |.tmp s=>E s
 |.const v=>if v.oneCell' then dq (.lit v)else dt
 |.func f=>dq (.lit (.func (.func f) #[] #[]))
 |.global _=>dt
def uE(x:Operand)(t:T):T:=match x with
 |.tmp s=>cpT s t []
 |_=>t
section
variable {P:Program}{Γ:Ctx}{E E':Env}{o:Oper}{d:Nat}
theorem xM{a:Act}{s:Nat}{v:Value}(h:a.tmps[s]? =dq v):a.eval (.tmp s)=v:=by simp[Act.eval,Kc,h]
theorem xR.value(ho:o.dst=dq d)
  (h:∀(a:Act)(w:World)(G:Gh),Rep Γ E G a.tmps w→ ∃v w',(execOp a.eval o).run P w=.ok (.value v) w'∧ ∃G',Rep Γ E' G' (a.tmps.setIfInBounds d v) w'):xR P Γ o E E':=by
 intro a w K Q ⟨ea,G,gc⟩ hK;obtain⟨v,w',gx,G',eW⟩:=h a w G gc;unfold Oper.wp;rw[gx,Oper.upon_value];refine hK _ _ ?_;rw[ho];exact .of ⟨ea,G',eW⟩
theorem xR.skip(ho:o.dst=dt)
  (h:∀(a:Act)(w:World)(G:Gh),Rep Γ E G a.tmps w→ ∃w',(execOp a.eval o).run P w=.ok .skip w'∧ ∃G',Rep Γ E' G' a.tmps w'):xR P Γ o E E':=by
 intro a w K Q ⟨ea,G,gc⟩ hK;obtain⟨w',gx,G',eW⟩:=h a w G gc;unfold Oper.wp;rw[gx,Oper.upon_skip];refine hK _ _ ?_;rw[ho];exact .of ⟨ea,G',eW⟩
theorem opd{G:Gh}{a:Act}{w:World}(gc:Rep Γ E G a.tmps w){x:Operand}{t:T}(hx:opT E x=dq t)(ht:∀xs,t≠.tup xs):
  ∃f:List Nat→Value,(∀z,(f z).oneCell'=du)∧(∀d,(∀s,x=.tmp s→s≠d)→T.okB [(d,0)] (uE x t)=du→
   a.eval x=mkV (G.put d f) d (uE x t) []∧R Γ.St (G.put d f) w d (uE x t) [])∧Top (uE x t):=by
 cases x with
 |tmp s=>
  obtain⟨h1,h2,h3⟩:=gc.ent s t hx;refine⟨fun z=>G.hd s z,fun z=>gc.mem.one s z,?_,sL s t []⟩;intro d gf gH;have eG:=gf s rfl;have hk:=G.put_keep (w:=w) (w':=w) rfl d (fun z=>G.hd s z);have hz:∀z,(G.put d (fun z=>G.hd s z)).hd d (z++[])=G.hd s (z++[]):=by grind[Gh.put_self]
  refine⟨?_,?_⟩
  ·grind[xM,uE,zA1,kY]
  ·exact zDg (fun p=>G.put_other _ p eG) t [] [] hz ht (hk.keepR (zAN _ (sL s t []) gH)) h2
 |const v=>
  simp only[opT]at hx;split at hx
  ·rename_i gn
   simp at hx;subst hx;exact⟨fun _=>v,fun _=>gn,fun d _ _=>⟨by simp[Act.eval,uE,mkV,Gh.put],by simp[uE,R,Gh.put]⟩,by simp[uE,Top]⟩
  ·cases hx
 |func f=>
  simp only[opT]at hx;simp at hx;subst hx;exact⟨fun _=>.func (.func f) #[] #[],fun _=>rfl,fun d _ _=>⟨by simp[Act.eval,uE,mkV,Gh.put],by simp[uE,R,Gh.put]⟩,by simp[uE,Top]⟩
 |global g=>cases hx
theorem zM4(x:Operand)(t:T)(ho:o.op=.move x∨o.op=.assign x)(gj:o.dst=dq d)(hd:d<Γ.N)(hx:opT E x=dq t)(ht:∀xs,t≠.tup xs)
  (gf:∀s,x=.tmp s→s≠d)(gH:T.okB [(d,0)] (uE x t)=du):xR P Γ o E (E.app [(d,dq (uE x t))] [(d,0)]):=by
 refine xR.value gj fun a w G gc=>?_
 obtain⟨f,hf,h1,h2⟩:=opd gc hx ht;obtain⟨h3,h4⟩:=h1 d gf gH;refine⟨a.eval x,w,?_,_,vD gc rfl hd f hf _ _ h3 h4 h2⟩;rcases ho with ho|ho<;>simp[execOp,ho]
theorem xE{G:Gh}{a:Act}{w:World}(gc:Rep Γ E G a.tmps w){x:Operand}{v:Value}(hx:opT E x=dq (.lit v)):a.eval x=v∧v.oneCell'=du:=by
 cases x with
 |tmp s=>
  obtain⟨h1,h2,_⟩:=gc.ent s _ hx;simp only[R]at h2;refine⟨?_,by rw[←h2];exact gc.mem.one s []⟩
  grind[xM,mkV]
 |const u=>
  simp only[opT]at hx;split at hx
  ·simp at hx;subst hx;exact⟨rfl,by assumption⟩
  ·cases hx
 |func f=>simp only[opT]at hx;simp at hx;subst hx;exact⟨rfl,rfl⟩
 |global g=>cases hx
theorem tZ(v:Value)(hv:v.oneCell'=du)(gj:o.dst=dq d)(hd:d<Γ.N)
  (h:∀(a:Act)(w:World)(G:Gh),Rep Γ E G a.tmps w→(execOp a.eval o).run P w=.ok (.value v) w):xR P Γ o E (E.app [(d,dq (.lit v))] [(d,0)]):=by
 refine xR.value gj fun a w G gc=>?_
 exact⟨v,w,h a w G gc,_,vD gc rfl hd (fun _=>v) (fun _=>hv) (.lit v) v (by simp[mkV,Gh.put]) (by simp[R,Gh.put]) (by simp[Top])⟩
def zIv(op:BinOp)(k:IntKind)(a b:Int):Option Value:=
 match op with
 |.add=>dq (.int k (k.wrap (a+b)))
 |.sub=>dq (.int k (k.wrap (a-b)))
 |.mul=>dq (.int k (k.wrap (a*b)))
 |.quo=>if b=0 then dt else dq (.int k (k.wrap (a.tdiv b)))
 |.rem=>if b=0 then dt else dq (.int k (a.tmod b))
 |.eql=>dq (.bool (a==b))
 |.neq=>dq (.bool (a != b))
 |.lss=>dq (.bool (decide (a<b)))
 |.leq=>dq (.bool (decide (a≤b)))
 |.gtr=>dq (.bool (decide (a> b)))
 |.geq=>dq (.bool (decide (a≥b)))
 |_=>dt
theorem zPp{op:BinOp}{k:IntKind}{a b:Int}{v:Value}(h:zIv op k a b=dq v):v.oneCell'=du:=by cases op<;>simp[zIv]at h<;>first|(subst h;rfl)|(obtain⟨_,rfl⟩:=h;rfl)
theorem vM(op:BinOp)(xt yt:TypeId)(x y:Operand)(k:IntKind)(m n:Int)(v:Value)(ho:o.op=.binOp op xt x y yt)(gj:o.dst=dq d)(hd:d<Γ.N)
  (hx:opT E x=dq (.lit (.int k m)))(hy:opT E y=dq (.lit (.int k n)))(hv:zIv op k m n=dq v):xR P Γ o E (E.app [(d,dq (.lit v))] [(d,0)]):=by
 refine tZ v (zPp hv) gj hd fun a w G gc=>?_
 have h1:=(xE gc hx).1;have h2:=(xE gc hy).1;cases op<;>simp[zIv]at hv<;>
  first
   |(subst hv;simp[execOp,ho,h1,h2,eqGuard,binOp,Op.intArith,Op.intCmp];done)
   |(obtain⟨h0,rfl⟩:=hv;simp[execOp,ho,h1,h2,eqGuard,binOp,Op.intDiv,h0])
theorem zV6(xt:TypeId)(x:Operand)(b:Bool)(ho:o.op=.unOp .not xt x)(gj:o.dst=dq d)(hd:d<Γ.N)
  (hx:opT E x=dq (.lit (.bool b))):xR P Γ o E (E.app [(d,dq (.lit (.bool !b)))] [(d,0)]):=by
 refine tZ _ rfl gj hd fun a w G gc=>?_
 have h1:=(xE gc hx).1;simp[execOp,ho,h1,Op.unary]
theorem zV7(xt:TypeId)(x:Operand)(k:IntKind)(n:Int)(ho:o.op=.unOp .neg xt x)(gj:o.dst=dq d)(hd:d<Γ.N)
  (hx:opT E x=dq (.lit (.int k n))):xR P Γ o E (E.app [(d,dq (.lit (.int k (k.wrap (0-n)))))] [(d,0)]):=by
 refine tZ _ rfl gj hd fun a w G gc=>?_
 have h1:=(xE gc hx).1;simp[execOp,ho,h1,Op.unary,Op.intArith]
theorem zSB(src dst:TypeId)(ds:TypeDesc)(x:Operand)(k k':IntKind)(n:Int)(ho:o.op=.convert src dst x)(gj:o.dst=dq d)(hd:d<Γ.N)
  (hs:P.underlying src=dq ds)(ht:P.underlying dst=dq (.int k'))(hx:opT E x=dq (.lit (.int k n))):
  xR P Γ o E (E.app [(d,dq (.lit (.int k' (k'.wrap n))))] [(d,0)]):=by
 refine tZ _ rfl gj hd fun a w G gc=>?_
 have h1:=(xE gc hx).1;simp[execOp,ho,h1,convert,run_underlying hs,run_underlying ht,Conv.intToInt]
theorem zSC(c x y:Operand)(b:Bool)(t:T)(ho:o.op=.pick c x y)(gj:o.dst=dq d)(hd:d<Γ.N)
  (hc:opT E c=dq (.lit (.bool b)))(hx:opT E (if b then x else y)=dq t)(ht:∀xs,t≠.tup xs)
  (gf:∀s,(if b then x else y)=.tmp s→s≠d)(gH:T.okB [(d,0)] (uE (if b then x else y) t)=du):xR P Γ o E (E.app [(d,dq (uE (if b then x else y) t))] [(d,0)]):=by
 refine xR.value gj fun a w G gc=>?_
 obtain⟨f,hf,h1,h2⟩:=opd gc hx ht;obtain⟨h3,h4⟩:=h1 d gf gH;refine⟨a.eval (if b then x else y),w,?_,_,vD gc rfl hd f hf _ _ h3 h4 h2⟩;have h5:=(xE gc hc).1;cases b<;>simp[execOp,ho,h5,asBool]
end
end Go.Ab

namespace Go.Ab
open Go
def sO(E:Env):Nat→Nat→List Nat→Option (Nat×List Nat×T)
 |0,_,_=>dt
 |n+1,r,q=>match E r with
  |some t=>match t.get q.reverse with
   |some (.same r' q')=>sO E n r' q'
   |some u=>dq (r,q,u)
   |none=>dt
  |none=>dt
def uQ(E:Env):Operand→Option (Nat×List Nat×T)
 |.tmp s=>sO E 4 s []
 |_=>dt
def T.single:T→Bool
 |.agg _|.tup _=>dv
 |_=>du
theorem xH{G:Gh}{s:Nat}{t:T}{p:List Nat}(h:t.single=du):mkV G s t p=G.hd s p:=by cases t<;>simp[T.single]at h<;>rfl
section
variable {P:Program}{Γ:Ctx}{E:Env}{o:Oper}{d:Nat}
theorem zC3{G:Gh}{a:Act}{w:World}(gc:Rep Γ E G a.tmps w):∀(n s:Nat)(p:List Nat)(r:Nat)(q:List Nat)(u:T),sO E n s p=dq (r,q,u)→
  R Γ.St G w r u q∧G.hd s p=G.hd r q∧(∃t,E r=dq t∧t.get q.reverse=dq u)
 |0,_,_,_,_,_,h=>by simp[sO]at h
 |n+1,s,p,r,q,u,h=>by
  simp only[sO]at h;split at h
  ·rename_i t ht
   obtain⟨_,h4,_⟩:=gc.ent _ _ ht;split at h
   ·rename_i r' q' hg
    obtain⟨h1,h2,h3⟩:=zC3 gc n r' q' r q u h;have h5:=(zBU p.reverse t _ [] h4 hg).1;simp only[rp,Ks,Jk,R]at h5;exact⟨h1,h5.trans h2,h3⟩
   ·rename_i u' hns hg
    simp at h;obtain⟨rfl,rfl,rfl⟩:=h;have h5:=(zBU p.reverse t _ [] h4 hg).1;simp only[rp,Ks,Jk]at h5;exact⟨h5,rfl,t,ht,hg⟩
   ·cases h
  ·cases h
theorem sP{G:Gh}{a:Act}{w:World}(gc:Rep Γ E G a.tmps w){x:Operand}{r:Nat}{q:List Nat}{u:T}(h:uQ E x=dq (r,q,u))(hu:u.single=du):
  R Γ.St G w r u q∧a.eval x=G.hd r q:=by
 cases x with
 |tmp s=>
  obtain⟨h1,h2,_⟩:=zC3 gc 4 s [] r q u h;refine⟨h1,?_⟩;rw[←h2];simp only[uQ,sO]at h;split at h
  ·rename_i t ht
   obtain⟨h3,_,_⟩:=gc.ent s _ ht;rw[xM h3];simp only[H2,T.get]at h;have:t.single=du:=by cases t<;>first|rfl|(simp at h;obtain⟨_,_,rfl⟩:=h;simp[T.single]at hu)
   exact xH this
  ·cases h
 |_=>simp[uQ]at h
theorem zIw{St:Stb}{G:Gh}{w:World}{s:Nat}{k:Nat}{xs:List T}{p:List Nat}(h:R St G w s (.sl k xs) p):∃a c,G.hd s p=.slice a xs.length c:=by
 simp only[R]at h;rcases h with⟨rfl,a,h⟩|⟨b,_,cap,_,_,h,_⟩
 ·exact⟨a,0,h⟩
 ·exact⟨_,_,h⟩
theorem zC4{St:Stb}{G:Gh}{w:World}{s:Nat}{k:Nat}{xs:List T}{p:List Nat}(h:R St G w s (.ro (.sl k xs)) p):∃a c,G.hd s p=.slice a xs.length c∧xs.length≤c∧c≤maxLen∧
   (xs≠[]→ ∃b o' cs' e fr,a=dq ⟨b,o',dt⟩∧St b=dq (.cells cs' e fr)∧RoL St xs cs' o' k):=by
 simp only[R,RoC]at h;obtain⟨a,c,h1,h2,h3,h4⟩:=h;exact⟨a,c,by simpa using h1,h2,h3,h4⟩
def zJq:T→Option Nat
 |.sl _ xs|.ro (.sl _ xs)=>dq xs.length
 |.lit (.slice _ n _)=>dq n
 |.lit (.string s)=>dq s.size
 |_=>dt
def zSD:T→TypeDesc→Bool
 |.lit (.string _),.string=>du
 |.sl _ _,.slice _|.ro (.sl _ _),.slice _|.lit (.slice _ _ _),.slice _=>du
 |_,_=>dv
theorem zPq(x:Operand)(t:TypeId)(ds:TypeDesc)(r:Nat)(q:List Nat)(u:T)(n:Nat)(ho:o.op=.call { callee:=.builtin .len,args:=#[x],argTypes:=#[t] })(gj:o.dst=dq d)(hd:d<Γ.N)
  (ht:P.underlying t=dq ds)(hx:uQ E x=dq (r,q,u))(hl:zJq u=dq n)(pb:zSD u ds=du):
  xR P Γ o E (E.app [(d,dq (.lit (.int .i64 n)))] [(d,0)]):=by
 refine tZ (.int .i64 n) rfl gj hd fun a w G gc=>?_
 have hu:u.single=du:=by cases u<;>simp[zJq]at hl<;>rfl
 obtain⟨h1,h2⟩:=sP gc hx hu;have h3:(Builtin.len_ #[t] o.type #[G.hd r q]).run P w=.ok (.int .i64 n) w:=by
  cases u with
  |sl k xs=>
   obtain⟨a',c,h4⟩:=zIw h1;simp[zJq]at hl;subst hl;cases ds<;>simp[zSD]at pb
   simp[Builtin.len_,run_underlying ht,h4,goInt]
  |ro t'=>
   cases t'<;>simp[zJq]at hl
   obtain⟨a',c,h4,_⟩:=zC4 h1;subst hl;cases ds<;>simp[zSD]at pb
   simp[Builtin.len_,run_underlying ht,h4,goInt]
  |lit v=>
   simp only[R]at h1;cases v<;>simp[zJq]at hl<;>(subst hl;cases ds<;>simp[zSD]at pb;simp[Builtin.len_,run_underlying ht,h1,goInt])
  |_=>simp[zJq]at hl
 simp[execOp,ho,resolve,invoke,builtin,h2,h3]
theorem zDi{G:Gh}{w:World}{s:Nat}{t:T}{p:List Nat}{b o:Nat}(h:Loc G w s t p b o):G.ad s p=⟨b,o,dt⟩:=by cases t<;>simp only[Loc]at h<;>first|exact h.1|exact h.elim
theorem vN(b o n:Nat):(⟨b,o,dt⟩:Addr).add n=⟨b,o+n,dt⟩:=by
 unfold Addr.add;split
 ·rename_i h;subst h;rfl
 ·rfl
theorem zSE{St:Stb}{G:Gh}{w:World}{s:Nat}{k:Nat}{xs:List T}{p:List Nat}(h:R St G w s (.sl k xs) p){i:Nat}(hi:i<xs.length):
  ∃b o0 cap,G.hd s p=.slice (dq ⟨b,o0,dt⟩) xs.length cap∧G.ad s (i::p)=⟨b,o0+i*k,dt⟩:=by
 simp only[R]at h;rcases h with⟨rfl,_⟩|⟨b,o0,cap,cs,e,h1,h2,h3,h4,h5,h6,h7,h8⟩
 ·simp at hi
 ·have:=(qU xs p 0 b o0 k i xs[i] h8 (by simp[hi])).1
  simp only[J8]at this;exact⟨b,o0,cap,h1,zDi this⟩
theorem zPr(x y:Operand)(t e:TypeId)(ti:TypeInfo)(r:Nat)(q:List Nat)(k:Nat)(xs:List T)(kd:IntKind)(i:Int)(ho:o.op=.indexAddr t x y)(gj:o.dst=dq d)(hd:d<Γ.N)
  (ht:P.underlying t=dq (.slice e))(he:P.info? e=dq ti)(hk:ti.size=k)(hx:uQ E x=dq (r,q,.sl k xs))(hy:opT E y=dq (.lit (.int kd i)))(h0:0≤i)(h1:i.toNat<xs.length):
  xR P Γ o E (E.app [(d,dq (.addr r (i.toNat::q)))] [(d,0)]):=by
 refine xR.value gj fun a w G gc=>?_
 obtain⟨g1,g2⟩:=sP gc hx rfl;have g3:=(xE gc hy).1;obtain⟨b,o0,cap,g4,g5⟩:=zSE g1 h1;refine⟨.pointer (dq (G.ad r (i.toNat::q))),w,?_,_,vD gc rfl hd (fun _=>.pointer (dq (G.ad r (i.toNat::q)))) (fun _=>rfl) _ _ (by simp[mkV,Gh.put]) (by simp[R,Gh.put]) (by simp[Top])⟩;have gF:i<(xs.length:Int):=by omega
 simp[execOp,ho,Instr.indexAt,g3,g2,g4,asIntOf,run_underlying ht,h0,gF,sizeOf,typeInfo,he,hk,vN,g5]
theorem zFt{St:Stb}:(xs:List T)→ ∀(cs:Array Value)(o k i:Nat)(x:T),RoL St xs cs o k→xs[i]? =dq x→RoC St x cs (o+i*k)
 | [],_,_,_,_,_,_,h=>by simp at h
 |y::ys,cs,o,k,i,x,hr,h=>by
  simp only[RoL]at hr;cases i with
  |zero=>simp at h;subst h;simpa using hr.1
  |succ i=>
   have:=zFt ys cs (o+k) k i x hr.2 (by simpa using h)
   rwa [show o+(i+1)*k=o+k+i*k from by rw[Kx];omega]
theorem zM5{St:Stb}:(xs:List T)→ ∀(cs:Array Value)(o i:Nat)(x:T),RoF St xs cs o→xs[i]? =dq x→RoC St x cs (o+T.sizes (xs.take i))
 | [],_,_,_,_,_,h=>by simp at h
 |y::ys,cs,o,i,x,hr,h=>by
  simp only[RoF]at hr;cases i with
  |zero=>simp at h;subst h;simpa[T.sizes]using hr.1
  |succ i=>
   have:=zM5 ys cs (o+y.size) i x hr.2 (by simpa using h)
   rwa [L7,T.sizes,←Ll]
theorem zPs(x y:Operand)(t e:TypeId)(ti:TypeInfo)(r:Nat)(q:List Nat)(k:Nat)(xs:List T)(kd:IntKind)(i:Int)(u:T)(ho:o.op=.indexAddr t x y)(gj:o.dst=dq d)(hd:d<Γ.N)
  (ht:P.underlying t=dq (.slice e))(he:P.info? e=dq ti)(hk:ti.size=k)(hx:uQ E x=dq (r,q,.ro (.sl k xs)))(hy:opT E y=dq (.lit (.int kd i)))(h0:0≤i)(h1:xs[i.toNat]? =dq u):
  xR P Γ o E (E.app [(d,dq (.ro (.ptr u)))] [(d,0)]):=by
 refine xR.value gj fun a w G gc=>?_
 obtain⟨g1,g2⟩:=sP gc hx rfl;have g3:=(xE gc hy).1;have aM:i.toNat<xs.length:=(Jb.1 h1).1;obtain⟨a',c,g4,_,_,g5⟩:=zC4 g1;obtain⟨b,o',cs',e',fr,rfl,g6,g7⟩:=g5 (by rintro rfl;simp at aM);have g8:=zFt xs cs' o' k i.toNat u g7 h1;refine⟨.pointer (dq ⟨b,o'+i.toNat*k,dt⟩),w,?_,_,vD gc rfl hd (fun _=>.pointer (dq ⟨b,o'+i.toNat*k,dt⟩)) (fun _=>rfl) _ _ (by simp[mkV,Gh.put]) ?_ (by simp[Top])⟩
 ·have gF:i<(xs.length:Int):=by omega
  simp[execOp,ho,Instr.indexAt,g3,g2,g4,asIntOf,run_underlying ht,h0,gF,sizeOf,typeInfo,he,hk,vN]
 ·simp only[R,Gh.put_self,RoC]
  exact⟨b,_,cs',e',fr,by simp,g6,g8⟩
theorem zDB:(xs:List T)→ ∀{G:Gh}{w:World}{s:Nat}(p:List Nat)(j b o i:Nat)(x:T),wJ G w s xs p j b o→xs[i]? =dq x→
  Loc G w s x ((j+i)::p) b (o+T.sizes (xs.take i))
 | [],_,_,_,_,_,_,_,_,_,_,h=>by simp at h
 |y::ys,G,w,s,p,j,b,o,i,x,hr,h=>by
  simp only[wJ]at hr;cases i with
  |zero=>simp at h;subst h;simpa[T.sizes]using hr.1
  |succ i=>
   have:=zDB ys p (j+1) b (o+y.size) i x hr.2 (by simpa using h)
   rwa [show j+(i+1)=j+1+i from by omega,L7,T.sizes,←Ll]
theorem tD{P:Program}{w:World}(a:Addr):(Instr.sureAddr (.pointer (dq a))).run P w=.ok a w:=rfl
theorem zEO{P:Program}{w:World}{S:TypeId}{fs:Array Field}{f:Field}{fi:TypeInfo}{j:Nat}{b o':Nat}(hS:P.underlying S=dq (.struct fs))(hf:fs[j]? =dq f)(hi:P.info? f.type=dq fi)(hz:fi.size≠0):
  (Instr.fieldAt S (.pointer (dq ⟨b,o',dt⟩)) j).run P w=.ok (.pointer (dq ⟨b,o'+f.offset,dt⟩)) w:=by
 simp[Instr.fieldAt,run_underlying hS,hf,tD,fieldPlace,sizeOf,typeInfo,hi,hz,vN]
theorem zXq(x:Operand)(S:TypeId)(fs:Array Field)(f:Field)(fi:TypeInfo)(j:Nat)(r:Nat)(q:List Nat)(xs:List T)(u:T)(ho:o.op=.fieldAddr S x j)(gj:o.dst=dq d)(hd:d<Γ.N)
  (hS:P.underlying S=dq (.struct fs))(hf:fs[j]? =dq f)(hi:P.info? f.type=dq fi)(hz:fi.size≠0)(hx:uQ E x=dq (r,q,.ptr (.agg xs)))(hu:xs[j]? =dq u)(gN:T.sizes (xs.take j)=f.offset):
  xR P Γ o E (E.app [(d,dq (.addr r (j::0::q)))] [(d,0)]):=by
 refine xR.value gj fun a w G gc=>?_
 obtain⟨g1,g2⟩:=sP gc hx rfl;simp only[R]at g1;obtain⟨b,cs,e,g4,_,_,_,g5,_⟩:=g1;simp only[Loc]at g5;have g6:=zDB xs (0::q) 0 b 0 j u g5.2 hu;simp only[J8]at g6;refine⟨.pointer (dq (G.ad r (j::0::q))),w,?_,_,vD gc rfl hd (fun _=>.pointer (dq (G.ad r (j::0::q)))) (fun _=>rfl) _ _ (by simp[mkV,Gh.put]) (by simp[R,Gh.put]) (by simp[Top])⟩;have g7:=zEO (w:=w) (b:=b) (o':=0) hS hf hi hz;simp[execOp,ho,g2,g4,g7,zDi g6,gN]
theorem zLs{G:Gh}{a:Act}{w:World}(gc:Rep Γ E G a.tmps w){x:Operand}{u:T}(hx:opT E x=dq (.ro u)):RoC Γ.St u #[a.eval x] 0:=by
 cases x with
 |tmp s=>
  obtain⟨h1,h2,_⟩:=gc.ent s _ hx;simp only[R]at h2;rw[xM h1,xH rfl];exact h2
 |const v=>simp only[opT]at hx;split at hx<;>simp at hx
 |func f=>simp[opT]at hx
 |global g=>simp[opT]at hx
theorem zPt(x:Operand)(S:TypeId)(fs:Array Field)(f:Field)(fi:TypeInfo)(j:Nat)(xs:List T)(u:T)(ho:o.op=.fieldAddr S x j)(gj:o.dst=dq d)(hd:d<Γ.N)
  (hS:P.underlying S=dq (.struct fs))(hf:fs[j]? =dq f)(hi:P.info? f.type=dq fi)(hz:fi.size≠0)(hx:opT E x=dq (.ro (.ptr (.agg xs))))(hu:xs[j]? =dq u)(gN:T.sizes (xs.take j)=f.offset):
  xR P Γ o E (E.app [(d,dq (.ro (.ptr u)))] [(d,0)]):=by
 refine xR.value gj fun a w G gc=>?_
 have h1:=zLs gc hx;simp only[RoC]at h1;obtain⟨b,o',cs',e,fr,h2,h3,h4⟩:=h1;have h5:=zM5 xs cs' o' j u h4 hu;refine⟨.pointer (dq ⟨b,o'+f.offset,dt⟩),w,?_,_,vD gc rfl hd (fun _=>.pointer (dq ⟨b,o'+f.offset,dt⟩)) (fun _=>rfl) _ _ (by simp[mkV,Gh.put]) ?_ (by simp[Top])⟩
 ·have g7:=zEO (w:=w) (b:=b) (o':=o') hS hf hi hz
  have h6:a.eval x=.pointer (dq ⟨b,o',dt⟩):=by simpa using h2
  simp[execOp,ho,h6,g7]
 ·simp only[R,Gh.put_self,RoC]
  exact⟨b,o'+f.offset,cs',e,fr,by simp,h3,by rw[←gN];exact h5⟩
def zEn:TypeDesc→Bool
 |.struct _|.array _ _=>du
 |_=>dv
theorem qX{P:Program}{w:World}{t:TypeId}{ds:TypeDesc}(ht:P.underlying t=dq ds):(isAgg t).run P w=.ok (zEn ds) w:=by cases ds<;>simp[isAgg,run_underlying ht,zEn]
theorem wC{G:Gh}{w:World}{s:Nat}{t:T}{p:List Nat}{b o:Nat}(ht:t.single=du)(h:Loc G w s t p b o):G.ad s p=⟨b,o,dt⟩∧G.lb b o=dq (dv,s,p)∧yH w b o=dq (G.hd s p):=by cases t<;>simp[T.single]at ht<;>simpa only[Loc]using h
mutual
theorem zPu{G:Gh}{w:World}{s:Nat}:(t:T)→ ∀(p:List Nat)(b o:Nat),Loc G w s t p b o→ ∀(i:Nat)(v:Value),(vals G s t p)[i]? =dq v→yH w b (o+i)=dq v
 |.agg xs,p,b,o,h,i,v,hv=>by simp only[Loc,vals]at h hv;exact zAx xs p 0 b o h.2 i v hv
 |.any,p,b,o,h,i,v,hv|.lit _,p,b,o,h,i,v,hv|.ro _,p,b,o,h,i,v,hv|.same _ _,p,b,o,h,i,v,hv|.addr _ _,p,b,o,h,i,v,hv|.sub _ _ _ _ _,p,b,o,h,i,v,hv|.sl _ _,p,b,o,h,i,v,hv|.ptr _,p,b,o,h,i,v,hv=>by
  simp only[Loc,vals]at h hv;cases i with
  |zero=>simp at hv;rw[←hv];exact h.2.2
  |succ i=>simp at hv
 |.tup _,_,_,_,h,_,_,_=>by simp only[Loc]at h
theorem zAx{G:Gh}{w:World}{s:Nat}:(xs:List T)→ ∀(p:List Nat)(j b o:Nat),wJ G w s xs p j b o→ ∀(i:Nat)(v:Value),(zX G s xs p j)[i]? =dq v→yH w b (o+i)=dq v
 | [],_,_,_,_,_,i,v,hv=>by simp[zX]at hv
 |x::xs,p,j,b,o,h,i,v,hv=>by
  simp only[wJ,zX]at h hv;rw[Kg]at hv;split at hv
  ·exact zPu x (j::p) b o h.1 i v hv
  ·rename_i hge
   have gm:=wF (G:=G) (s:=s) x (j::p) (fun ys e=>by subst e;simp only[Loc]at h;exact h.1);have:=zAx xs p (j+1) b (o+x.size) h.2 _ v hv
   rwa [show o+x.size+(i-(vals G s x (j::p)).length)=o+i from by omega]at this
theorem wF{G:Gh}{s:Nat}:(t:T)→ ∀(p:List Nat),(∀xs,t≠.tup xs)→(vals G s t p).length=t.size
 |.agg xs,p,_=>by simp only[vals,T.size];exact xU xs p 0
 |.any,_,_|.lit _,_,_|.ro _,_,_|.same _ _,_,_|.addr _ _,_,_|.sub _ _ _ _ _,_,_|.sl _ _,_,_|.ptr _,_,_|.tup _,_,_=>by simp[vals,T.size]
theorem xU{G:Gh}{s:Nat}:(xs:List T)→ ∀(p:List Nat)(j:Nat),(zX G s xs p j).length=T.sizes xs
 | [],_,_=>by simp[zX,T.sizes]
 |x::xs,p,j=>by
  simp only[zX,Ji,T.sizes,xU xs p (j+1)]
  by_cases hx:∃ys,x=.tup ys
  ·obtain⟨ys,rfl⟩:=hx;simp[vals,T.size]
  ·rw[wF x (j::p) (fun ys e=>hx ⟨ys,e⟩)]
end
theorem zEP{P:Program}{G:Gh}{w:World}{s:Nat}{t:T}{p:List Nat}{b o':Nat}{T':TypeId}{ds:TypeDesc}{ti:TypeInfo}(hT:P.underlying T'=dq ds)(hi:P.info? T'=dq ti)(hl:Loc G w s t p b o')
  (eV:zEn ds= !t.single)(gv:ti.size=t.size):(loadVar T' ⟨b,o',dt⟩).run P w=.ok (tM G s t p) w:=by
 cases t with
 |agg xs=>
  have h1:=run_loadCells_list (P:=P) (w:=w) ⟨b,o',dt⟩ (zX G s xs p 0) (fun j v hv=>by rw[vN];simp only[Loc]at hl;exact zAx xs p 0 b o' hl.2 j v hv)
  rw[xU]at h1;simp only[T.size]at gv;simp[T.single]at eV;simp[loadVar,qX hT,eV,sizeOf,typeInfo,hi,gv,h1,tM]
 |tup xs=>simp only[Loc]at hl
 |_=>
  have h1:=(wC rfl hl).2.2;simp[T.single]at eV;simp only[yH]at h1;simp[loadVar,qX hT,eV,load,Sem.run,h1,tM]
def zBK(Γ:Ctx)(E:Env)(x:Operand)(r:Nat)(q:List Nat):Prop:=∀(a:Act)(w:World)(G:Gh),Rep Γ E G a.tmps w→a.eval x=.pointer (dq (G.ad r q))
theorem zBK.addr{x:Operand}{r:Nat}{q:List Nat}(hx:opT E x=dq (.addr r q)):zBK Γ E x r q:=fun a w G gc=>by
 cases x with
 |tmp s=>
  obtain⟨h1,h2,_⟩:=gc.ent s _ hx;simp only[R]at h2;rw[xM h1];exact h2
 |const v=>simp only[opT]at hx;split at hx<;>simp at hx
 |func f=>simp[opT]at hx
 |global g=>simp[opT]at hx
theorem zBK.ptr{x:Operand}{r:Nat}{q:List Nat}{t:T}(hx:uQ E x=dq (r,q,.ptr t)):zBK Γ E x r (0::q):=fun a w G gc=>by obtain⟨g1,g2⟩:=sP gc hx rfl;simp only[R]at g1;obtain⟨b,cs,e,g4,_,_,_,g5,_⟩:=g1;rw[g2,g4,zDi g5]
theorem zJr(x:Operand)(T':TypeId)(ds:TypeDesc)(ti:TypeInfo)(r:Nat)(q:List Nat)(t u:T)(ho:o.op=.load T' x)(gj:o.dst=dq d)(hd:d<Γ.N)
  (hT:P.underlying T'=dq ds)(hi:P.info? T'=dq ti)(eV:zEn ds= !u.single)(gv:ti.size=u.size)
  (hx:zBK Γ E x r q)(hr:E r=dq t)(hg:t.get q.reverse=dq u)(hl:t.locd q.reverse=du)(gO:r≠d)(gH:T.okB [(d,0)] (cpT r u q)=du):
  xR P Γ o E (E.app [(d,dq (cpT r u q))] [(d,0)]):=by
 refine xR.value gj fun a w G gc=>?_
 have mi:=hx a w G gc;obtain⟨_,h4,_⟩:=gc.ent r _ hr;obtain⟨h5,h6⟩:=zBU q.reverse t u [] h4 hg;obtain⟨b,o',cs,e,h6,_,_⟩:=h6 hl;simp only[rp,Ks,Jk]at h5 h6;have gX:∀xs,u≠.tup xs:=by rintro xs rfl;simp only[Loc]at h6
 have h7:=zDi h6;have hz:∀z,(G.put d (fun z=>G.hd r (z++q))).hd d (z++[])=G.hd r (z++q):=fun z=>by rw[Gh.put_self,Jk]
 have hk:=G.put_keep (w:=w) (w':=w) rfl d (fun z=>G.hd r (z++q));refine⟨tM G r u q,w,?_,_,vD gc rfl hd (fun z=>G.hd r (z++q)) (fun z=>gc.mem.one _ _) _ _ (zA1 u q [] gX hz).symm
  (zDg (fun p=>G.put_other _ p gO) u q [] hz gX (hk.keepR (zAN _ (sL r u q) gH)) h5) (sL r u q)⟩
 have h8:=zEP (T':=T') hT hi h6 eV gv;simp[execOp,ho,mi,h7,Instr.loadAt,tD,h8]
theorem zSF(x:Operand)(T':TypeId)(ds:TypeDesc)(ti:TypeInfo)(r:Nat)(q:List Nat)(t u:T)(ho:o.op=.load T' x)(gj:o.dst=dq d)(hd:d<Γ.N)
  (hT:P.underlying T'=dq ds)(hi:P.info? T'=dq ti)(eV:zEn ds= !u.single)(gv:ti.size=u.size)
  (hx:opT E x=dq (.addr r q))(hr:E r=dq t)(hg:t.get q.reverse=dq u)(hl:t.locd q.reverse=du)(gO:r≠d)(gH:T.okB [(d,0)] (cpT r u q)=du):
  xR P Γ o E (E.app [(d,dq (cpT r u q))] [(d,0)]):=zJr x T' ds ti r q t u ho gj hd hT hi eV gv (zBK.addr hx) hr hg hl gO gH
def roT:T→T
 |.lit v=>.lit v
 |.agg xs=>.agg (roTs xs)
 |.ro t=>.ro (.ro t)
 |.any=>.any
 |.same r q=>.ro (.same r q)
 |.addr r q=>.ro (.addr r q)
 |.sub r q k lo hi=>.ro (.sub r q k lo hi)
 |.sl k xs=>.ro (.sl k xs)
 |.ptr t=>.ro (.ptr t)
 |.tup xs=>.ro (.tup xs)
where roTs:List T→List T
 | []=>[]
 |x::xs=>roT x::roTs xs
end
end Go.Ab

namespace Go.Ab
open Go
def qY(v:Value):Value:=if v.oneCell' then v else .bool dv
theorem zBi(v:Value):(qY v).oneCell'=du:=by
 unfold qY;split
 ·assumption
 ·rfl
theorem zAp{v:Value}(h:v.oneCell'=du):qY v=v:=by simp[qY,h]
def zDj:T→Array Value→Nat→List Nat→Value
 |.agg xs,cs,o,i::f=>match xs[i]? with
  |some x=>zDj x cs (o+T.sizes (xs.take i)) f
  |none=>.bool dv
 |_,cs,o,_=>cs.getD o (.bool dv)
termination_by structural _ _ _ f=>f
theorem zAP{t:T}(h:t.single=du)(cs:Array Value)(o:Nat)(f:List Nat):zDj t cs o f=cs.getD o (.bool dv):=by cases t<;>simp[T.single]at h<;>cases f<;>rfl
mutual
theorem zDC:(u:T)→(∀xs,u≠.tup xs)→(roT u).size=u.size
 |.agg xs,_=>by simp only[roT,T.size];exact zEo xs
 |.lit _,_|.any,_|.sl _ _,_|.ptr _,_|.ro _,_|.same _ _,_|.addr _ _,_|.sub _ _ _ _ _,_|.tup _,_=>by simp[roT,T.size]
theorem zEo:(xs:List T)→T.sizes (roT.roTs xs)=T.sizes xs
 | []=>by simp only[roT.roTs]
 |x::xs=>by
  simp only[roT.roTs,T.sizes,zEo xs]
  by_cases hx:∃ys,x=.tup ys
  ·obtain⟨ys,rfl⟩:=hx;simp[roT,T.size]
  ·rw[zDC x (fun ys e=>hx ⟨ys,e⟩)]
end
section
variable {St:Stb}{G:Gh}{w:World}{d:Nat}
theorem zFG{u:T}{cs:Array Value}{o:Nat}(hu:u.single=du)(h:RoC St u cs o):∃v,cs[o]? =dq v∧v.oneCell'=du∧RoC St u #[v] 0:=by
 cases u<;>simp[T.single]at hu<;>simp only[RoC]at h ⊢
 ·obtain⟨v,h1,h2⟩:=h;exact⟨v,h1,h2,v,by simp,h2⟩
 ·exact⟨_,h.1,h.2,by simp,h.2⟩
 ·obtain⟨f,vs,h1,h2⟩:=h;exact⟨_,h1,rfl,f,vs,by simp,h2⟩
 ·obtain⟨a,c,h1,h2⟩:=h;exact⟨_,h1,rfl,a,c,by simp,h2⟩
 ·obtain⟨b,o',cs',e,fr,h1,h2⟩:=h;exact⟨_,h1,rfl,b,o',cs',e,fr,by simp,h2⟩
mutual
theorem zPv:(u:T)→ ∀(cs:Array Value)(o:Nat)(p:List Nat),(∀z,G.hd d (z++p)=qY (zDj u cs o z.reverse))→RoC St u cs o→R St G w d (roT u) p
 |.agg xs,cs,o,p,hd,h=>by
  simp only[roT,R,RoC]at h ⊢
  exact zPw xs cs o p 0 o (by simp) (fun z j x hx=>by have:=hd (z++[j]);simp only[Jh,Gi,Jy,Up,Hp,H2,zDj]at this;rw[J8,this];simp[hx]) h
 |.lit v,cs,o,p,hd,h=>by
  simp only[roT,R,RoC]at h ⊢
  have:=hd [];rw[Jy,zAP rfl]at this;rw[this];simp[Kc,h.1,zAp h.2]
 |.any,_,_,_,_,_=>by simp only[roT,R]
 |.ro _,cs,o,p,hd,h|.sl _ _,cs,o,p,hd,h|.ptr _,cs,o,p,hd,h=>by obtain⟨v,h1,h2,h3⟩:=zFG rfl h;have:=hd [];rw[Jy,zAP rfl]at this;simp only[roT,R];rw[this];simpa[Kc,h1,zAp h2]using h3
 |.same _ _,_,_,_,_,h|.addr _ _,_,_,_,_,h|.sub _ _ _ _ _,_,_,_,_,h|.tup _,_,_,_,_,h=>by simp only[RoC]at h
theorem zPw:(xs:List T)→ ∀(cs:Array Value)(o0:Nat)(p:List Nat)(j o:Nat),o0≤o→(∀z i x,xs[i]? =dq x→G.hd d (z++((j+i)::p))=qY (zDj x cs (o+T.sizes (xs.take i)) z.reverse))→RoF St xs cs o→RF St G w d (roT.roTs xs) p j
 | [],_,_,_,_,_,_,_,_=>by simp only[roT.roTs,RF]
 |x::xs,cs,o0,p,j,o,ho,hd,h=>by
  simp only[roT.roTs,RF,RoF]at h ⊢
  refine⟨zPv x cs o (j::p) (fun z=>by simpa[T.sizes]using hd z 0 x (by simp)) h.1,zPw xs cs o0 p (j+1) (o+x.size) (by omega) (fun z i y hy=>?_) h.2⟩;have:=hd z (i+1) y (by simpa using hy);simp only[L7,T.sizes]at this;rw[show j+1+i=j+(i+1)from by omega,show o+x.size+T.sizes (xs.take i)=o+(x.size+T.sizes (xs.take i))from Ll ..];exact this
end
mutual
theorem zFH:(u:T)→ ∀(cs:Array Value)(o:Nat)(p:List Nat),(∀z,G.hd d (z++p)=qY (zDj u cs o z.reverse))→RoC St u cs o→ ∀(i:Nat)(v:Value),(vals G d (roT u) p)[i]? =dq v→cs[o+i]? =dq v
 |.agg xs,cs,o,p,hd,h,i,v,hv=>by
  simp only[roT,vals,RoC]at h hv;exact zH1 xs cs p 0 o (fun z j x hx=>by have:=hd (z++[j]);simp only[Jh,Gi,Jy,Up,Hp,H2,zDj]at this;rw[J8,this];simp[hx]) h i v hv
 |.lit _,cs,o,p,hd,h,i,v,hv|.ro _,cs,o,p,hd,h,i,v,hv|.any,cs,o,p,hd,h,i,v,hv|.sl _ _,cs,o,p,hd,h,i,v,hv|.ptr _,cs,o,p,hd,h,i,v,hv=>by
  obtain⟨v',h1,h2,h3⟩:=zFG rfl h;have:=hd [];rw[Jy,zAP rfl]at this;simp only[roT,vals]at hv;cases i with
  |zero=>
   simp at hv;rw[←hv,this];simp[Kc,h1,zAp h2]
  |succ i=>simp at hv
 |.same _ _,_,_,_,_,h,_,_,_|.addr _ _,_,_,_,_,h,_,_,_|.sub _ _ _ _ _,_,_,_,_,h,_,_,_|.tup _,_,_,_,_,h,_,_,_=>by simp only[RoC]at h
theorem zH1:(xs:List T)→ ∀(cs:Array Value)(p:List Nat)(j o:Nat),(∀z i x,xs[i]? =dq x→G.hd d (z++((j+i)::p))=qY (zDj x cs (o+T.sizes (xs.take i)) z.reverse))→RoF St xs cs o→ ∀(i:Nat)(v:Value),(zX G d (roT.roTs xs) p j)[i]? =dq v→cs[o+i]? =dq v
 | [],_,_,_,_,_,_,i,v,hv=>by simp[roT.roTs,zX]at hv
 |x::xs,cs,p,j,o,hd,h,i,v,hv=>by
  simp only[roT.roTs,zX,RoF]at h hv;have hx:∀z,G.hd d (z++(j::p))=qY (zDj x cs o z.reverse):=fun z=>by simpa[T.sizes]using hd z 0 x (by simp)
  have gm:(vals G d (roT x) (j::p)).length=x.size:=by have hs:(roT x).size=x.size:=zDC x (fun ys e=>by subst e;simp only[RoC]at h;exact h.1);rw[wF (roT x) (j::p) (fun ys e=>by cases x<;>simp[roT]at e),hs]
  rw[Kg]at hv;split at hv
  ·exact zFH x cs o (j::p) hx h.1 i v hv
  ·have:=zH1 xs cs p (j+1) (o+x.size) (fun z i y hy=>by
    have:=hd z (i+1) y (by simpa using hy);simp only[L7,T.sizes]at this;rw[show j+1+i=j+(i+1)from by omega,show o+x.size+T.sizes (xs.take i)=o+(x.size+T.sizes (xs.take i))from Ll ..];exact this) h.2 _ v hv
   rwa [gm,show o+x.size+(i-x.size)=o+i from by omega]at this
end
mutual
theorem zM6:(u:T)→Top (roT u)
 |.agg xs=>by simp only[roT,Top];exact zJs xs
 |.lit _|.any|.sl _ _|.ptr _|.ro _|.same _ _|.addr _ _|.sub _ _ _ _ _|.tup _=>by simp[roT,Top]
theorem zJs:(xs:List T)→vS (roT.roTs xs)
 | []=>by simp only[roT.roTs,vS]
 |x::xs=>by simp only[roT.roTs,vS];exact⟨zM6 x,zJs xs⟩
end
end
section
variable {P:Program}{Γ:Ctx}{E:Env}{o:Oper}{d:Nat}
theorem zM7{G:Gh}{w:World}(hm:Mem Γ G w){b:Nat}{cs:Array Value}{e:TypeId}{fr:Nat×Nat}(h:Γ.St b=dq (.cells cs e fr))(i:Nat):w.cell? ⟨b,i,dt⟩=cs[i]?:=by simp[World.cell?,hm.st b _ h]
theorem zLt(x:Operand)(T':TypeId)(ds:TypeDesc)(ti:TypeInfo)(u:T)(ho:o.op=.load T' x)(gj:o.dst=dq d)(hd:d<Γ.N)
  (hT:P.underlying T'=dq ds)(hi:P.info? T'=dq ti)(eV:zEn ds= !u.single)(gv:ti.size=u.size)
  (hx:opT E x=dq (.ro (.ptr u))):xR P Γ o E (E.app [(d,dq (roT u))] [(d,0)]):=by
 refine xR.value gj fun a w G gc=>?_
 have h1:=zLs gc hx;simp only[RoC]at h1;obtain⟨b,o',cs',e,fr,h2,h3,h4⟩:=h1;have fE:a.eval x=.pointer (dq ⟨b,o',dt⟩):=by simpa using h2
 have gX:∀xs,u≠.tup xs:=by rintro xs rfl;simp only[RoC]at h4
 let f:List Nat→Value:=fun z=>qY (zDj u cs' o' z.reverse)
 have hz:∀z,(G.put d f).hd d (z++[])=qY (zDj u cs' o' z.reverse):=fun z=>by rw[Gh.put_self,Jk]
 refine⟨mkV (G.put d f) d (roT u) [],w,?_,_,vD gc rfl hd f (fun z=>zBi _) _ _ rfl (zPv u cs' o' [] hz h4) (zM6 u)⟩;cases u with
 |agg xs=>
  have h5:∀j v,(zX (G.put d f) d (roT.roTs xs) [] 0)[j]? =dq v→w.cell? ((⟨b,o',dt⟩:Addr).add j)=dq v:=by intro j v hv;rw[vN,zM7 gc.mem h3];exact zFH (.agg xs) cs' o' [] hz h4 j v (by simpa only[roT,vals]using hv)
  have h6:=run_loadCells_list (P:=P) (w:=w) ⟨b,o',dt⟩ _ h5;rw[xU,zEo]at h6;simp only[T.size]at gv;simp[T.single]at eV;simp[execOp,ho,fE,Instr.loadAt,tD,loadVar,qX hT,eV,sizeOf,typeInfo,hi,gv,h6,mkV,roT]
 |tup xs=>exact absurd rfl (gX xs)
 |_=>
  obtain⟨v,h5,h6,h7⟩:=zFG rfl h4;have h8:w.cell? ⟨b,o',dt⟩=dq v:=by rw[zM7 gc.mem h3];exact h5
  simp[T.single]at eV;have h9:f []=v:=by show qY (zDj _ cs' o' _)=v;rw[zAP rfl];simp[Kc,h5,zAp h6]
  simp[execOp,ho,fE,Instr.loadAt,tD,loadVar,qX hT,eV,load,Sem.run,h8,mkV,roT,Gh.put_self,h9]
def zEQ(E:Env)(x:Operand):Bool:=
 match opT E x with
 |some (.addr _ _)|some (.ro (.ptr _))=>du
 |_=>match uQ E x with
  |some (_,_,.ptr _)=>du
  |some (_,_,.ro (.ptr _))=>du
  |_=>dv
theorem zPx{G:Gh}{a:Act}{w:World}(gc:Rep Γ E G a.tmps w){x:Operand}(h:zEQ E x=du):∃ad,a.eval x=.pointer (dq ad):=by
 unfold zEQ at h;split at h
 ·rename_i r q hx
  cases x with
  |tmp s=>
   obtain⟨h1,h2,_⟩:=gc.ent s _ hx;simp only[R]at h2;exact⟨_,by rw[xM h1,xH rfl,h2]⟩
  |const v=>simp only[opT]at hx;split at hx<;>simp at hx
  |func f=>simp[opT]at hx
  |global g=>simp[opT]at hx
 ·rename_i u hx
  have:=zLs gc hx;simp only[RoC]at this;obtain⟨b,o',_,_,_,h1,_⟩:=this;exact⟨_,by simpa using h1⟩
 ·split at h
  ·rename_i hl
   obtain⟨h1,h2⟩:=sP gc hl rfl;simp only[R]at h1;obtain⟨b,cs,e,h3,_⟩:=h1;exact⟨_,by rw[h2,h3]⟩
  ·rename_i hl
   obtain⟨h1,h2⟩:=sP gc hl rfl;simp only[R,RoC]at h1;obtain⟨b,o',_,_,_,h3,_⟩:=h1;exact⟨_,by rw[h2];simpa using h3⟩
  ·cases h
theorem zV8(x:Operand)(t:T)(ho:o.op=.nilCheck x)(gj:o.dst=dq d)(hd:d<Γ.N)(hx:opT E x=dq t)(hp:zEQ E x=du)(ht:∀xs,t≠.tup xs)
  (gf:∀s,x=.tmp s→s≠d)(gH:T.okB [(d,0)] (uE x t)=du):xR P Γ o E (E.app [(d,dq (uE x t))] [(d,0)]):=by
 refine xR.value gj fun a w G gc=>?_
 obtain⟨f,hf,h1,h2⟩:=opd gc hx ht;obtain⟨h3,h4⟩:=h1 d gf gH;obtain⟨ad,h5⟩:=zPx gc hp;refine⟨a.eval x,w,?_,_,vD gc rfl hd f hf _ _ h3 h4 h2⟩;simp[execOp,ho,h5]
theorem zJt{G:Gh}{s:Nat}:(xs:List T)→ ∀(p:List Nat)(j i:Nat)(x:T),xs[i]? =dq x→(kX G s xs p j)[i]? =dq (tM G s x ((j+i)::p))
 | [],_,_,_,_,h=>by simp at h
 |y::ys,p,j,i,x,h=>by
  cases i with
  |zero=>simp at h;subst h;simp[kX]
  |succ i=>
   have:=zJt (G:=G) (s:=s) ys p (j+1) i x (by simpa using h);rw[show j+(i+1)=j+1+i from by omega];simpa[kX]using this
theorem zLu(s i:Nat)(ts:List T)(t:T)(ho:o.op=.extract (.tmp s) i)(gj:o.dst=dq d)(hd:d<Γ.N)(hs:E s=dq (.tup ts))(hi:ts[i]? =dq t)(ht:∀xs,t≠.tup xs)
  (gf:s≠d)(gH:T.okB [(d,0)] (cpT s t [i])=du):xR P Γ o E (E.app [(d,dq (cpT s t [i]))] [(d,0)]):=by
 refine xR.value gj fun a w G gc=>?_
 obtain⟨h1,h2,_⟩:=gc.ent s _ hs;simp only[R]at h2;have h3:=zAW ts [] 0 i t h2 hi;simp only[J8]at h3;have h4:=zJt (G:=G) (s:=s) ts [] 0 i t hi;simp only[J8]at h4;have hk:=G.put_keep (w:=w) (w':=w) rfl d (fun z=>G.hd s (z++[i]));have hz:∀z,(G.put d (fun z=>G.hd s (z++[i]))).hd d (z++[])=G.hd s (z++[i]):=fun z=>by rw[Gh.put_self,Jk]
 refine⟨tM G s t [i],w,?_,_,vD gc rfl hd (fun z=>G.hd s (z++[i])) (fun z=>gc.mem.one _ _) _ _ (zA1 t [i] [] ht hz).symm
  (zDg (fun p=>G.put_other _ p gf) t [i] [] hz ht (hk.keepR (zAN _ (sL s t [i]) gH)) h3) (sL s t [i])⟩
 simp[execOp,ho,xM h1,mkV,Instr.extract,h4]
def kZ(E:Env)(x:Option Operand)(dflt n:Nat):Prop:=
 match x with
 |none=>n=dflt
 |some y=> ∃kd,opT E y=dq (.lit (.int kd n))
theorem zFI{St:Stb}:(xs:List T)→ ∀(cs:Array Value)(o k l:Nat),RoL St xs cs o k→RoL St (xs.drop l) cs (o+l*k) k
 | [],_,_,_,_,_=>by simp[RoL]
 |x::xs,cs,o,k,l,h=>by
  cases l with
  |zero=>simpa using h
  |succ l=>
   simp only[RoL]at h;have:=zFI xs cs (o+k) k l h.2
   rwa [List.drop_succ_cons,show o+(l+1)*k=o+k+l*k from by rw[Kx];omega]
theorem zFJ{St:Stb}:(xs:List T)→ ∀(cs:Array Value)(o k l:Nat),RoL St xs cs o k→RoL St (xs.take l) cs o k
 | [],_,_,_,_,_=>by simp[RoL]
 |x::xs,cs,o,k,l,h=>by
  cases l with
  |zero=>simp[RoL]
  |succ l=>simp only[RoL,L7]at h ⊢;exact⟨h.1,zFJ xs cs _ k l h.2⟩
theorem sY{P:Program}{G:Gh}{a:Act}{w:World}(gc:Rep Γ E G a.tmps w){x:Operand}{kd:IntKind}{n y:Nat}{c:BoundsCode}(hx:opT E x=dq (.lit (.int kd n)))(h:n≤y):
  (Instr.sliceBound (a.eval x) y c).run P w=.ok n w:=by
 rw[(xE gc hx).1];have:(n:Int)≤(y:Int):=by omega
 simp[Instr.sliceBound,asIntOf,this]
theorem zFK{P:Program}{G:Gh}{a:Act}{w:World}(gc:Rep Γ E G a.tmps w){lo hi:Option Operand}{l h n c:Nat}(gY:kZ E lo 0 l)(ef:kZ E hi n h)(h1:l≤h)(h2:h≤c):
  (Instr.sliceBounds du n c (lo.map a.eval) (hi.map a.eval) dt).run P w=.ok (l,h,c) w:=by
 cases lo with
 |none=>
  cases hi with
  |none=>simp only[kZ]at gY ef;subst gY;subst ef;simp[Instr.sliceBounds]
  |some y=>simp only[kZ]at gY ef;obtain⟨kd,hy⟩:=ef;subst gY;simp[Instr.sliceBounds,sY gc hy h2]
 |some x=>
  obtain⟨kd,hx⟩:=gY;cases hi with
  |none=>simp only[kZ]at ef;subst ef;simp[Instr.sliceBounds,sY gc hx h1]
  |some y=>obtain⟨kd',hy⟩:=ef;simp[Instr.sliceBounds,sY gc hy h2,sY gc hx h1]
theorem zJu(x:Operand)(lo hi:Option Operand)(t e:TypeId)(ti:TypeInfo)(r:Nat)(q:List Nat)(k:Nat)(xs:List T)(l h:Nat)(ho:o.op=.slice t x lo hi dt)(gj:o.dst=dq d)(hd:d<Γ.N)
  (ht:P.underlying t=dq (.slice e))(he:P.info? e=dq ti)(hk:ti.size=k)(hx:uQ E x=dq (r,q,.ro (.sl k xs)))(gY:kZ E lo 0 l)(ef:kZ E hi xs.length h)(h1:l≤h)(h2:h≤xs.length):
  xR P Γ o E (E.app [(d,dq (.ro (.sl k ((xs.drop l).take (h-l)))))] [(d,0)]):=by
 refine xR.value gj fun a w G gc=>?_
 obtain⟨g1,g2⟩:=sP gc hx rfl;obtain⟨a',c,g4,g5,g6,g7⟩:=zC4 g1;have g8:=zFK (P:=P) gc gY ef h1 (H6 h2 g5);have gm:((xs.drop l).take (h-l)).length=h-l:=by simp;omega
 refine⟨.slice (if c=l then a' else a'.map (·.add (l*k))) (h-l) (c-l),w,?_,_,vD gc rfl hd (fun _=>.slice (if c=l then a' else a'.map (·.add (l*k))) (h-l) (c-l)) (fun _=>rfl) _ _ (by simp[mkV,Gh.put]) ?_ (by simp[Top])⟩
 ·simp only[execOp,ho,Qf]
  simp[Instr.sliceAt,Instr.slice,run_underlying ht,g2,g4,g8,sizeOf,typeInfo,he,hk]
 ·simp only[R,Gh.put_self,RoC]
  refine⟨_,_,by rw[gm];rfl,by omega,by omega,?_⟩;intro gf;have ex:xs≠[]:=by rintro rfl;simp at gf
  obtain⟨b,o',cs',e',fr,rfl,h3,h4⟩:=g7 ex;have gJ:c≠l:=by rintro rfl;apply gf;apply K4;omega
  exact⟨b,o'+l*k,cs',e',fr,by simp[gJ,vN],h3,zFJ _ _ _ _ _ (zFI _ _ _ _ _ h4)⟩
theorem zIx(x:Operand)(lo hi:Option Operand)(t e:TypeId)(ti:TypeInfo)(r:Nat)(q:List Nat)(k:Nat)(xs:List T)(l h:Nat)(ho:o.op=.slice t x lo hi dt)(gj:o.dst=dq d)(hd:d<Γ.N)
  (ht:P.underlying t=dq (.slice e))(he:P.info? e=dq ti)(hk:ti.size=k)(hx:uQ E x=dq (r,q,.sl k xs))(gY:kZ E lo 0 l)(ef:kZ E hi xs.length h)(h1:l≤h)(h2:h≤xs.length)(gO:r≠d):
  xR P Γ o E (E.app [(d,dq (.sub r q k l h))] [(d,0)]):=by
 refine xR.value gj fun a w G gc=>?_
 obtain⟨g1,g2⟩:=sP gc hx rfl;obtain⟨a',c,g4⟩:=zIw g1;have g5:xs.length≤c:=by
  simp only[R]at g1;rcases g1 with⟨rfl,_⟩|⟨b,o0,cap,cs,e,g,_,g',_⟩
  ·simp
  ·rw[g4]at g;simp at g;omega
 have g8:=zFK (P:=P) gc gY ef h1 (H6 h2 g5);refine⟨zBg (G.hd r q) k l h,w,?_,_,vD gc rfl hd (fun _=>zBg (G.hd r q) k l h) (fun _=>by rw[g4];rfl) _ _ (by simp[mkV,Gh.put]) ?_ (by simp[Top])⟩
 ·simp only[execOp,ho,Qf]
  simp[Instr.sliceAt,Instr.slice,run_underlying ht,g2,g4,g8,sizeOf,typeInfo,he,hk,zBg]
 ·simp only[R,Gh.put_self]
  rw[Gh.put_other _ _ _ gO]
end
end Go.Ab

namespace Go.Ab
open Go
def T.inT:T→List Nat→Bool
 |_,[]=>du
 |.agg xs,i::f=>match xs[i]? with
  |some x=>x.inT f
  |none=>dv
 |.any,_::_|.lit _,_::_|.ro _,_::_|.same _ _,_::_|.addr _ _,_::_|.sub _ _ _ _ _,_::_|.sl _ _,_::_|.ptr _,_::_|.tup _,_::_=>dv
termination_by structural _ f=>f
def T.offT:T→List Nat→Nat
 |_,[]=>0
 |.agg xs,i::f=>match xs[i]? with
  |some x=>T.sizes (xs.take i)+x.offT f
  |none=>0
 |.any,_::_|.lit _,_::_|.ro _,_::_|.same _ _,_::_|.addr _ _,_::_|.sub _ _ _ _ _,_::_|.sl _ _,_::_|.ptr _,_::_|.tup _,_::_=>0
termination_by structural _ f=>f
theorem zFL{t:T}(h:t.single=du){f:List Nat}(hf:f≠[]):t.inT f=dv:=by
 cases f with
 |nil=>grind
 |cons i f=>cases t<;>simp[T.single]at h<;>rfl
mutual
def zPy:T→List Nat→Nat→Option (List Nat)
 |.agg xs,p,o=>zBW xs p 0 o
 |.any,p,o|.lit _,p,o|.ro _,p,o|.same _ _,p,o|.addr _ _,p,o|.sub _ _ _ _ _,p,o|.sl _ _,p,o|.ptr _,p,o|.tup _,p,o=>if o=0 then dq p else dt
def zBW:List T→List Nat→Nat→Nat→Option (List Nat)
 | [],_,_,_=>dt
 |x::xs,p,j,o=>if o<x.size then zPy x (j::p) o else zBW xs p (j+1) (o-x.size)
end
mutual
def T.okTup:T→Bool
 |.tup _=>dv
 |.agg xs=>yI xs
 |.any|.lit _|.ro _|.same _ _|.addr _ _|.sub _ _ _ _ _|.sl _ _|.ptr _=>du
def yI:List T→Bool
 | []=>du
 |x::xs=>x.okTup&&yI xs
end
theorem zDk:(xs:List T)→ ∀(p:List Nat)(j o:Nat),T.sizes xs≤o→zBW xs p j o=dt
 | [],_,_,_,_=>by rfl
 |x::xs,p,j,o,h=>by simp only[T.sizes]at h;simp only[zBW];rw[if_neg (by omega)];exact zDk xs p (j+1) _ (by omega)
section
variable {G:Gh}{w:World}{d:Nat}
mutual
theorem zV9:(x:T)→ ∀(p:List Nat)(B o:Nat),(∀xs,x≠.tup xs)→x.okTup=du→
  (∀f,x.inT f=du→G.ad d (f.reverse++p)=⟨B,o+x.offT f,dt⟩)→(∀j p',j<x.size→zPy x p j=dq p'→G.lb B (o+j)=dq (dv,d,p'))→
  (∀j v,(vals G d x p)[j]? =dq v→yH w B (o+j)=dq v)→Loc G w d x p B o
 |.agg xs,p,B,o,_,hn,ha,hl,hc=>by
  simp only[Loc];refine⟨by simpa[T.offT]using ha [] rfl,zFu xs p 0 B o (by grind[T.okTup]) (fun i x hx f hf=>?_) (fun j p' hj hp=>?_) (by grind[vals])⟩
  ·have:=ha (i::f) (by grind[T.inT])
   grind[T.offT]
  grind[T.size,zPy]
 |.any,p,B,o,_,_,ha,hl,hc|.lit _,p,B,o,_,_,ha,hl,hc|.ro _,p,B,o,_,_,ha,hl,hc|.same _ _,p,B,o,_,_,ha,hl,hc|.addr _ _,p,B,o,_,_,ha,hl,hc|.sub _ _ _ _ _,p,B,o,_,_,ha,hl,hc|.sl _ _,p,B,o,_,_,ha,hl,hc|.ptr _,p,B,o,_,_,ha,hl,hc=>by simp only[Loc];exact⟨by simpa[T.offT]using ha [] rfl,by simpa using hl 0 p (by simp[T.size]) (by rfl),by simpa using hc 0 (G.hd d p) (by simp[vals])⟩
 |.tup xs,_,_,_,h,_,_,_,_=>absurd rfl (h xs)
theorem zFu:(xs:List T)→ ∀(p:List Nat)(j B o:Nat),yI xs=du→
  (∀i x,xs[i]? =dq x→ ∀f,x.inT f=du→G.ad d (f.reverse++((j+i)::p))=⟨B,o+(T.sizes (xs.take i)+x.offT f),dt⟩)→
  (∀i p',i<T.sizes xs→zBW xs p j i=dq p'→G.lb B (o+i)=dq (dv,d,p'))→
  (∀i v,(zX G d xs p j)[i]? =dq v→yH w B (o+i)=dq v)→wJ G w d xs p j B o
 | [],_,_,_,_,_,_,_,_=>by simp only[wJ]
 |x::xs,p,j,B,o,hn,ha,hl,hc=>by
  simp only[yI,J2]at hn;have gX:∀ys,x≠.tup ys:=by rintro ys rfl;grind[T.okTup]
  simp only[wJ];refine⟨zV9 x (j::p) B o gX hn.1 (fun f hf=>by simpa[T.sizes]using ha 0 x (by simp) f hf) (fun i p' hi hp=>hl i p' (by grind[T.sizes]) (by simp only[zBW,hi,if_true];exact hp)) (fun i v hv=>hc i v ?_),
   zFu xs p (j+1) B (o+x.size) hn.2 (fun i y hy f hf=>?_) (fun i p' hi hp=>?_) (fun i v hv=>?_)⟩
  ·grind[zX]
  ·have:=ha (i+1) y (by grind) f hf
   grind[T.sizes]
  ·have:=hl (x.size+i) p' (by grind[T.sizes]) (by simp only[zBW];grind)
   grind
  ·have:=hc (x.size+i) v (by
    grind[zX,wF])
   grind
end
end
structure MvC (G:Gh) (w:World) (G':Gh) (w':World) (s:Nat) (p:List Nat) (s':Nat) (p':List Nat) (t:T):Prop where
 hd:∀z,G'.hd s' (z++p')=G.hd s (z++p)
 ad:∀z,t.inT z.reverse=dv→G'.ad s' (z++p')=G.ad s (z++p)
 lb:∀b o f z,(f=du∨t.inT z.reverse=dv)→G.lb b o=dq (f,s,z++p)→G'.lb b o=dq (f,s',z++p')∧yH w' b o=yH w b o
 ow:∀b z,G.ow b=dq (s,z++p)→G'.ow b=dq (s',z++p')
 blk:Blk w w'
section
variable {St:Stb}{G:Gh}{w:World}{G':Gh}{w':World}{s:Nat}{s':Nat}
theorem MvC.moves{p p':List Nat}{t:T}(h:MvC G w G' w' s p s' p' t)(ht:t.single=du):zHy G w G' w' s p s' p' where
 hd:=h.hd
 ad z hz:=h.ad z (zFL ht (by simp_all))
 lb b o f z hz _ hl:=h.lb b o f z (.inr (zFL ht (by simp_all))) hl
 ow b z _ hl:=h.ow b z hl
 blk:=h.blk
 sp b o _ hl:=by simpa using h.lb b o du [] (.inl rfl) (by grind)
 ow0 b hl:=by simpa using h.ow b [] (by grind)
theorem MvC.field{p p':List Nat}{xs:List T}(h:MvC G w G' w' s p s' p' (.agg xs)){j:Nat}{x:T}(hx:xs[j]? =dq x):MvC G w G' w' s (j::p) s' (j::p') x where
 hd z:=by have:=h.hd (z++[j]);grind
 ad z hz:=by
  have:=h.ad (z++[j]) (by grind[T.inT])
  grind
 lb b o f z hf hl:=by
  have:=h.lb b o f (z++[j]) (by grind[T.inT]) (by grind)
  grind
 ow b z hl:=by
  have:=h.ow b (z++[j]) (by grind)
  grind
 blk:=h.blk
mutual
theorem zJv:(t:T)→ ∀(p p':List Nat),t.okTup=du→MvC G w G' w' s p s' p' t→yM (zAl G G') t→R St G w s t p→R St G' w' s' t p'
 |.agg xs,p,p',hn,h,hk,hr=>by
  simp only[R,yM,T.okTup]at hr hk hn ⊢
  exact zPz xs p p' 0 hn (fun j x hx=>by rw[J8];exact h.field hx) hk hr
 |.any,p,p',_,h,hk,hr|.lit _,p,p',_,h,hk,hr|.ro _,p,p',_,h,hk,hr|.same _ _,p,p',_,h,hk,hr|.addr _ _,p,p',_,h,hk,hr|.sub _ _ _ _ _,p,p',_,h,hk,hr|.sl _ _,p,p',_,h,hk,hr|.ptr _,p,p',_,h,hk,hr=>
  zAo (h.moves rfl) _ hk hr
 |.tup _,_,_,hn,_,_,_=>by grind[T.okTup]
theorem zPz:(xs:List T)→ ∀(p p':List Nat)(j:Nat),yI xs=du→(∀i x,xs[i]? =dq x→MvC G w G' w' s ((j+i)::p) s' ((j+i)::p') x)→xG (zAl G G') xs→RF St G w s xs p j→RF St G' w' s' xs p' j
 | [],_,_,_,_,_,_,_=>by simp only[RF]
 |x::xs,p,p',j,hn,h,hk,hr=>by
  simp only[RF,xG,yI,J2]at hr hk hn ⊢
  exact⟨zJv x (j::p) (j::p') hn.1 (by simpa using h 0 x (by simp)) hk.1 hr.1,zPz xs p p' (j+1) hn.2 (fun i y hy=>by
   have:=h (i+1) y (by grind)
   grind) hk.2 hr.2⟩
end
end
theorem zM8{St:Stb}{G:Gh}{w:World}{s:Nat}:(xs:List T)→ ∀(p:List Nat)(j:Nat),(∀i x,xs[i]? =dq x→R St G w s x ((j+i)::p))→RF St G w s xs p j
 | [],_,_,_=>by simp only[RF]
 |x::xs,p,j,h=>by
  simp only[RF];exact⟨by simpa using h 0 x (by simp),zM8 xs p (j+1) (fun i y hy=>by
   have:=h (i+1) y (by grind)
   grind)⟩
theorem zP0{St:Stb}{G:Gh}{w:World}{s:Nat}{k:Nat}:(xs:List T)→ ∀(p:List Nat)(j b o:Nat),(∀x∈xs,x.size=k)→wJ G w s xs p j b o→RF St G w s xs p j→RL St G w s xs p j b o k
 | [],_,_,_,_,_,_,_=>by simp only[RL]
 |x::xs,p,j,b,o,hk,hl,hr=>by
  simp only[RL,wJ,RF]at hl hr ⊢
  have h1:=hk x (by simp);exact⟨⟨hl.1,h1⟩,hr.1,zP0 xs p (j+1) b (o+k) (by grind) (by grind) hr.2⟩
theorem xX{k:Nat}:(xs:List T)→(∀x∈xs,x.size=k)→T.sizes xs=xs.length*k
 | [],_=>by simp[T.sizes]
 |x::xs,h=>by simp[T.sizes,xX xs (fun y hy=>h y (by simp[hy])),h x (by simp),Kx];omega
def Gh.nb(G:Gh)(d B:Nat)(xs:List T)(src:Nat→Option (Nat×List Nat))(φ:Nat→List Nat→Option (List Nat))(f:Nat→List Nat→Value)(gV:Value):Gh where
 hd s z:=if s=d then(match z.getLast? with
  |some i=>f i z.dropLast
  |none=>gV)else G.hd s z
 ad s z:=if s=d then(if(T.agg xs).inT z.reverse then⟨B,(T.agg xs).offT z.reverse,dt⟩else match z.getLast? with
  |some i=>(match src i with
   |some (x,q)=>G.ad x (z.dropLast++q)
   |none=>default)
  |none=>default)else G.ad s z
 lb b o:=if b=B then dq (match zBW xs [] 0 o with
  |some p=>(dv,d,p)
  |none=>(du,d,[]))else match G.lb b o with
  |some (fl,s,z)=>(match φ s z with
   |some z'=>dq (fl,d,z')
   |none=>dq (fl,s,z))
  |none=>dt
 ow b:=if b=B then dq (d,[])else match G.ow b with
  |some (s,z)=>(match φ s z with
   |some z'=>dq (d,z')
   |none=>dq (s,z))
  |none=>dt
theorem zC5{Γ:Ctx}{G:Gh}{w w':World}(hm:Mem Γ G w){cells:Array Value}{e:TypeId}(hw:w'.heap=w.heap.push (.cells cells e))(d:Nat)(xs:List T)
  (src:Nat→Option (Nat×List Nat))(φ:Nat→List Nat→Option (List Nat))(f:Nat→List Nat→Value)(gV:Value)(chg:Chg)
  (gH:yI xs=du)(hf:∀(i:Nat)(z:List Nat),(f i z).oneCell'=du)(hh:gV.oneCell'=du)
  (hφ:∀(i:Nat) u x q(z:List Nat),xs[i]? =dq u→src i=dq (x,q)→φ x (z++q)=dq (z++[i]))
  (aj:∀(i:Nat) u x q,xs[i]? =dq u→src i=dq (x,q)→(∀z,f i z=G.hd x (z++q))∧R Γ.St G w x u q∧zT u∧x≠d)
  (bp:∀(i:Nat) u,xs[i]? =dq u→src i=dt→ ∀(G2:Gh)(w2:World),(∀z,G2.hd d (z++[i])=f i z)→R Γ.St G2 w2 d u [i])
  (ft:∀(G2:Gh),(∀i z,G2.hd d (z++[i])=f i z)→ ∀(o:Nat)(v:Value),(zX G2 d xs [] 0)[o]? =dq v→cells[o]? =dq v)
  (bM:∀s p,(∀n,(s,n)∉(d,0)::chg)→φ s p=dt)(ho:w'.os=w.os:=by rfl)(hq:w'.output=w.output:=by rfl):
  qQ ((d,0)::chg) G w (G.nb d w.heap.size xs src φ f gV) w'∧Mem Γ (G.nb d w.heap.size xs src φ f gV) w'∧
  wJ (G.nb d w.heap.size xs src φ f gV) w' d xs [] 0 w.heap.size 0∧RF Γ.St (G.nb d w.heap.size xs src φ f gV) w' d xs [] 0∧
  w'.heap[w.heap.size]? =dq (.cells cells e):=by
 have ek:w'.heap[w.heap.size]? =dq (.cells cells e):=by grind
 have gD:∀b,b<w.heap.size→w'.heap[b]? =w.heap[b]?:=fun b hb=>by rw[hw,Array.getElem?_push];grind
 have gv:w'.heap.size=w.heap.size+1:=by grind
 have eP:∀b o,b<w.heap.size→yH w' b o=yH w b o:=fun b o hb=>by simp[yH,World.cell?,gD b hb]
 have gL:Blk w w':=fun b cs e' h=>⟨cs,by rw[gD b (by grind)];exact h,rfl⟩
 have gn:=hm.one
 generalize gp:G.nb d w.heap.size xs src φ f gV=G'
 have ghd:∀i z,G'.hd d (z++[i])=f i z:=fun i z=>by rw[←gp];simp[Gh.nb]
 have gad:∀g,(T.agg xs).inT g=du→G'.ad d g.reverse=⟨w.heap.size,(T.agg xs).offT g,dt⟩:=fun g hg=>by rw[←gp];simp[Gh.nb,hg]
 have gadm:∀i x q z,src i=dq (x,q)→(T.agg xs).inT (i::z.reverse)=dv→G'.ad d (z++[i])=G.ad x (z++q):=fun i x q z hs gM=>by rw[←gp];simp[Gh.nb,gM,hs]
 have glb:∀o p,zBW xs [] 0 o=dq p→G'.lb w.heap.size o=dq (dv,d,p):=fun o p h=>by rw[←gp];simp[Gh.nb,h]
 have glbm:∀b o fl x z z',G.lb b o=dq (fl,x,z)→φ x z=dq z'→G'.lb b o=dq (fl,d,z'):=fun b o fl x z z' h1 h2=>by have:=(hm.lb b o _ h1).1;rw[←gp];simp[Gh.nb,h1,h2,show b≠w.heap.size from by omega]
 have gowm:∀b x z z',G.ow b=dq (x,z)→φ x z=dq z'→G'.ow b=dq (d,z'):=fun b x z z' h1 h2=>by have:=(hm.ow b _ h1).1;rw[←gp];simp[Gh.nb,h1,h2,show b≠w.heap.size from by omega]
 have gf:∀s p,Off ((d,0)::chg) s p→s≠d:=fun s p h e=>absurd (h 0 (by simp[e])) (by simp)
 have gw:qQ ((d,0)::chg) G w G' w':=by
  refine⟨fun s p h=>?_,fun s p h=>?_,fun b o fl s p _ hl h=>⟨?_,eP b o (hm.lb b o _ hl).1⟩,fun b s p hl h=>?_,gL⟩
  ·rw[←gp];simp[Gh.nb,gf s p h]
  ·rw[←gp];simp[Gh.nb,gf s p h]
  ·have:=(hm.lb b o _ hl).1
   rw[←gp];simp[Gh.nb,hl,bM s p h,show b≠w.heap.size from by omega]
  ·have:=(hm.ow b _ hl).1
   rw[←gp];simp[Gh.nb,hl,bM s p h,show b≠w.heap.size from by omega]
 refine⟨gw,?_,?_,?_,ek⟩
 ·
  have hB:zBV Γ w' w.heap.size:=⟨by omega,.inl hm.sz,by
   cases gK:Γ.St w.heap.size with
   |none=>rfl
   |some x=>have:=hm.st _ x gK;simp at this⟩
  have eU:∀b,zBV Γ w b→zBV Γ w' b:=fun b h=>⟨by have:=h.1;omega,h.2⟩
  refine⟨fun s p=>?_,fun b o l hl=>?_,fun b l hl=>?_,fun b x hx=>?_,fun b h1 h2=>?_,by have:=hm.sz;omega,hm.bk.trans gL ho hq⟩
  ·rw[←gp]
   simp only[Gh.nb];split
   ·split
    ·exact hf _ _
    ·exact hh
   ·exact gn s p
  ·rw[←gp]at hl
   simp only[Gh.nb]at hl;split at hl
   ·grind
   ·split at hl
    ·rename_i hg;exact eU b (hm.lb b o _ hg)
    ·cases hl
  ·rw[←gp]at hl
   simp only[Gh.nb]at hl;split at hl
   ·grind
   ·split at hl
    ·rename_i hg;exact eU b (hm.ow b _ hg)
    ·cases hl
  ·have:=hm.st b x hx
   rw[gD b (Hd.1 this).1];exact this
  ·rw[gD b (Q3 h1 hm.sz)]
   exact hm.fr b h1 h2
 ·
  refine zFu xs [] 0 w.heap.size 0 gH (fun i x hx g hg=>?_) (fun i p' _ hp=>by simpa using glb i p' hp) (fun i v hv=>?_)
  ·have:=gad (i::g) (by simp only[T.inT,hx];exact hg)
   simpa[T.offT,hx]using this
  ·have:=ft G' ghd i v hv
   rw[J8];simp[yH,World.cell?,ek,this]
 ·
  refine zM8 xs [] 0 (fun i u hu=>?_);rw[J8];cases hs:src i with
  |none=>exact bp i u hu hs G' w' (fun z=>ghd i z)
  |some xq=>
   obtain⟨x,q⟩:=xq;obtain⟨h1,h2,h3,h4⟩:=aj i u x q hu hs;have gM:∀g,(T.agg xs).inT (i::g)=u.inT g:=fun g=>by simp only[T.inT,hu]
   refine zJv u q [i] (okTups_get xs gH i u hu) ⟨fun z=>by rw[ghd,h1],fun z hz=>gadm i x q z hs (by rw[gM];exact hz),fun b o fl z hz hl=>⟨glbm b o fl x _ _ hl (hφ i u x q z hu hs),eP b o (hm.lb b o _ hl).1⟩,
    fun b z hl=>gowm b x _ _ hl (hφ i u x q z hu hs),gL⟩ (yM.mono (by simp) u h3) h2
where okTups_get:(xs:List T)→yI xs=du→ ∀(i:Nat)(x:T),xs[i]? =dq x→x.okTup=du
 | [],_,_,_,h=>by simp at h
 |y::ys,hk,i,x,h=>by
  simp only[yI,J2]at hk;cases i with
  |zero=>grind
  |succ i=>exact okTups_get ys hk.2 i x (by grind)
end Go.Ab

namespace Go.Ab
open Go
inductive yJ where
 |slot (s:Nat) (t:T)
 |zero (u:T)
def yJ.tree:yJ→T
 |.slot _ t=>t
 |.zero u=>u
def sA:T→Bool
 |.lit _|.ro _=>dv
 |_=>du
mutual
def T.zOk:T→Bool
 |.lit v=>v.oneCell'
 |.sl _ xs=>xs.isEmpty
 |.agg xs=>zAq xs
 |.any|.ro _|.same _ _|.addr _ _|.sub _ _ _ _ _|.ptr _|.tup _=>dv
def zAq:List T→Bool
 | []=>du
 |x::xs=>x.zOk&&zAq xs
end
def zhd:T→List Nat→Value
 |.agg xs,i::f=>match xs[i]? with
  |some x=>zhd x f
  |none=>.bool dv
 |.lit v,_=>v
 |.sl _ _,_=>.slice dt 0 0
 |.agg _,[] |.any,_|.ro _,_|.same _ _,_|.addr _ _,_|.sub _ _ _ _ _,_|.ptr _,_|.tup _,_=>.bool dv
termination_by structural _ f=>f
mutual
def tG:T→List Value
 |.lit v=>[v]
 |.sl _ _=>[.slice dt 0 0]
 |.agg xs=>sB xs
 |.any|.ro _|.same _ _|.addr _ _|.sub _ _ _ _ _|.ptr _|.tup _=>[]
def sB:List T→List Value
 | []=>[]
 |x::xs=>tG x++sB xs
end
section
variable {St:Stb}{G:Gh}{w:World}{d:Nat}
mutual
theorem zIy:(u:T)→ ∀(p:List Nat),u.zOk=du→(∀z,G.hd d (z++p)=qY (zhd u z.reverse))→R St G w d u p
 |.lit v,p,h,hd=>by
  simp only[T.zOk,R]at h ⊢
  have:=hd [];rw[Jy]at this;rw[this];exact zAp h
 |.sl k xs,p,h,hd=>by simp only[T.zOk,Qb]at h;subst h;have:=hd [];rw[Jy]at this;simp only[R];exact .inl ⟨trivial,dt,by rw[this];rfl⟩
 |.agg xs,p,h,hd=>by
  simp only[T.zOk,R]at h ⊢
  exact zM9 xs p 0 h (fun i x hx z=>by
   rw[J8];have:=hd (z++[i])
   grind[zhd])
 |.any,_,h,_|.ro _,_,h,_|.same _ _,_,h,_|.addr _ _,_,h,_|.sub _ _ _ _ _,_,h,_|.ptr _,_,h,_|.tup _,_,h,_=>by grind[T.zOk]
theorem zM9:(xs:List T)→ ∀(p:List Nat)(j:Nat),zAq xs=du→(∀i x,xs[i]? =dq x→ ∀z,G.hd d (z++((j+i)::p))=qY (zhd x z.reverse))→RF St G w d xs p j
 | [],_,_,_,_=>by simp only[RF]
 |x::xs,p,j,h,hd=>by
  simp only[zAq,J2,RF]at h ⊢
  exact⟨zIy x (j::p) h.1 (by simpa using hd 0 x (by simp)),zM9 xs p (j+1) h.2 (fun i y hy z=>by
   have:=hd (i+1) y (by grind) z
   grind)⟩
end
end
section
variable {G:Gh}{d:Nat}
mutual
theorem zEp:(u:T)→ ∀(p:List Nat),u.zOk=du→(∀z,G.hd d (z++p)=qY (zhd u z.reverse))→vals G d u p=tG u
 |.lit v,p,h,hd=>by
  simp only[T.zOk,vals,tG]at h ⊢
  have:=hd []
  grind[zhd,zAp]
 |.sl k xs,p,h,hd=>by
  have:=hd []
  grind[vals,tG,zhd,qY,Value.oneCell']
 |.agg xs,p,h,hd=>by
  simp only[T.zOk,vals,tG]at h ⊢
  exact zDl xs p 0 h (fun i x hx z=>by
   rw[J8];have:=hd (z++[i])
   grind[zhd])
 |.any,_,h,_|.ro _,_,h,_|.same _ _,_,h,_|.addr _ _,_,h,_|.sub _ _ _ _ _,_,h,_|.ptr _,_,h,_|.tup _,_,h,_=>by grind[T.zOk]
theorem zDl:(xs:List T)→ ∀(p:List Nat)(j:Nat),zAq xs=du→(∀i x,xs[i]? =dq x→ ∀z,G.hd d (z++((j+i)::p))=qY (zhd x z.reverse))→zX G d xs p j=sB xs
 | [],_,_,_,_=>by rfl
 |x::xs,p,j,h,hd=>by
  simp only[zAq,J2,zX,sB]at h ⊢
  rw[zEp x (j::p) h.1 (by simpa using hd 0 x (by simp)),zDl xs p (j+1) h.2 (fun i y hy z=>by
   have:=hd (i+1) y (by grind) z
   grind)]
end
end
mutual
theorem zBj:(u:T)→u.zOk=du→zT u∧u.okTup=du
 |.lit _,_=>by simp[zT,yM,T.okTup]
 |.sl _ xs,h=>by simp only[T.zOk,Qb]at h;subst h;simp[zT,yM,xG,T.okTup]
 |.agg xs,h=>by simp only[T.zOk]at h;simpa only[zT,yM,T.okTup]using zB8 xs h
 |.any,h|.ro _,h|.same _ _,h|.addr _ _,h|.sub _ _ _ _ _,h|.ptr _,h|.tup _,h=>by grind[T.zOk]
theorem zB8:(xs:List T)→zAq xs=du→yV xs∧yI xs=du
 | [],_=>by simp[yV,xG,yI]
 |x::xs,h=>by simp only[zAq,J2]at h;simp only[yV,xG,yI,J2];exact⟨⟨(zBj x h.1).1,(zB8 xs h.2).1⟩,(zBj x h.1).2,(zB8 xs h.2).2⟩
end
mutual
theorem wN:(u:T)→u.zOk=du→(tG u).length=u.size
 |.lit _,_|.sl _ _,_=>by rfl
 |.agg xs,h=>by simp only[T.zOk]at h;simp only[tG,T.size];exact zAX xs h
 |.any,h|.ro _,h|.same _ _,h|.addr _ _,h|.sub _ _ _ _ _,h|.ptr _,h|.tup _,h=>by grind[T.zOk]
theorem zAX:(xs:List T)→zAq xs=du→(sB xs).length=T.sizes xs
 | [],_=>by rfl
 |x::xs,h=>by simp only[zAq,J2]at h;simp only[sB,Ji,T.sizes,wN x h.1,zAX xs h.2]
end
def zFM(ps:List yJ)(i:Nat):Option (Nat×List Nat):=
 match ps[i]? with
 |some (.slot s t)=>if sA t then dq (s,[])else dt
 |_=>dt
def zHa:List yJ→Nat→Nat→Option Nat
 | [],_,_=>dt
 |.slot x t::r,i,s=>if sA t&&x==s then dq i else zHa r (i+1) s
 |.zero _::r,i,s=>zHa r (i+1) s
def zHb(ps:List yJ)(s:Nat)(z:List Nat):Option (List Nat):=
 match zHa ps 0 s with
 |some i=>dq (z++[i])
 |none=>dt
def pWr(d:Nat):List yJ→Nat→Wr
 | [],_=>[]
 |.slot s t::r,i=>if sA t then(s,dq (cpT d t [i]))::pWr d r (i+1)else pWr d r (i+1)
 |.zero _::r,i=>pWr d r (i+1)
def xF:List yJ→List Nat
 | []=>[]
 |.slot s t::r=>if sA t then s::xF r else xF r
 |.zero _::r=>xF r
def tJ(ps:List yJ):Chg:=(xF ps).map fun s=>(s,1)
def tW(G:Gh):yJ→List Value
 |.slot s t=>vals G s t []
 |.zero u=>tG u
def pHd(G:Gh)(ps:List yJ)(i:Nat)(z:List Nat):Value:=
 match ps[i]? with
 |some (.slot s _)=>G.hd s z
 |some (.zero u)=>qY (zhd u z.reverse)
 |none=>.bool dv
structure uU (E:Env) (d:Nat) (ps:List yJ):Prop where
 slot:∀s t,yJ.slot s t∈ps→E s=dq t∧zT t∧t.okTup=du
 zero:∀u,yJ.zero u∈ps→u.zOk=du
 dist:(d::xF ps).Nodup
theorem zBk:(ps:List yJ)→ ∀(i0 i s:Nat)(t:T),ps[i]? =dq (.slot s t)→sA t=du→(xF ps).Nodup→zHa ps i0 s=dq (i0+i)
 | [],_,_,_,_,h,_,_=>by simp at h
 |.slot x u::r,i0,i,s,t,h,hm,hn=>by
  cases i with
  |zero=>simp at h;obtain⟨rfl,rfl⟩:=h;simp[zHa,hm]
  |succ i=>
   simp only[Qy]at h;have gM:s∈xF r:=pSlots_mem r i s t h hm;simp only[zHa]
   by_cases hu:sA u=du
   ·simp only[xF,hu,if_true,Km]at hn
    have:x≠s:=by grind
    simp only[hu,Uo,beq_iff_eq,this,if_false];rw[zBk r (i0+1) i s t h hm hn.2]
    grind
   ·simp only[xF,hu]at hn
    simp only[hu,Ql,Lu,if_false];rw[zBk r (i0+1) i s t h hm (by grind)]
    grind
 |.zero u::r,i0,i,s,t,h,hm,hn=>by
  cases i with
  |zero=>simp at h
  |succ i=>
   simp only[Qy]at h;simp only[zHa];rw[zBk r (i0+1) i s t h hm (by grind[xF])]
   grind
where pSlots_mem:(ps:List yJ)→ ∀(i s:Nat)(t:T),ps[i]? =dq (.slot s t)→sA t=du→s∈xF ps
 | [],_,_,_,h,_=>by simp at h
 |.slot x u::r,i,s,t,h,hm=>by
  cases i with
  |zero=>simp at h;obtain⟨rfl,rfl⟩:=h;simp[xF,hm]
  |succ i=>
   have:=pSlots_mem r i s t (by grind) hm
   grind[xF]
 |.zero u::r,i,s,t,h,hm=>by
  cases i with
  |zero=>simp at h
  |succ i=>simpa only[xF]using pSlots_mem r i s t (by grind) hm
theorem zC6:(ps:List yJ)→ ∀(i0 s:Nat),s∉xF ps→zHa ps i0 s=dt
 | [],_,_,_=>by rfl
 |.slot x u::r,i0,s,h=>by
  simp only[zHa]
  by_cases hu:sA u=du
  ·simp only[xF,hu,if_true,Jq,not_or]at h
   simp only[hu,Uo,beq_iff_eq,Ne.symm h.1,if_false];exact zC6 r _ s h.2
  ·simp only[xF,hu]at h
   simp only[hu,Ql,Lu,if_false];exact zC6 r _ s (by grind)
 |.zero u::r,i0,s,h=>by simp only[zHa];exact zC6 r _ s (by grind[xF])
theorem zBX:(ps:List yJ)→ ∀(d i0 s:Nat)(x:Option T),(pWr d ps i0).find s=dq x→ ∃i t,ps[i]? =dq (.slot s t)∧sA t=du∧x=dq (cpT d t [i0+i])
 | [],_,_,_,_,h=>by grind[pWr,Wr.find]
 |.slot y u::r,d,i0,s,x,h=>by
  simp only[pWr]at h;split at h
  ·rename_i hu
   simp only[Wr.find]at h;split at h
   ·rename_i he;subst he;simp at h;exact⟨0,u,by simp,hu,by grind⟩
   ·obtain⟨i,t,h1,h2,h3⟩:=zBX r d (i0+1) s x h
    exact⟨i+1,t,by grind,h2,by grind⟩
  ·obtain⟨i,t,h1,h2,h3⟩:=zBX r d (i0+1) s x h
   exact⟨i+1,t,by grind,h2,by grind⟩
 |.zero u::r,d,i0,s,x,h=>by simp only[pWr]at h;obtain⟨i,t,h1,h2,h3⟩:=zBX r d (i0+1) s x h;exact⟨i+1,t,by grind,h2,by grind⟩
theorem zBY:(ps:List yJ)→ ∀(d i0 s:Nat),(pWr d ps i0).find s=dt→s∉xF ps
 | [],_,_,_,_=>by simp[xF]
 |.slot y u::r,d,i0,s,h=>by
  simp only[pWr]at h;simp only[xF];split at h
  ·rename_i hu
   simp only[Wr.find]at h;split at h
   ·cases h
   ·rename_i gf
    simp only[hu,if_true,Jq,not_or];exact⟨fun e=>gf e.symm,zBY r d _ s h⟩
  ·rename_i hu
   simp only[hu];simpa using zBY r d _ s h
 |.zero u::r,d,i0,s,h=>by simp only[pWr]at h;simpa only[xF]using zBY r d _ s h
section
variable {Γ:Ctx}{E:Env}{G:Gh}{tmps:Array Value}{w:World}{d:Nat}{ps:List yJ}
theorem zER(gc:Rep Γ E G tmps w)(h:uU E d ps):
  yI (ps.map yJ.tree)=du∧yV (ps.map yJ.tree)∧(∀i z,(pHd G ps i z).oneCell'=du)∧
  (∀(i:Nat) u x q(z:List Nat),(ps.map yJ.tree)[i]? =dq u→zFM ps i=dq (x,q)→zHb ps x (z++q)=dq (z++[i]))∧
  (∀(i:Nat) u x q,(ps.map yJ.tree)[i]? =dq u→zFM ps i=dq (x,q)→(∀z,pHd G ps i z=G.hd x (z++q))∧R Γ.St G w x u q∧zT u∧x≠d)∧
  (∀(i:Nat) u,(ps.map yJ.tree)[i]? =dq u→zFM ps i=dt→ ∀(G2:Gh)(w2:World),(∀z,G2.hd d (z++[i])=pHd G ps i z)→R Γ.St G2 w2 d u [i])∧
  (∀s p,(∀n,(s,n)∉(d,0)::tJ ps)→zHb ps s p=dt):=by
 have pH:=Km.1 h.dist;refine⟨?_,?_,?_,?_,?_,?_,?_⟩
 ·have:∀qs:List yJ,(∀p∈qs,p∈ps)→yI (qs.map yJ.tree)=du:=by
   intro qs
   induction qs with
   |nil=>intro _;rfl
   |cons q qs ih=>
    intro hq;simp only[Jl,yI,J2];refine⟨?_,by grind⟩;cases q with
    |slot s t=>exact(h.slot s t (hq _ (by simp))).2.2
    |zero u=>exact(zBj u (h.zero u (hq _ (by simp)))).2
  grind
 ·have:∀qs:List yJ,(∀p∈qs,p∈ps)→yV (qs.map yJ.tree):=by
   intro qs
   induction qs with
   |nil=>intro _;trivial
   |cons q qs ih=>
    intro hq;simp only[Jl,yV,xG];refine⟨?_,by grind⟩;cases q with
    |slot s t=>exact(h.slot s t (hq _ (by simp))).2.1
    |zero u=>exact(zBj u (h.zero u (hq _ (by simp)))).1
  grind
 ·intro i z
  unfold pHd;split
  ·exact gc.mem.one _ _
  ·exact zBi _
  ·rfl
 ·intro i u x q z hu hs
  rw[Jz]at hu;unfold zFM at hs;cases hp:ps[i]? with
  |none=>grind
  |some p=>
   cases p with
   |zero v=>grind
   |slot s t=>
    simp only[hp]at hs;split at hs
    ·rename_i hm
     simp at hs;obtain⟨rfl,rfl⟩:=hs;simp[zHb,zBk ps 0 i s t hp hm pH.2]
    ·cases hs
 ·intro i u x q hu hs
  rw[Jz]at hu;unfold zFM at hs;cases hp:ps[i]? with
  |none=>grind
  |some p=>
   cases p with
   |zero v=>grind
   |slot s t=>
    simp only[hp]at hs;split at hs
    ·rename_i hm
     simp at hs;obtain⟨rfl,rfl⟩:=hs;simp[hp,yJ.tree]at hu;subst hu;obtain⟨h1,h2,h3⟩:=h.slot s t (by grind);refine⟨by grind[pHd],(gc.ent s t h1).2.1,h2,fun e=>pH.1 ?_⟩
     grind[zBk.pSlots_mem]
    ·cases hs
 ·intro i u hu hs G2 w2 eD
  rw[Jz]at hu;unfold zFM at hs;cases hp:ps[i]? with
  |none=>grind
  |some p=>
   cases p with
   |zero v=>
    simp[hp,yJ.tree]at hu;subst hu;exact zIy v [i] (h.zero v (by grind)) (by grind[pHd])
   |slot s t=>
    simp only[hp]at hs;split at hs
    ·cases hs
    ·rename_i hm
     simp[hp,yJ.tree]at hu;subst hu;have h1:=(gc.ent s t (h.slot s t (by grind)).1).2.1;have h2:G2.hd d [i]=G.hd s []:=by have:=eD [];grind[pHd]
     cases t<;>simp[sA]at hm<;>simp only[R]at h1 ⊢ <;>rw[h2]<;>exact h1
 ·intro s p gN
  have:s∉xF ps:=fun gM=>gN 1 (by grind[tJ])
  grind[zHb,zC6]
theorem zDm(gc:Rep Γ E G tmps w)(h:uU E d ps)(G2:Gh):∀(qs:List yJ)(i0:Nat),(∀i q,qs[i]? =dq q→ps[i0+i]? =dq q)→(∀i z,G2.hd d (z++[i])=pHd G ps i z)→
  zX G2 d (qs.map yJ.tree) [] i0=qs.flatMap (tW G)
 | [],_,_,_=>by rfl
 |q::qs,i0,hq,eD=>by
  have h0:ps[i0]? =dq q:=by simpa using hq 0 q (by simp)
  have ih:=zDm gc h G2 qs (i0+1) (fun i p hp=>by rw[show i0+1+i=i0+(i+1)from by omega];simp_all) eD;simp only[Jl,zX,Lb,ih]
  congr 1
  cases q with
  |slot s t=>exact zAO t [] [i0] (by grind[pHd])
  |zero u=>exact zEp u [i0] (h.zero u (by grind)) (by grind[pHd])
end
end Go.Ab

namespace Go.Ab
open Go
section
variable {P:Program}{Γ:Ctx}{E:Env}{o:Oper}{d:Nat}
theorem zH2{G G':Gh}{w':World}{s i:Nat}{t:T}{v:Option Value}(hv:v=dq (mkV G s t []))(gX:∀xs,t≠.tup xs)(hs:∀p,G'.hd s p=G.hd s p)(pI:∀z,G'.hd d (z++[i])=G.hd s z)
  (hr:R Γ.St G' w' d t [i]):Ent Γ G' w' v s (cpT d t [i]):=by
 have hz:∀z,G'.hd s (z++[])=G'.hd d (z++[i]):=fun z=>by rw[Jk,hs,pI]
 refine⟨?_,?_,sL d t [i]⟩
 ·rw[hv,zA1 (G:=G') (G':=G') t [i] [] gX hz,kY G s t [] gX,zB7 t [] [i] (fun z=>by rw[pI,Jk])]
 ·exact zDg (G:=G') (G':=G') (fun _=>rfl) t [i] [] hz gX (yM.triv (fun _ _=>⟨rfl,rfl⟩) _) hr
theorem zBl{G:Gh}{a:Act}{w w':World}{ps:List yJ}(gc:Rep Γ E G a.tmps w)(h:uU E d ps)(hd:d<Γ.N){cells:Array Value}{e:TypeId}(hw:w'.heap=w.heap.push (.cells cells e))
  (ft:∀(o:Nat)(v:Value),(ps.flatMap (tW G))[o]? =dq v→cells[o]? =dq v)
  (rt:T)(gV:Value)
  (eO:(∃k cap,rt=.sl k (ps.map yJ.tree)∧(∀p∈ps,p.tree.size=k)∧gV=.slice (dq ⟨w.heap.size,0,dt⟩) ps.length cap∧ps.length≤cap∧cap≤maxLen∧cells.size=cap*k)∨
   ∃p,ps=[p]∧rt=.ptr p.tree∧gV=.pointer (dq ⟨w.heap.size,0,dt⟩)∧cells.size=p.tree.size)
  (ho:w'.os=w.os:=by rfl)(hq:w'.output=w.output:=by rfl):
  ∃G',Rep Γ (E.app ((d,dq rt)::pWr d ps 0) ((d,0)::tJ ps)) G' (a.tmps.setIfInBounds d gV) w':=by
 obtain⟨f1,f0,f2,f3,f4,f5,f6⟩:=zER gc h;have hh:gV.oneCell'=du:=by rcases eO with⟨k,cap,_,_,rfl,_⟩|⟨p,_,_,rfl,_⟩<;>rfl
 have pH:=Km.1 h.dist;obtain⟨g1,g2,g3,g4,g5⟩:=zC5 gc.mem hw d (ps.map yJ.tree) (zFM ps) (zHb ps) (pHd G ps) gV (tJ ps) f1 f2 hh f3 f4 f5
  (fun G2 eD o v hv=>ft o v (by rw[zDm gc h G2 ps 0 (fun i q hq=>by simpa using hq) eD]at hv;exact hv)) f6 (ho:=ho) (hq:=hq)
 refine⟨_,vC gc (by simp) g1 g2 ?_ ?_⟩
 ·intro s hs
  simp only[Wr.find]at hs;split at hs
  ·cases hs
  ·rename_i gf
   have hns:=zBY ps d 0 s hs;refine⟨fun n hn=>?_,by rw[Jc];simp[gf]⟩;simp only[Jq,Ja1.injEq,tJ,Ja]at hn;rcases hn with⟨e1,_⟩|⟨y,hy,e1,_⟩
   ·exact gf e1.symm
   ·exact hns (e1▸hy)
 ·intro s t hs
  simp only[Wr.find]at hs;split at hs
  ·rename_i he
   subst he;simp at hs;subst hs;have fS:(G.nb d w.heap.size (ps.map yJ.tree) (zFM ps) (zHb ps) (pHd G ps) gV).hd d []=gV:=by simp[Gh.nb]
   have how:(G.nb d w.heap.size (ps.map yJ.tree) (zFM ps) (zHb ps) (pHd G ps) gV).ow w.heap.size=dq (d,[]):=by simp[Gh.nb]
   refine⟨?_,?_,?_⟩
   ·rw[Jc]
    rcases eO with⟨k,cap,rfl,_⟩|⟨p,_,rfl,_⟩<;>simp[gc.size,hd,mkV,fS]
   ·rcases eO with⟨k,cap,rfl,hk,h1,h2,h3,h4⟩|⟨p,rfl,rfl,h1,h4⟩
    ·simp only[R]
     rw[fS];refine .inr ⟨w.heap.size,0,cap,cells,e,by simpa using h1,g5,by simpa using h2,h3,by omega,how,?_,zP0 _ _ _ _ _ (fun x hx=>?_) g3 g4⟩
     ·intro o ho _
      have gv:T.sizes (ps.map yJ.tree)=(ps.map yJ.tree).length*k:=xX _ (fun x hx=>by obtain⟨p,hp,rfl⟩:=Ja.1 hx;exact hk p hp)
      simp[Gh.nb,zDk (ps.map yJ.tree) [] 0 o (by omega)]
     ·obtain⟨p,hp,rfl⟩:=Ja.1 hx
      exact hk p hp
    ·simp only[R]
     rw[fS];simp only[Jl,G5,wJ,RF]at g3 g4;exact⟨w.heap.size,cells,e,h1,g5,h4,how,g3.1,g4.1⟩
   ·rcases eO with⟨k,cap,rfl,_⟩|⟨p,rfl,rfl,_⟩
    ·simp only[Top];exact f0
    ·simp only[Top];exact f0.1
  ·rename_i gf
   obtain⟨i,u,h1,h2,h3⟩:=zBX ps d 0 s _ hs;simp only[J8]at h3;simp at h3;subst h3;obtain⟨h4,h5,h6⟩:=h.slot s u (L4 h1);have gX:∀xs,u≠.tup xs:=by rintro xs rfl;simp[T.okTup]at h6
   have hi:(ps.map yJ.tree)[i]? =dq u:=by simp[h1,yJ.tree]
   have hr:=zAW _ [] 0 i u g4 hi;simp only[J8]at hr;refine zH2 (G:=G) (by rw[Jc];simp only[gf,if_false];exact(gc.ent s u h4).1) gX (fun p=>?_) (fun z=>?_) hr
   ·simp[Gh.nb,show s≠d from fun e=>gf e.symm]
   ·simp[Gh.nb,pHd,h1]
inductive zAe (E:Env):Operand→yJ→Prop where
 |slot (s:Nat) (t:T):zAe E (.tmp s) (.slot s t)
 |zero (v:Value) (u:T) (h:tG u=v.cells.toList):zAe E (.const v) (.zero u)
theorem zA2{G:Gh}{a:Act}{w:World}{ps:List yJ}(gc:Rep Γ E G a.tmps w)(h:uU E d ps){x:Operand}{p:yJ}(hp:p∈ps)(hx:zAe E x p):
  (a.eval x).cells.toList=tW G p:=by
 cases hx with
 |slot s t=>
  obtain⟨h1,h2,h3⟩:=h.slot s t hp;obtain⟨h4,_,_⟩:=gc.ent s t h1;rw[xM h4];cases t with
  |agg xs=>simp[mkV,Value.cells,vals,tW]
  |tup xs=>simp[T.okTup]at h3
  |_=>
   have:=gc.mem.one s [];simp only[mkV,vals,tW]
   generalize G.hd s []=v at this
   cases v<;>simp[Value.oneCell',Value.cells]at this ⊢
 |zero v u h=>simp[Act.eval,h,tW]
def vO(E:Env):List Operand→List yJ→Prop
 | [],[]=>True
 |x::xs,p::ps=>zAe E x p∧vO E xs ps
 |_,_=>False
theorem vO.length:(xs:List Operand)→(ps:List yJ)→vO E xs ps→xs.length=ps.length
 | [],[],_=>rfl
 |_::xs,_::ps,h=>by simp[vO.length xs ps h.2]
 | [],_::_,h=>by simp[vO]at h
 |_::_,[],h=>by simp[vO]at h
theorem vO.mem:(xs:List Operand)→(ps:List yJ)→vO E xs ps→ ∀x∈xs,∃p,p∈ps∧zAe E x p
 | [],_,_,x,hx=>by simp at hx
 |y::xs,p::ps,h,x,hx=>by
  rcases Jq.1 hx with rfl|hx
  ·exact⟨p,by simp,h.1⟩
  ·obtain⟨q,hq,hxq⟩:=vO.mem xs ps h.2 x hx;exact⟨q,by simp[hq],hxq⟩
 |_::_,[],h,_,_=>by simp[vO]at h
theorem zFN{G:Gh}{a:Act}{w:World}{ps:List yJ}(gc:Rep Γ E G a.tmps w)(h:uU E d ps):∀(xs:List Operand)(qs:List yJ),(∀q∈qs,q∈ps)→vO E xs qs→
  ((xs.map a.eval).flatMap fun v=>v.cells.toList)=qs.flatMap (tW G)
 | [],[],_,_=>rfl
 |x::xs,q::qs,hq,hx=>by simp only[Jl,Lb,zA2 gc h (hq q (by simp)) hx.1,zFN gc h xs qs (fun p hp=>hq p (by simp[hp])) hx.2]
 | [],_::_,_,hx=>by simp[vO]at hx
 |_::_,[],_,hx=>by simp[vO]at hx
theorem zP1(T':TypeId)(ti:TypeInfo)(z:Value)(u:T)(ho:o.op=.alloc T')(gj:o.dst=dq d)(hd:d<Γ.N)
  (hi:P.info? T'=dq ti)(hz:ti.zero=dq z)(hu:u.zOk=du)(hv:tG u=z.cells.toList)(gv:z.cells.size=u.size):
  xR P Γ o E (E.app [(d,dq (.ptr u))] [(d,0)]):=by
 refine xR.value gj fun a w G gc=>?_
 have gT:uU E d [.zero u]:=⟨fun s t h=>by simp at h,fun v h=>by simp at h;subst h;exact hu,by simp[xF]⟩;obtain⟨G',gp⟩:=zBl (w':=w.alloc (.cells z.cells T')) gc gT hd (cells:=z.cells) (e:=T') rfl (fun o v h=>by simpa[hv,tW]using h) (.ptr u) (.pointer (dq ⟨w.heap.size,0,dt⟩)) (.inr ⟨.zero u,rfl,rfl,rfl,gv⟩);refine⟨_,_,?_,G',by simpa[pWr,tJ,xF]using gp⟩;simp[execOp,ho,Instr.alloc,zeroValue,typeInfo,hi,hz,newVar,newRow]
theorem zVA(T':TypeId)(x:Operand)(p:yJ)(ho:o.op=.box T' x)(gj:o.dst=dq d)(hd:d<Γ.N)(hx:zAe E x p)(gT:uU E d [p]):
  xR P Γ o E (E.app ((d,dq (.ptr p.tree))::pWr d [p] 0) ((d,0)::tJ [p])):=by
 refine xR.value gj fun a w G gc=>?_
 have hc:=zA2 gc gT (by simp) hx;have gv:(a.eval x).cells.size=p.tree.size:=by
  rw[←Ka,hc];cases p with
  |slot s t=>
   obtain⟨_,_,h3⟩:=gT.slot s t (by simp);show(vals G s t []).length=t.size;exact wF t [] (by rintro xs rfl;simp[T.okTup]at h3)
  |zero u=>exact wN u (gT.zero u (by simp))
 obtain⟨G',gp⟩:=zBl (w':=w.alloc (.cells (a.eval x).cells T')) gc gT hd (cells:=(a.eval x).cells) (e:=T') rfl (fun o v h=>by rw[←Kh,hc];simpa using h) (.ptr p.tree) (.pointer (dq ⟨w.heap.size,0,dt⟩)) (.inr ⟨p,rfl,rfl,rfl,gv⟩)
 refine⟨_,_,?_,G',gp⟩;simp[execOp,ho,Instr.box,newVar,newRow]
theorem zHc(t e:TypeId)(ti:TypeInfo)(z:Value)(k n:Nat)(xs:List Operand)(ps:List yJ)(ho:o.op=.buildSlice t n ((xs.zipIdx 0).map fun x=>(x.2,x.1)).toArray)(gj:o.dst=dq d)(hd:d<Γ.N)
  (ht:P.underlying t=dq (.slice e))(hi:P.info? e=dq ti)(hz:ti.zero=dq z)(hk:ti.size=k)(eC:0<k)(hn:xs.length=n)(bu:0<n)(hsm:n*k≤2 ^ 24)
  (hx:vO E xs ps)(gT:uU E d ps)(gv:∀p∈ps,p.tree.size=k):
  xR P Γ o E (E.app ((d,dq (.sl k (ps.map yJ.tree)))::pWr d ps 0) ((d,0)::tJ ps)):=by
 refine xR.value gj fun a w G gc=>?_
 subst hk;have gm:xs.length=ps.length:=vO.length xs ps hx;have hc:=zFN gc gT xs ps (fun _ h=>h) hx;have cz:∀v∈xs.map a.eval,v.cells.size=ti.size:=by
  intro v hv;obtain⟨x,mq,rfl⟩:=Ja.1 hv;obtain⟨p,hp,hxp⟩:=vO.mem xs ps hx x mq;rw[←Ka,zA2 gc gT hp hxp,←gv p hp];cases p with
  |slot s t=>
   obtain⟨_,_,h3⟩:=gT.slot s t hp;show(vals G s t []).length=t.size;exact wF t [] (by rintro xs rfl;simp[T.okTup]at h3)
  |zero u=>exact wN u (gT.zero u hp)
 have bG:=Great.fill_whole eC (xs.map a.eval) ((Qu (n*ti.size)).map (z.cells[· %z.cells.size]!)) cz (by simp[hn]);have pT:((((xs.zipIdx 0).map fun x=>(x.2,x.1)).toArray).map fun(i,x)=>(i,a.eval x)).toList=((xs.map a.eval).zipIdx 0).map fun x=>(x.2,x.1):=by simp[List.zipIdx_map,Function.comp_def]
 have gx:=run_buildSlice (P:=P) w t e n _ _ ti z ht hi hz (by omega) (by have:=Nat.mul_pos bu eC;omega) (by rw[pT];exact bG);have gQ:((xs.map a.eval).flatMap fun v=>v.cells.toList).toArray.size=n*ti.size:=by rw[Q4,flat_len (k:=ti.size) _ (fun v hv=>by rw[Ka];exact cz v hv)];simp[hn]
 obtain⟨G',gp⟩:=zBl (w':=w.alloc (.cells ((xs.map a.eval).flatMap fun v=>v.cells.toList).toArray e)) gc gT hd rfl (fun o v h=>by rw[hc];simpa using h) (.sl ti.size (ps.map yJ.tree)) (.slice (dq ⟨w.heap.size,0,dt⟩) n n) (.inl ⟨ti.size,n,rfl,gv,by rw[←gm,hn],by omega,by have:n≤n*ti.size:=Nat.le_mul_of_pos_right n eC;simp only[maxLen];omega,gQ⟩)
 refine⟨_,_,?_,G',gp⟩;simp only[execOp,ho,Sem.run_bind,gx,Result.andThen_ok];rfl
where
 flat_len {k:Nat} (vs:List Value) (h:∀v∈vs,v.cells.toList.length=k):(vs.flatMap fun v=>v.cells.toList).length=vs.length*k:=by
  induction vs with
  |nil=>simp
  |cons v vs ih=>simp[Lb,ih (fun u hu=>h u (by simp[hu])),Kx];have:=h v (by simp);simp at this;omega
end
end Go.Ab

namespace Go.Ab
open Go
theorem zIz{α β:Type}(f:α→List β)(x:α)(k:Nat)(hk:(f x).length=k)(eC:0<k):∀(n o:Nat)(v:β),((J1 n x).flatMap f)[o]? =dq v→o<n*k∧(f x)[o%k]? =dq v
 |0,o,v,h=>by simp at h
 |n+1,o,v,h=>by
  rw[L1,Lb,Kg]at h;split at h
  ·grind[Nat.mod_eq_of_lt]
  ·rename_i hge
   rw[hk]at h hge;obtain⟨h1,h2⟩:=zIz f x k hk eC n (o-k) v h
   grind[Nat.mod_eq_sub_mod]
section
variable {P:Program}{Γ:Ctx}{E:Env}{o:Oper}{d:Nat}
theorem zSG(t e:TypeId)(ti:TypeInfo)(z:Value)(u:T)(k:Nat)(x y:Operand)(n c:Nat)(kl kc:IntKind)(ho:o.op=.makeSlice t x y)(gj:o.dst=dq d)(hd:d<Γ.N)
  (ht:P.underlying t=dq (.slice e))(hi:P.info? e=dq ti)(hz:ti.zero=dq z)(hk:ti.size=k)(eC:0<k)(hu:u.zOk=du)(hv:tG u=z.cells.toList)(fe:u.size=k)(hb:ti.bytes≤4096)
  (hx:opT E x=dq (.lit (.int kl n)))(hy:opT E y=dq (.lit (.int kc c)))(br:n≤c)(hc:c≤68719476736):
  xR P Γ o E (E.app [(d,dq (.sl k (J1 n u)))] [(d,0)]):=by
 refine xR.value gj fun a w G gc=>?_
 have h1:=(xE gc hx).1;have h2:=(xE gc hy).1;subst hk;have gT:uU E d (J1 n (.zero u)):=⟨by simp,by grind,by
  have:∀m,xF (J1 m (.zero u))=[]:=by intro m;induction m with|zero=>rfl|succ m ih=>grind[xF]
  simp[this]⟩
 have hzs:z.cells.size=ti.size:=by grind[wN]
 have mh:(ti.bytes:Int)*(c:Int)≤281474976710656:=by have:ti.bytes*c≤4096*68719476736:=Jj hb hc;omega
 have gx:=run_make (P:=P) w t e ti z ht hi hz kl kc n c (by omega) (by omega) mh (by omega);simp only[J9]at gx;obtain⟨G',gp⟩:=zBl (w':=w.alloc (.cells (madeCells z.cells (c*ti.size)) e)) gc gT hd rfl (fun i v h=>by
  obtain⟨h3,h4⟩:=zIz (tW G) (.zero u) ti.size (by grind[tW]) eC n i v h
  grind[Q3,Kf,tW,madeCells]) (.sl ti.size (J1 n u)) (.slice (dq ⟨w.heap.size,0,dt⟩) n c)
  (.inl ⟨ti.size,c,by simp[yJ.tree],fun p hp=>by simp at hp;obtain⟨_,rfl⟩:=hp;exact fe,by simp,by grind,by grind[maxLen],by simp[madeCells]⟩)
 refine⟨.slice (dq ⟨w.heap.size,0,dt⟩) n c,w.alloc (.cells (madeCells z.cells (c*ti.size)) e),?_,G',?_⟩
 ·simp only[execOp,ho,h1,h2,Sem.run_bind,gx,Result.andThen_ok]
  rfl
 ·have h6:∀m i,pWr d (J1 m (.zero u)) i=[]:=by intro m;induction m with|zero=>intro i;rfl|succ m ih=>grind[pWr]
  have h7:tJ (J1 n (.zero u))=[]:=by
   have:∀m,xF (J1 m (.zero u))=[]:=by intro m;induction m with|zero=>rfl|succ m ih=>grind[xF]
   grind[tJ]
  grind
theorem zFO(t e:TypeId)(ti:TypeInfo)(k:Nat)(ho:o.op=.buildSlice t 0 #[])(gj:o.dst=dq d)(hd:d<Γ.N)
  (ht:P.underlying t=dq (.slice e))(hi:P.info? e=dq ti):xR P Γ o E (E.app [(d,dq (.sl k []))] [(d,0)]):=by
 refine xR.value gj fun a w G gc=>?_
 have gT:uU E d []:=⟨by simp,by simp,by simp[xF]⟩;obtain⟨G',gp⟩:=zBl (w':=w.alloc (.cells #[] e)) gc gT hd (cells:=#[]) rfl (by simp) (.sl k []) (.slice (dq ⟨w.heap.size,0,dt⟩) 0 0)
  (by simp)
 refine⟨_,_,?_,G',gp⟩;have h0:(Qu 0:Array Nat)= #[]:=by rfl
 simp[execOp,ho,Instr.buildSlice,run_underlying ht,sizeOf,typeInfo,hi,Instr.fill,newRow,h0]
theorem zJw(k:Nat)(x:Operand)(ho:o.op=.move x∨o.op=.assign x)(hx:x=.const (.slice dt 0 0))(gj:o.dst=dq d)(hd:d<Γ.N):xR P Γ o E (E.app [(d,dq (.sl k []))] [(d,0)]):=by
 refine xR.value gj fun a w G gc=>?_
 refine⟨.slice dt 0 0,w,?_,_,vD gc rfl hd (fun _=>.slice dt 0 0) (fun _=>rfl) (.sl k []) (.slice dt 0 0) (by simp[mkV,Gh.put]) (by simp[R,Gh.put]) (by simp[Top,yV,xG])⟩;subst hx;rcases ho with ho|ho<;>simp[execOp,ho,Act.eval]
def Gh.nv(G:Gh)(d:Nat)(src:Nat→Option (Nat×List Nat))(φ:Nat→List Nat→Option (List Nat))(f:Nat→List Nat→Value):Gh where
 hd s z:=if s=d then(match z.getLast? with
  |some i=>f i z.dropLast
  |none=>.bool dv)else G.hd s z
 ad s z:=if s=d then(match z.getLast? with
  |some i=>(match src i with
   |some (x,q)=>G.ad x (z.dropLast++q)
   |none=>default)
  |none=>default)else G.ad s z
 lb b o:=match G.lb b o with
  |some (fl,s,z)=>(match φ s z with
   |some z'=>dq (fl,d,z')
   |none=>dq (fl,s,z))
  |none=>dt
 ow b:=match G.ow b with
  |some (s,z)=>(match φ s z with
   |some z'=>dq (d,z')
   |none=>dq (s,z))
  |none=>dt
theorem zSH{G:Gh}{a:Act}{w:World}{ps:List yJ}(gc:Rep Γ E G a.tmps w)(h:uU E d ps)(hd:d<Γ.N):
  ∃G',Rep Γ (E.app ((d,dq (.agg (ps.map yJ.tree)))::pWr d ps 0) ((d,0)::tJ ps)) G' (a.tmps.setIfInBounds d (.agg (ps.flatMap (tW G)).toArray)) w:=by
 obtain⟨f1,f0,f2,f3,f4,f5,f6⟩:=zER gc h;have hm:=gc.mem;have gL:Blk w w:=fun b cs e' h=>⟨cs,h,rfl⟩
 generalize gp:G.nv d (zFM ps) (zHb ps) (pHd G ps)=G'
 have ghd:∀i z,G'.hd d (z++[i])=pHd G ps i z:=by grind[Gh.nv]
 have ghd':∀s z,s≠d→G'.hd s z=G.hd s z:=by grind[Gh.nv]
 have glbm:∀b o fl x z z',G.lb b o=dq (fl,x,z)→zHb ps x z=dq z'→G'.lb b o=dq (fl,d,z'):=by grind[Gh.nv]
 have gowm:∀b x z z',G.ow b=dq (x,z)→zHb ps x z=dq z'→G'.ow b=dq (d,z'):=by grind[Gh.nv]
 have gf:∀s p,Off ((d,0)::tJ ps) s p→s≠d:=fun s p h e=>absurd (h 0 (by simp[e])) (by simp)
 have gw:qQ ((d,0)::tJ ps) G w G' w:=by
  refine⟨by grind,fun s p h=>?_,fun b o fl s p _ hl h=>⟨?_,rfl⟩,fun b s p hl h=>?_,gL⟩
  ·grind[Gh.nv]
  all_goals grind[Gh.nv]
 have gz:Mem Γ G' w:=by
  refine⟨fun s p=>?_,fun b o l hl=>?_,fun b l hl=>?_,hm.st,hm.fr,hm.sz,hm.bk⟩
  ·rw[←gp]
   simp only[Gh.nv];split
   ·split
    ·grind
    ·rfl
   ·exact hm.one s p
  ·rw[←gp]at hl
   simp only[Gh.nv]at hl;split at hl
   ·rename_i hg;exact hm.lb b o _ hg
   ·cases hl
  ·rw[←gp]at hl
   simp only[Gh.nv]at hl;split at hl
   ·rename_i hg;exact hm.ow b _ hg
   ·cases hl
 have g4:RF Γ.St G' w d (ps.map yJ.tree) [] 0:=by
  refine zM8 _ [] 0 (fun i u hu=>?_);rw[J8];cases hs:zFM ps i with
  |none=>grind
  |some xq=>
   obtain⟨x,q⟩:=xq;obtain⟨h1,h2,h3,h4⟩:=f4 i u x q hu hs;refine zJv u q [i] (zC5.okTups_get _ f1 i u hu) ⟨by grind,by grind[Gh.nv],by grind,
    by grind,gL⟩ (by grind[yM.mono]) h2
 refine⟨G',vC gc (by simp) gw gz ?_ ?_⟩
 ·grind[Wr.find,zBY,tJ]
 ·intro s t hs
  simp only[Wr.find]at hs;split at hs
  ·rename_i he
   subst he;simp at hs;subst hs;refine⟨?_,by simpa only[R]using g4,by simp only[Top];exact vS.of_clean _ f0⟩;rw[Jc];simp only[gc.size,hd,mkV,if_true];rw[zDm gc h G' ps 0 (by simp) ghd]
  ·rename_i gf
   obtain⟨i,u,h1,h2,h3⟩:=zBX ps d 0 s _ hs;simp only[J8]at h3;simp at h3;subst h3;obtain⟨h4,h5,h6⟩:=h.slot s u (by grind);have gX:∀xs,u≠.tup xs:=by rintro xs rfl;grind[T.okTup]
   have hi:(ps.map yJ.tree)[i]? =dq u:=by simp[h1,yJ.tree]
   have hr:=zAW _ [] 0 i u g4 hi;simp only[J8]at hr;refine zH2 (G:=G) (by rw[Jc];simp only[gf,if_false];exact(gc.ent s u h4).1) gX (by grind) (fun z=>?_) hr
   grind[pHd]
theorem zMA(off:Nat):∀(vs:List Value)(i:Nat)(cs:Array Value)(k:Nat),off+i+vs.length≤cs.size→
  ((vs.zipIdx i).foldl (fun cs(x:Value×Nat)=>cs.setIfInBounds (off+x.2) x.1) cs)[k]? =if off+i≤k∧k<off+i+vs.length then vs[k-(off+i)]? else cs[k]?
 | [],i,cs,k,_=>by simp;omega
 |v::vs,i,cs,k,h=>by
  simp only[Ki]at h;simp only[List.zipIdx_cons,List.foldl_cons];rw[zMA off vs (i+1) _ k (by simp;omega)]
  grind
theorem zFP{pv:yJ→List Value}(place:Nat→Option (Nat×Nat)):∀(vs:List (Nat×Value))(qs:List (Nat×yJ))(ps:List yJ)(cs:Array Value),cs.toList=ps.flatMap pv→
  (∀i p,ps[i]? =dq p→place i=dq (((ps.take i).flatMap pv).length,(pv p).length))→
  vs.map (·.1)=qs.map (·.1)→(∀(j:Nat)(v:Nat×Value)(q:Nat×yJ),vs[j]? =dq v→qs[j]? =dq q→v.2.cells.toList=pv q.2∧ ∃p,ps[q.1]? =dq p∧(pv p).length=(pv q.2).length)→
  ∃cs',Instr.fill place cs vs=dq cs'∧cs'.toList=(qs.foldl (fun ps q=>ps.set q.1 q.2) ps).flatMap pv
 | [],[],ps,cs,gZ,_,_,_=>⟨cs,rfl,gZ⟩
 | [],_::_,_,_,_,_,h,_=>by simp at h
 |_::_,[],_,_,_,_,h,_=>by simp at h
 |(i,v)::vs,(i',q)::qs,ps,cs,gZ,fj,hi,hq=>by
  simp only[Jl,Qs.injEq]at hi;obtain⟨aP,hi⟩:=hi;subst aP;obtain⟨h1,p,h2,h3⟩:=hq 0 (i,v) (i,q) rfl rfl;dsimp only at h1 h2 h3;have aA:=fj i p h2;have gF:=(Jb.1 h2).1;have pQ:ps=ps.take i++p::ps.drop (i+1):=by grind[Q5,List.take_append_drop]
  have gC:ps.set i q=ps.take i++q::ps.drop (i+1):=by grind
  have ph:v.cells.size=(pv p).length:=by grind
  have gJ:cs.size=((ps.take i).flatMap pv).length+((pv p).length+((ps.drop (i+1)).flatMap pv).length):=by grind[Ka]
  have ek:(v.cells.zipIdx.foldl (fun cs(x:Value×Nat)=>cs.setIfInBounds (((ps.take i).flatMap pv).length+x.2) x.1) cs).toList=(ps.set i q).flatMap pv:=by
   rw[gC];simp only[Qh,Lb,←h1];apply Kt;intro k;rw[←Array.foldl_toList,Kh,show v.cells.zipIdx.toList=v.cells.toList.zipIdx 0 from by simp,zMA _ _ 0 cs k (by grind)];have aV:cs.toList=((ps.take i).flatMap pv)++(pv p++(ps.drop (i+1)).flatMap pv):=by grind
   have hvl2:v.cells.toList.length=(pv p).length:=by rw[h1,h3]
   rw[←Kh,aV]
   grind
  have aB:∀j p',(ps.set i q)[j]? =dq p'→place j=dq ((((ps.set i q).take j).flatMap pv).length,(pv p').length):=by
   intro j p' fK;have fH:(((ps.set i q).take j).flatMap pv).length=((ps.take j).flatMap pv).length:=by
    rw[gC]
    conv=>rhs;rw[pQ]
    by_cases hj:j≤i
    ·grind
    ·rw[Qa,Qa]
     simp only[Qh,Ji]
     congr 1
     have:j-(ps.take i).length=(j-(ps.take i).length-1)+1:=by simp;omega
     grind
   grind
  have hq':∀(j:Nat)(x:Nat×Value)(y:Nat×yJ),vs[j]? =dq x→qs[j]? =dq y→x.2.cells.toList=pv y.2∧ ∃p,(ps.set i q)[y.1]? =dq p∧(pv p).length=(pv y.2).length:=by
   intro j x y hx hy;obtain⟨h6,p',h7,h8⟩:=hq (j+1) x y (by grind) (by grind)
   grind
  obtain⟨cs',h4,h5⟩:=zFP place vs qs (ps.set i q) _ ek aB hi hq'
  grind[Instr.fill]
theorem vE{t:TypeId}{it:TypeInfo}{fields:Array Field}{z:Value}{places:List (Nat×Nat)}(hi:P.info? t=dq it)(hu:P.underlying t=dq (.struct fields))(hz:it.zero=dq z)
  (hp:fields.toList.mapM (fun f=>(P.info? f.type).map fun i=>(f.offset,i.size))=dq places)(parts:List (Nat×Value)):P.built t parts=Instr.fill (places.toArray[·]?) z.cells parts:=by
 grind[Program.built]
theorem zJx{t e:TypeId}{n:Nat}{it ie:TypeInfo}{z:Value}(hi:P.info? t=dq it)(hu:P.underlying t=dq (.array n e))(hz:it.zero=dq z)
  (he:P.info? e=dq ie)(parts:List (Nat×Value)):P.built t parts=Instr.fill (fun i=>dq (i*ie.size,ie.size)) z.cells parts:=by
 grind[Program.built]
theorem zEq{G:Gh}:(zs:List T)→(zs.map yJ.zero).flatMap (tW G)=sB zs
 | []=>rfl
 |z::zs=>by simp[tW,sB,←zEq (G:=G) zs]
theorem zP2(t:TypeId)(place:Nat→Option (Nat×Nat))(z:Value)(zs:List T)(pl:List (Nat×Operand))(qs:List (Nat×yJ))(ps:List yJ)(ho:o.op=.build t pl.toArray)(gj:o.dst=dq d)(hd:d<Γ.N)
  (hb:∀parts,P.built t parts=Instr.fill place z.cells parts)(hzv:sB zs=z.cells.toList)(hz:zAq zs=du)(fj:∀i u,zs[i]? =dq u→place i=dq (T.sizes (zs.take i),u.size))
  (gT:qs.foldl (fun ps q=>ps.set q.1 q.2) (zs.map yJ.zero)=ps)(gH:uU E d ps)(hix:pl.map (·.1)=qs.map (·.1))
  (hq:∀(j:Nat)(x:Nat×Operand)(q:Nat×yJ),pl[j]? =dq x→qs[j]? =dq q→zAe E x.2 q.2∧q.2∈ps∧ ∃u,zs[q.1]? =dq u∧u.size=q.2.tree.size):
  xR P Γ o E (E.app ((d,dq (.agg (ps.map yJ.tree)))::pWr d ps 0) ((d,0)::tJ ps)):=by
 refine xR.value gj fun a w G gc=>?_
 obtain⟨G',gp⟩:=zSH gc gH hd;have gv:∀(us:List T),zAq us=du→((us.map yJ.zero).flatMap (tW G)).length=T.sizes us:=by grind[zEq,zAX]
 obtain⟨cs',h1,h2⟩:=zFP (pv:=tW G) place (pl.map fun x=>(x.1,a.eval x.2)) qs (zs.map yJ.zero) z.cells (by rw[zEq,hzv]) (fun i p hp=>by
   rw[Jz]at hp;cases hu:zs[i]? with
   |none=>grind
   |some u=>
    simp[hu]at hp;subst hp;rw[fj i u hu,←Gj,gv _ (zOks_take zs i hz),tW,wN u (zOks_get zs hz i u hu)])
  (by grind[Function.comp_def]) (fun j v q hv hqj=>by
   rw[Jz]at hv;cases hx:pl[j]? with
   |none=>grind
   |some x=>
    simp[hx]at hv;subst hv;obtain⟨h3,h4,u,h5,h6⟩:=hq j x q hx hqj;refine⟨zA2 gc gH h4 h3,.zero u,by simp[h5],?_⟩;rw[tW,wN u (zOks_get zs hz _ u h5),h6];cases bg:q.2 with
    |slot s t=>
     rw[bg]at h4;obtain⟨_,_,h7⟩:=gH.slot s t h4;exact(wF t [] (by rintro xs rfl;grind[T.okTup])).symm
    |zero u'=>
     rw[bg]at h4;exact(wN u' (gH.zero u' h4)).symm)
 rw[gT]at h2;have h3:cs'=(ps.flatMap (tW G)).toArray:=by rw[←h2]
 refine⟨_,w,?_,G',gp⟩;have gx:=run_build (P:=P) w t (pl.map fun x=>(x.1,a.eval x.2)).toArray cs' (by grind);simp only[List.map_toArray,execOp,ho,Sem.run_bind]at gx ⊢
 simp_all
where
 zOks_get:(xs:List T)→zAq xs=du→ ∀(i:Nat)(x:T),xs[i]? =dq x→x.zOk=du
  | [],_,_,_,h=>by simp at h
  |y::ys,hk,i,x,h=>by
   simp only[zAq,J2]at hk;cases i with
   |zero=>grind
   |succ i=>exact zOks_get ys hk.2 i x (by grind)
 zOks_take:(xs:List T)→ ∀i,zAq xs=du→zAq (xs.take i)=du
  | [],i,_=>by simp[zAq]
  |y::ys,0,_=>by simp[zAq]
  |y::ys,i+1,hk=>by
   simp only[zAq,J2,L7]at hk ⊢
   exact⟨hk.1,zOks_take ys i hk.2⟩
end
end Go.Ab

namespace Go.Ab
open Go
mutual
def wO:T→T→Bool
 |.agg xs,.agg ys=>kL xs ys
 |.agg _,_=>dv
 |.tup _,_=>dv
 |_,.agg _=>dv
 |_,.tup _=>dv
 |.any,_|.lit _,_|.ro _,_|.same _ _,_|.addr _ _,_|.sub _ _ _ _ _,_|.sl _ _,_|.ptr _,_=>du
def kL:List T→List T→Bool
 | [],[]=>du
 |x::xs,y::ys=>wO x y&&kL xs ys
 | [],_::_=>dv
 |_::_,[]=>dv
end
mutual
theorem zBZ:(x y:T)→wO x y=du→x.size=y.size
 |.agg xs,.agg ys,h=>by simp only[wO]at h;simp only[T.size];exact zDD xs ys h
 |.agg _,.any,h|.agg _,.lit _,h|.agg _,.ro _,h|.agg _,.same _ _,h|.agg _,.addr _ _,h|.agg _,.sub _ _ _ _ _,h|.agg _,.sl _ _,h|.agg _,.ptr _,h|.agg _,.tup _,h=>by grind[wO]
 |.tup _,_,h=>by grind[wO]
 |.any,y,h|.lit _,y,h|.ro _,y,h|.same _ _,y,h|.addr _ _,y,h|.sub _ _ _ _ _,y,h|.sl _ _,y,h|.ptr _,y,h=>by cases y<;>simp[wO]at h<;>simp[T.size]
theorem zDD:(xs ys:List T)→kL xs ys=du→T.sizes xs=T.sizes ys
 | [],[],_=>rfl
 |x::xs,y::ys,h=>by simp only[kL,J2]at h;simp only[T.sizes,zBZ x y h.1,zDD xs ys h.2]
 | [],_::_,h=>by grind[kL]
 |_::_,[],h=>by grind[kL]
end
section
variable {G:Gh}{w:World}{s:Nat}
mutual
theorem zI0:(t:T)→ ∀(p:List Nat)(b o j:Nat),Loc G w s t p b o→j<t.size→ ∃y,G.lb b (o+j)=dq (dv,s,y++p)
 |.agg xs,p,b,o,j,h,hj=>by simp only[Loc,T.size]at h hj;exact zMB xs p 0 b o j h.2 hj
 |.any,p,b,o,j,h,hj|.lit _,p,b,o,j,h,hj|.ro _,p,b,o,j,h,hj|.same _ _,p,b,o,j,h,hj|.addr _ _,p,b,o,j,h,hj|.sub _ _ _ _ _,p,b,o,j,h,hj|.sl _ _,p,b,o,j,h,hj|.ptr _,p,b,o,j,h,hj=>by
  simp only[Loc,T.size]at h hj
  simp_all
 |.tup _,_,_,_,_,h,_=>by simp only[Loc]at h
theorem zMB:(xs:List T)→ ∀(p:List Nat)(i b o j:Nat),wJ G w s xs p i b o→j<T.sizes xs→ ∃y,G.lb b (o+j)=dq (dv,s,y++p)
 | [],_,_,_,_,_,_,hj=>by grind[T.sizes]
 |x::xs,p,i,b,o,j,h,hj=>by
  simp only[wJ,T.sizes]at h hj
  by_cases gF:j<x.size
  ·obtain⟨y,hy⟩:=zI0 x (i::p) b o j h.1 gF
   exact⟨y++[i],by grind⟩
  ·obtain⟨y,hy⟩:=zMB xs p (i+1) b (o+x.size) (j-x.size) h.2 (by omega)
   grind
end
mutual
theorem zP3{G':Gh}{w':World}:(u u0:T)→ ∀(p:List Nat)(b o:Nat),wO u u0=du→(∀y,u.inT y.reverse=du→G'.ad s (y++p)=G.ad s (y++p))→
  (∀b o y,G.lb b o=dq (dv,s,y++p)→G'.lb b o=dq (dv,s,y++p))→(∀j v,(vals G' s u p)[j]? =dq v→yH w' b (o+j)=dq v)→Loc G w s u0 p b o→Loc G' w' s u p b o
 |.agg xs,.agg ys,p,b,o,h,ha,hl,hc,h0=>by
  simp only[Loc,wO]at h h0 ⊢
  refine⟨by have:=ha [] rfl;grind,zMC xs ys p 0 b o h (fun i x hx y hy=>?_) (by omega) (by grind[vals]) h0.2⟩
  grind[Hp,T.inT]
 |.agg _,.any,_,_,_,h,_,_,_,_|.agg _,.lit _,_,_,_,h,_,_,_,_|.agg _,.ro _,_,_,_,h,_,_,_,_|.agg _,.same _ _,_,_,_,h,_,_,_,_|.agg _,.addr _ _,_,_,_,h,_,_,_,_|.agg _,.sub _ _ _ _ _,_,_,_,h,_,_,_,_|.agg _,.sl _ _,_,_,_,h,_,_,_,_|.agg _,.ptr _,_,_,_,h,_,_,_,_|.agg _,.tup _,_,_,_,h,_,_,_,_=>by grind[wO]
 |.tup _,_,_,_,_,h,_,_,_,_=>by grind[wO]
 |.any,u0,p,b,o,h,ha,hl,hc,h0|.lit _,u0,p,b,o,h,ha,hl,hc,h0|.ro _,u0,p,b,o,h,ha,hl,hc,h0|.same _ _,u0,p,b,o,h,ha,hl,hc,h0|.addr _ _,u0,p,b,o,h,ha,hl,hc,h0|.sub _ _ _ _ _,u0,p,b,o,h,ha,hl,hc,h0|.sl _ _,u0,p,b,o,h,ha,hl,hc,h0|.ptr _,u0,p,b,o,h,ha,hl,hc,h0=>by have h1:=wC (by cases u0<;>simp[wO]at h<;>rfl) h0;have h2:=ha [] rfl;rw[Jy]at h2;simp only[Loc];exact⟨h2.trans h1.1,by simp_all,by simpa using hc 0 (G'.hd s p) (by simp[vals])⟩
theorem zMC{G':Gh}{w':World}:(xs ys:List T)→ ∀(p:List Nat)(j b o:Nat),kL xs ys=du→(∀i x,xs[i]? =dq x→ ∀y,x.inT y.reverse=du→G'.ad s (y++((j+i)::p))=G.ad s (y++((j+i)::p)))→
  (∀b o y,G.lb b o=dq (dv,s,y++p)→G'.lb b o=dq (dv,s,y++p))→(∀i v,(zX G' s xs p j)[i]? =dq v→yH w' b (o+i)=dq v)→wJ G w s ys p j b o→wJ G' w' s xs p j b o
 | [],[],_,_,_,_,_,_,_,_,_=>by simp only[wJ]
 |x::xs,y::ys,p,j,b,o,h,ha,hl,hc,h0=>by
  simp only[kL,J2,wJ]at h h0 ⊢
  have hs:=zBZ x y h.1;have gX:∀zs,x≠.tup zs:=by rintro zs rfl;grind[wO]
  refine⟨zP3 x y (j::p) b o h.1 (fun z hz=>by simpa using ha 0 x (by simp) z hz) (fun b o z hz=>by have:=hl b o (z++[j]) (by grind);grind) (fun i v hv=>hc i v ?_) h0.1,
   zMC xs ys p (j+1) b (o+x.size) h.2 (fun i z hz=>by have:=ha (i+1) z (by grind);grind) hl (fun i v hv=>?_) (by grind)⟩
  ·grind[zX]
  ·have:=hc (x.size+i) v (by
    grind[zX,wF])
   grind
 | [],_::_,_,_,_,_,h,_,_,_,_=>by grind[kL]
 |_::_,[],_,_,_,_,h,_,_,_,_=>by grind[kL]
end
end
def zFi(p:yJ)(q:List Nat)(s:Nat)(z:List Nat):Option (List Nat):=
 match p with
 |.slot s0 t=>if sA t&&s0==s then dq (z++q)else dt
 |.zero _=>dt
def sHd(G:Gh)(p:yJ)(y:List Nat):Value:=
 match p with
 |.slot s _=>G.hd s y
 |.zero u=>qY (zhd u y.reverse)
def sWr(r:Nat)(q:List Nat):yJ→Wr
 |.slot s t=>if sA t then[(s,dq (cpT r t q))]else[]
 |.zero _=>[]
def Gh.st(G:Gh)(r:Nat)(q:List Nat)(p:yJ):Gh where
 hd s z:=if s=r∧q<:+z then sHd G p (z.take (z.length-q.length))else G.hd s z
 ad s z:=if s=r∧q<:+z∧p.tree.inT (z.take (z.length-q.length)).reverse=dv then(match p with
  |.slot s0 _=>G.ad s0 (z.take (z.length-q.length))
  |.zero _=>default)else G.ad s z
 lb b o:=match G.lb b o with
  |some (fl,s,z)=>(match zFi p q s z with
   |some z'=>dq (fl,r,z')
   |none=>dq (fl,s,z))
  |none=>dt
 ow b:=match G.ow b with
  |some (s,z)=>(match zFi p q s z with
   |some z'=>dq (r,z')
   |none=>dq (s,z))
  |none=>dt
mutual
theorem zJy{Γ:Ctx}{G:Gh}{w:World}(hm:Mem Γ G w){s:Nat}:(t:T)→ ∀(p:List Nat)(v:Value),v∈vals G s t p→v.oneCell'=du
 |.agg xs,p,v,h=>by simp only[vals]at h;exact zC7 hm xs p 0 v h
 |.any,p,v,h|.lit _,p,v,h|.ro _,p,v,h|.same _ _,p,v,h|.addr _ _,p,v,h|.sub _ _ _ _ _,p,v,h|.sl _ _,p,v,h|.ptr _,p,v,h|.tup _,p,v,h=>by simp only[vals,List.mem_singleton]at h;rw[h];exact hm.one s p
theorem zC7{Γ:Ctx}{G:Gh}{w:World}(hm:Mem Γ G w){s:Nat}:(xs:List T)→ ∀(p:List Nat)(j:Nat)(v:Value),v∈zX G s xs p j→v.oneCell'=du
 | [],_,_,_,h=>by grind[zX]
 |x::xs,p,j,v,h=>by
  simp only[zX,K6]at h;rcases h with h|h
  ·exact zJy hm x _ v h
  ·exact zC7 hm xs p _ v h
end
mutual
theorem zEr:(u:T)→u.zOk=du→ ∀v∈tG u,v.oneCell'=du
 |.lit v,h,x,hx=>by simp only[tG,List.mem_singleton]at hx;rw[hx];exact h
 |.sl _ _,_,x,hx=>by simp only[tG,List.mem_singleton]at hx;rw[hx];rfl
 |.agg xs,h,x,hx=>by simp only[T.zOk]at h;simp only[tG]at hx;exact zFQ xs h x hx
 |.any,h,_,_|.ro _,h,_,_|.same _ _,h,_,_|.addr _ _,h,_,_|.sub _ _ _ _ _,h,_,_|.ptr _,h,_,_|.tup _,h,_,_=>by grind[T.zOk]
theorem zFQ:(xs:List T)→zAq xs=du→ ∀v∈sB xs,v.oneCell'=du
 | [],_,_,h=>by grind[sB]
 |x::xs,h,v,hv=>by
  simp only[zAq,J2]at h;simp only[sB,K6]at hv;rcases hv with hv|hv
  ·exact zEr x h.1 v hv
  ·exact zFQ xs h.2 v hv
end
theorem zJz(y q:List Nat):(y++q).take ((y++q).length-q.length)=y:=by simp
theorem zLv{Γ:Ctx}{G G':Gh}{w':World}{s d:Nat}{q:List Nat}{t:T}{v:Option Value}(hv:v=dq (mkV G s t []))(gX:∀xs,t≠.tup xs)(hs:∀p,G'.hd s p=G.hd s p)(pI:∀z,G'.hd d (z++q)=G.hd s z)
  (hr:R Γ.St G' w' d t q):Ent Γ G' w' v s (cpT d t q):=by
 have hz:∀z,G'.hd s (z++[])=G'.hd d (z++q):=by grind
 refine⟨?_,?_,sL d t q⟩
 ·rw[hv,zA1 (G:=G') (G':=G') t q [] gX hz,kY G s t [] gX,zB7 t [] q (fun z=>by rw[pI,Jk])]
 ·exact zDg (G:=G') (G':=G') (fun _=>rfl) t q [] hz gX (yM.triv (fun _ _=>⟨rfl,rfl⟩) _) hr
section
variable {P:Program}{Γ:Ctx}{E:Env}{o:Oper}
theorem qZ:(f:List Nat)→ ∀(t u:T),zT t→zT u→zT (t.set f u)
 | [],t,u,_,hu=>by grind[T.set]
 |i::f,t,u,ht,hu=>by
  cases t with
  |sl k xs=>
   simp only[T.set];split
   ·rename_i x hx
    simp only[zT,yM]at ht ⊢
    exact sets_clean xs i _ ht (qZ f x u (vX xs ht i x hx) hu)
   ·exact ht
  |agg xs=>
   simp only[T.set];split
   ·rename_i x hx
    simp only[zT,yM]at ht ⊢
    exact sets_clean xs i _ ht (qZ f x u (vX xs ht i x hx) hu)
   ·exact ht
  |tup xs=>
   simp only[T.set];split
   ·rename_i x hx
    simp only[zT,yM]at ht ⊢
    exact sets_clean xs i _ ht (qZ f x u (vX xs ht i x hx) hu)
   ·exact ht
  |ptr t=>
   simp only[T.set];split
   ·simp only[zT,yM]at ht ⊢
    exact qZ f t u ht hu
   ·exact ht
  |_=>grind[T.set]
where sets_clean:(xs:List T)→ ∀(i:Nat)(y:T),yV xs→zT y→yV (xs.set i y)
 | [],_,_,_,_=>by grind
 |x::xs,0,y,h,hy=>by simp only[L8,yV,xG]at h ⊢;grind
 |x::xs,i+1,y,h,hy=>by simp only[Ko,yV,xG]at h ⊢;exact⟨h.1,sets_clean xs i y h.2 hy⟩
theorem zH3(T':TypeId)(ti:TypeInfo)(x y:Operand)(r:Nat)(q:List Nat)(tr u0:T)(p:yJ)(ho:o.op=.store T' x y)(gj:o.dst=dt)
  (hi:P.info? T'=dq ti)(gv:ti.size=p.tree.size)(pS:0<ti.size)(hx:zBK Γ E x r q)(hr:E r=dq tr)(bZ:tr.single=du)(hg:tr.get q.reverse=dq u0)(hl:tr.locd q.reverse=du)
  (eV:wO p.tree u0=du)(hy:zAe E y p)(gT:uU E r [p]):
  xR P Γ o E (E.app ((r,dq (tr.set q.reverse p.tree))::sWr r q p) ((r,q.length)::tJ [p])):=by
 refine xR.skip gj fun a w G gc=>?_
 have hm:=gc.mem;have mi:=hx a w G gc;obtain⟨e3,e4,e5⟩:=gc.ent r _ hr;have mz:q≠[]:=by rintro rfl;simp[T.locd]at hl
 obtain⟨i0,f0,py⟩:∃i f,q.reverse=i::f:=by
  cases h:q.reverse with
  |nil=>exact absurd (by simpa using h) mz
  |cons i f=>exact⟨i,f,rfl⟩
 have mS:∀v:T,(tr.set q.reverse v).single=du∧zT tr:=by
  intro v;rw[py]at hg ⊢
  cases tr with
  |sl k xs=>exact⟨by simp only[T.set];split<;>rfl,by simpa only[Top,zT,yM]using e5⟩
  |ptr t=>exact⟨by simp only[T.set];split<;>rfl,by simpa only[Top,zT,yM]using e5⟩
  |agg xs=>simp[T.single]at bZ
  |tup xs=>simp[T.single]at bZ
  |_=>simp[T.get]at hg
 obtain⟨b,ob,cs,et,cV,gL,aU⟩:=(zBU q.reverse tr u0 [] e4 hg).2 hl;simp only[rp,Ks,Jk]at cV;have hru0:=(zBU q.reverse tr u0 [] e4 hg).1;have fd:=zDi cV;have mV:=zBZ _ _ eV;have hc:=zA2 gc gT (by simp) hy;have cz:(a.eval y).cells.size=p.tree.size:=by
  rw[←Ka,hc];cases p with
  |slot s t=>obtain⟨_,_,h3⟩:=gT.slot s t (by simp);exact wF t [] (by rintro xs rfl;simp[T.okTup]at h3)
  |zero u=>exact wN u (gT.zero u (by simp))
 have gn:∀v∈(a.eval y).cells.toList,v.oneCell'=du:=by
  rw[hc];intro v hv;cases p with
  |slot s t=>exact zJy hm t [] v hv
  |zero u=>exact zEr u (gT.zero u (by simp)) v hv
 generalize ez:w.setRow b (cs.toList.take ob++(a.eval y).cells.toList++cs.toList.drop (ob+(a.eval y).cells.toList.length)).toArray=w'
 have ek:w'.heap[b]? =dq (.cells (cs.toList.take ob++(a.eval y).cells.toList++cs.toList.drop (ob+(a.eval y).cells.toList.length)).toArray et (0,0)):=by rw[←ez];exact setRow_heap w b cs _ et _ gL
 have gD:∀b',b'≠b→w'.heap[b']? =w.heap[b']?:=fun b' h=>by rw[←ez];exact setRow_other w b b' _ h
 have gQ:w'.heap.size=w.heap.size:=by rw[←ez];exact size_setRow w b _
 have gJ:(a.eval y).cells.toList.length=u0.size:=by rw[Ka,cz,mV]
 have eE:∀k,yH w' b k=if ob≤k∧k<ob+u0.size then(tW G p)[k-ob]? else yH w b k:=by
  intro k;simp only[yH,World.cell?,ek,gL,Uh,Lu,if_false];rw[←hc,←gJ]at*
  rw[←Kh,←Kh (xs:=cs)];simp only[];have gZ:cs.toList.length=cs.size:=Ka ..
  generalize (a.eval y).cells.toList=V at*
  by_cases h1:k<ob
  ·rw[if_neg (by omega),Jh,L6 (by simp;omega),U6 h1]
  ·by_cases h2:k<ob+V.length
   ·rw[if_pos ⟨by omega,h2⟩,Jh,Jg (by simp;omega),L6 (by simp;omega)]
    congr 1;simp;omega
   ·rw[if_neg (by omega),Jh,Jg (by simp;omega),Jg (by simp;omega),Lg]
    congr 1;simp;omega
 have fw:∀b' o' fl s z,G.lb b' o'=dq (fl,s,z)→ ¬(s=r∧q<:+z)→yH w' b' o'=yH w b' o':=by
  intro b' o' fl s z h1 h2
  by_cases hb:b'=b
  ·subst hb
   rw[eE];split
   ·rename_i h3
    obtain⟨y',h4⟩:=zI0 u0 q b' ob (o'-ob) cV (by omega);rw[show ob+(o'-ob)=o' from by omega,h1]at h4;simp at h4;exact absurd ⟨h4.2.1,y',h4.2.2.symm⟩ h2
   ·rfl
  ·simp[yH,World.cell?,gD b' hb]
 have es:Blk w w':=by
  intro b' cs' e' h1
  by_cases hb:b'=b
  ·subst hb
   rw[gL]at h1;simp at h1;obtain⟨rfl,rfl⟩:=h1;exact⟨_,ek,by simp;have:cs.toList.length=cs.size:=Ka ..;omega⟩
  ·exact⟨cs',by rw[gD b' hb];exact h1,rfl⟩
 generalize gp:G.st r q p=G'
 have ghd:∀y',G'.hd r (y'++q)=sHd G p y':=fun y'=>by rw[←gp];simp[Gh.st]
 have ghd':∀s z,¬(s=r∧q<:+z)→G'.hd s z=G.hd s z:=fun s z h=>by rw[←gp];simp only[Gh.st];rw[if_neg h]
 have gad:∀s z,¬(s=r∧q<:+z)→G'.ad s z=G.ad s z:=fun s z h=>by rw[←gp];simp only[Gh.st];rw[if_neg (fun h2=>h ⟨h2.1,h2.2.1⟩)]
 have gadf:∀y',p.tree.inT y'.reverse=du→G'.ad r (y'++q)=G.ad r (y'++q):=fun y' h=>by rw[←gp];simp only[Gh.st,zJz];rw[if_neg (by simp[h])]
 have gadm:∀s0 t y',p=.slot s0 t→t.inT y'.reverse=dv→G'.ad r (y'++q)=G.ad s0 y':=fun s0 t y' h1 h2=>by subst h1;rw[←gp];simp only[Gh.st,zJz,yJ.tree];rw[if_pos];simp[h2]
 have glb:∀b' o' fl s z,G.lb b' o'=dq (fl,s,z)→zFi p q s z=dt→G'.lb b' o'=dq (fl,s,z):=fun b' o' fl s z h1 h2=>by rw[←gp];simp[Gh.st,h1,h2]
 have glbm:∀b' o' fl s z z',G.lb b' o'=dq (fl,s,z)→zFi p q s z=dq z'→G'.lb b' o'=dq (fl,r,z'):=fun b' o' fl s z z' h1 h2=>by rw[←gp];simp[Gh.st,h1,h2]
 have gow:∀b' s z,G.ow b'=dq (s,z)→zFi p q s z=dt→G'.ow b'=dq (s,z):=fun b' s z h1 h2=>by rw[←gp];simp[Gh.st,h1,h2]
 have gowm:∀b' s z z',G.ow b'=dq (s,z)→zFi p q s z=dq z'→G'.ow b'=dq (r,z'):=fun b' s z z' h1 h2=>by rw[←gp];simp[Gh.st,h1,h2]
 have bl:∀s z,(∀n,(s,n)∉(r,q.length)::tJ [p])→zFi p q s z=dt:=by
  intro s z h;cases p with
  |zero u=>rfl
  |slot s0 t=>
   simp only[zFi];rw[if_neg];intro h2;simp only[J2,beq_iff_eq]at h2;obtain⟨h3,rfl⟩:=h2;exact h 1 (by simp[tJ,xF,h3])
 have fV:∀z,zFi p q r z=dt:=by
  intro z;cases p with
  |zero u=>rfl
  |slot s0 t=>
   simp only[zFi];rw[if_neg];intro h2;simp only[J2,beq_iff_eq]at h2;obtain⟨h3,rfl⟩:=h2;have:=(Km.1 gT.dist).1;simp[xF,h3]at this
 have pC:∀s z,Off ((r,q.length)::tJ [p]) s z→ ¬(s=r∧q<:+z):=by
  rintro s z h ⟨rfl,h2⟩
  have:=h q.length (by simp);have:=h2.length_le;omega
 have gw:qQ ((r,q.length)::tJ [p]) G w G' w':=by
  refine⟨fun s z h=>ghd' s z (pC s z h),fun s z h=>gad s z (pC s z h),fun b' o' fl s z _ h1 h2=>⟨glb b' o' fl s z h1 (bl s z h2),fw b' o' fl s z h1 ?_⟩,fun b' s z h1 h2=>gow b' s z h1 (bl s z h2),es⟩
  rintro⟨rfl,_⟩
  exact h2 q.length (by simp)
 have mH:zBV Γ w b:=by obtain⟨y',h4⟩:=zI0 u0 q b ob 0 cV (by omega);exact hm.lb _ _ _ h4
 have gz:Mem Γ G' w':=by
  refine⟨fun s z=>?_,fun b' o' l hl=>?_,fun b' l hl=>?_,fun b' x' ej=>?_,fun b' h1 h2=>?_,by rw[gQ];exact hm.sz,hm.bk.trans es (by rw[←ez];rfl) (by rw[←ez];rfl)⟩
  ·by_cases h:s=r∧q<:+z
   ·obtain⟨rfl,y',rfl⟩:=h
    rw[ghd];unfold sHd;split
    ·exact hm.one _ _
    ·exact zBi _
   ·rw[ghd' s z h];exact hm.one s z
  ·have:∃l',G.lb b' o'=dq l':=by
    rw[←gp]at hl;simp only[Gh.st]at hl;split at hl
    ·exact⟨_,by assumption⟩
    ·cases hl
   obtain⟨l',pZ⟩:=this;have:=hm.lb b' o' l' pZ;exact⟨by rw[gQ];exact this.1,this.2⟩
  ·have:∃l',G.ow b'=dq l':=by
    rw[←gp]at hl;simp only[Gh.st]at hl;split at hl
    ·exact⟨_,by assumption⟩
    ·cases hl
   obtain⟨l',pZ⟩:=this;have:=hm.ow b' l' pZ;exact⟨by rw[gQ];exact this.1,this.2⟩
  ·have hb:b'≠b:=by rintro rfl;rw[mH.2.2]at ej;cases ej
   rw[gD b' hb];exact hm.st b' x' ej
  ·have hb:b'≠b:=by
    rintro rfl
    rcases mH.2.1 with h3|h3
    ·omega
    ·exact h2 h3
   rw[gD b' hb];exact hm.fr b' h1 h2
 have ae:Upd G w G' w' r q:=by refine⟨fun z h=>ghd' r z (fun h2=>h h2.2),fun z h=>gad r z (fun h2=>h h2.2),fun b' o' fl z h1 h=>⟨glb b' o' fl r z h1 (fV z),fw b' o' fl r z h1 (fun h2=>h h2.2)⟩,fun b' z h1 _=>gow b' r z h1 (fV z),es⟩
 have mu:R Γ.St G' w' r p.tree q:=by
  cases hp:p with
  |zero u=>
   refine zIy u q (gT.zero u (by simp[hp])) (fun z=>by rw[ghd];simp[sHd,hp])
  |slot s0 t=>
   obtain⟨h1,h2,h3⟩:=gT.slot s0 t (by simp[hp]);have eO:=(gc.ent s0 t h1).2.1
   by_cases ce:sA t=du
   ·have al:s0≠r:=by
     rintro rfl
     have:=(Km.1 gT.dist).1;simp[hp,xF,ce]at this
    refine zJv t [] q h3 ⟨fun z=>by rw[ghd,Jk];simp[sHd,hp],fun z hz=>by rw[Jk];exact gadm s0 t z hp hz,fun b' o' fl z _ h4=>?_,fun b' z h4=>?_,es⟩ (yM.mono (fun _ _=>False.elim) t h2) eO
    ·rw[Jk]at h4
     exact⟨glbm b' o' fl s0 z _ h4 (by simp[zFi,hp,ce]),fw b' o' fl s0 z h4 (fun h5=>al h5.1)⟩
    ·rw[Jk]at h4
     exact gowm b' s0 z _ h4 (by simp[zFi,hp,ce])
   ·have hh:G'.hd r q=G.hd s0 []:=by have:=ghd [];rw[Jy]at this;rw[this];simp[sHd,hp]
    cases t<;>simp[sA]at ce<;>simp only[R,yJ.tree]at eO ⊢ <;>rw[hh]<;>exact eO
 have fO:vals G' r p.tree q=tW G p:=by
  cases hp:p with
  |zero u=>exact zEp u q (gT.zero u (by simp[hp])) (fun z=>by rw[ghd];simp[sHd,hp])
  |slot s0 t=>exact zAO t [] q (fun z=>by rw[ghd];simp[sHd,hp])
 have bw:∀b' o',Loc G w r u0 q b' o'→Loc G' w' r p.tree q b' o':=by
  intro b' o' h1;have h2:b'=b∧o'=ob:=by have:=(zDi h1).symm.trans fd;simp at this;exact this
  obtain⟨rfl,rfl⟩:=h2;refine zP3 p.tree u0 q b' o' eV (fun y' h=>gadf y' h) (fun b2 o2 y' h=>glb b2 o2 dv r _ h (fV _)) (fun j v hv=>?_) h1;rw[fO]at hv;have hj:=(Jb.1 hv).1;have fj:(tW G p).length=u0.size:=by rw[←hc,gJ]
  rw[eE,if_pos ⟨by omega,by omega⟩,show o'+j-o'=j from by omega];exact hv
 have mZ:R Γ.St G' w' r (tr.set q.reverse p.tree) []:=by
  have cB:rp q.reverse []=q:=by simp[rp]
  refine zFE q.reverse tr p.tree u0 [] (by rw[cB];exact ae) e4 hg mV (yM.mono (fun _ _=>False.elim) tr (mS .any).2) (by rw[cB];exact bw) (by rw[cB];exact mu)
 have gK:=run_storeCells_at P b ob et (a.eval y).cells.toList 0 cs w gL (by omega) gn;simp only[Qx]at gK;rw[ez]at gK;refine⟨w',?_,G',vC gc rfl gw gz ?_ ?_⟩
 ·have ah:(a.eval y).cells.size=ti.size:=by rw[cz,gv]
  simp[execOp,ho,mi,fd,Instr.storeAt,tD,storeVar,sizeOf,typeInfo,hi,ah,gK]
 ·intro s hs
  simp only[Wr.find]at hs;split at hs
  ·cases hs
  ·rename_i gf
   refine⟨fun n hn=>?_,rfl⟩;simp only[Jq,Ja1.injEq]at hn;rcases hn with⟨h1,_⟩|hn
   ·exact gf h1.symm
   ·cases p with
    |zero u=>simp[tJ,xF]at hn
    |slot s0 t=>
     by_cases ce:sA t=du
     ·simp[tJ,xF,ce]at hn
      simp[sWr,ce,Wr.find,hn.1.symm]at hs
     ·simp[tJ,xF,ce]at hn
 ·intro s t hs
  simp only[Wr.find]at hs;split at hs
  ·rename_i he
   subst he;simp at hs;subst hs;refine⟨?_,mZ,Top.of_clean _ (qZ _ _ _ (mS .any).2 ?_)⟩
   ·rw[e3,xH (mS p.tree).1,xH bZ]
    congr 1
    exact(ghd' r [] (fun h=>mz (by simpa using h.2))).symm
   ·cases p with
    |zero u=>exact(zBj u (gT.zero u (by simp))).1
    |slot s0 t=>exact(gT.slot s0 t (by simp)).2.1
  ·rename_i gf
   cases hp:p with
   |zero u=>simp[sWr,hp,Wr.find]at hs
   |slot s0 t0=>
    by_cases ce:sA t0=du
    ·simp only[sWr,hp,ce,if_true,Wr.find]at hs
     split at hs
     ·rename_i he
      subst he;simp at hs;subst hs;obtain⟨h1,h2,h3⟩:=gT.slot s0 t0 (by simp[hp]);refine zLv (G:=G) (gc.ent s0 t0 h1).1 (by rintro xs rfl;simp[T.okTup]at h3) (fun z=>ghd' s0 z (fun h=>gf h.1.symm)) (fun z=>by rw[ghd];simp[sHd,hp]) (by rw[hp]at mu;exact mu)
     ·cases hs
    ·simp[sWr,hp,ce,Wr.find]at hs
theorem zP4(T':TypeId)(ti:TypeInfo)(x y:Operand)(r:Nat)(q:List Nat)(tr u0:T)(p:yJ)(ho:o.op=.store T' x y)(gj:o.dst=dt)
  (hi:P.info? T'=dq ti)(gv:ti.size=p.tree.size)(pS:0<ti.size)(hx:opT E x=dq (.addr r q))(hr:E r=dq tr)(bZ:tr.single=du)(hg:tr.get q.reverse=dq u0)(hl:tr.locd q.reverse=du)
  (eV:wO p.tree u0=du)(hy:zAe E y p)(gT:uU E r [p]):
  xR P Γ o E (E.app ((r,dq (tr.set q.reverse p.tree))::sWr r q p) ((r,q.length)::tJ [p])):=
 by grind[zH3,zBK.addr]
end
end Go.Ab

namespace Go.Ab
open Go
section
variable {G G':Gh}{s:Nat}
theorem zLw(xs:List T):∀(p:List Nat)(j:Nat),(∀k,j≤k→ ∀z,G'.hd s (z++(k::p))=G.hd s (z++(k::p)))→zX G' s xs p j=zX G s xs p j:=by
 induction xs with
 |nil=>grind[zX]
 |cons z zs ih=>
  intro p j h;simp only[zX];rw[zAO z (j::p) (j::p) (h j (Jd _)),ih p (j+1) (by grind)]
theorem zOc(xs:List T):∀(p:List Nat)(j i:Nat)(x y:T),xs[i]? =dq x→(∀k,k≠j+i→ ∀z,G'.hd s (z++(k::p))=G.hd s (z++(k::p)))→
  vals G' s y ((j+i)::p)=vals G s x ((j+i)::p)→zX G' s (xs.set i y) p j=zX G s xs p j:=by
 induction xs with
 |nil=>simp
 |cons z zs ih=>
  intro p j i x y h hz hy;cases i with
  |zero=>
   grind[zX,zLw]
  |succ i=>
   simp only[Ko,zX];rw[zAO z (j::p) (j::p) (hz j (by omega)),ih p (j+1) i x y (by grind) (by grind) (by grind)]
theorem zJ0:(f:List Nat)→ ∀(t u u0:T)(p:List Nat),t.get f=dq u0→u0.single=du→u.single=du→(∀z,(rp f p<:+z→z=rp f p)→G'.hd s z=G.hd s z)→vals G' s (t.set f u) p=vals G s t p
 | [],t,u,u0,p,hg,h0,h1,hh=>by simp[T.get]at hg;subst hg;have:G'.hd s p=G.hd s p:=hh p (by simp[rp]);simp only[T.set];cases t<;>simp[T.single]at h0<;>cases u<;>simp[T.single]at h1<;>simp[vals,this]
 |i::f,t,u,u0,p,hg,h0,h1,hh=>by
  rw[zAM]at hh;have hp:G'.hd s p=G.hd s p:=by grind[kK]
  cases t with
  |agg xs=>
   simp only[T.get]at hg;cases hx:xs[i]? with
   |none=>grind
   |some x=>
    rw[hx]at hg;simp only[T.set,hx,vals];refine zOc xs p 0 i x _ hx (by grind[qV]) ?_;rw[J8];exact zJ0 f x u u0 (i::p) hg h0 h1 hh
  |tup xs=>
   grind[T.set,vals]
  |sl k xs=>grind[T.set,vals]
  |ptr t=>grind[T.set,vals]
  |_=>grind[T.get]
theorem zJ1(f:List Nat)(t u u0:T)(p:List Nat)(hg:t.get f=dq u0)(h0:u0.single=du)(h1:u.single=du)(hh:∀z,(rp f p<:+z→z=rp f p)→G'.hd s z=G.hd s z)(gX:∀xs,t≠.tup xs):
  tM G' s (t.set f u) p=tM G s t p:=by
 have h:=zJ0 f t u u0 p hg h0 h1 hh;cases f with
 |nil=>
  simp[T.get]at hg;subst hg;have:G'.hd s p=G.hd s p:=hh p (by simp[rp]);simp only[T.set];cases t<;>simp[T.single]at h0<;>cases u<;>simp[T.single]at h1<;>simp[tM,this]
 |cons i f=>
  rw[zAM]at hh;have hp:G'.hd s p=G.hd s p:=by grind[kK]
  cases t with
  |agg xs=>
   grind[T.set,vals,tM]
  |tup xs=>grind
  |sl k xs=>grind[T.set,tM]
  |ptr t=>grind[T.set,tM]
  |_=>grind[T.get]
theorem zOd(xs:List T):∀(p:List Nat)(j:Nat),(∀k,j≤k→ ∀z,G'.hd s (z++(k::p))=G.hd s (z++(k::p)))→kX G' s xs p j=kX G s xs p j:=by
 induction xs with
 |nil=>grind[kX]
 |cons z zs ih=>
  intro p j h;simp only[kX];rw[zB7 z (j::p) (j::p) (h j (Jd _)),ih p (j+1) (by grind)]
theorem zP5(xs:List T):∀(p:List Nat)(j i:Nat)(x y:T),xs[i]? =dq x→(∀k,k≠j+i→ ∀z,G'.hd s (z++(k::p))=G.hd s (z++(k::p)))→
  tM G' s y ((j+i)::p)=tM G s x ((j+i)::p)→kX G' s (xs.set i y) p j=kX G s xs p j:=by
 induction xs with
 |nil=>simp
 |cons z zs ih=>
  intro p j i x y h hz hy;cases i with
  |zero=>
   grind[kX,zOd]
  |succ i=>
   simp only[Ko,kX];rw[zB7 z (j::p) (j::p) (hz j (by omega)),ih p (j+1) i x y (by grind) (by grind) (by grind)]
def xZ:T→Bool
 |.tup xs=>xs.all fun x=>match x with
  |.tup _=>dv
  |_=>du
 |_=>du
theorem zMD(f:List Nat)(t u u0:T)(p:List Nat)(hg:t.get f=dq u0)(h0:u0.single=du)(h1:u.single=du)(hh:∀z,(rp f p<:+z→z=rp f p)→G'.hd s z=G.hd s z)(pJ:xZ t=du):
  mkV G' s (t.set f u) p=mkV G s t p:=by
 by_cases ht:∃xs,t=.tup xs
 ·obtain⟨xs,rfl⟩:=ht
  cases f with
  |nil=>grind[T.get,T.single]
  |cons i f=>
   rw[zAM]at hh;simp only[T.get]at hg;cases hx:xs[i]? with
   |none=>grind
   |some x=>
    rw[hx]at hg;simp only[T.set,hx,mkV];rw[zP5 xs p 0 i x _ hx (fun k hk z=>hh _ (fun h=>absurd h (qV (by omega) z)))];rw[J8];refine zJ1 f x u u0 (i::p) hg h0 h1 hh ?_
    rintro ys rfl
    simp only[xZ]at pJ;have:=Jt.1 pJ _ (L4 hx)
    grind
 ·have gX:∀xs,t≠.tup xs:=by grind
  rw[kY G s t p gX,←zJ1 f t u u0 p hg h0 h1 hh gX];refine kY G' s _ p ?_
  rintro xs eQ
  cases f with
  |nil=>grind[T.set,T.single]
  |cons i f=>cases t<;>simp only[T.set]at eQ<;>first|grind|grind|cases eQ
end
theorem zFv:(f:List Nat)→ ∀(t u:T),Top t→zT u→Top (t.set f u)
 | [],t,u,_,hu=>by grind[T.set,Top.of_clean]
 |i::f,t,u,ht,hu=>by
  cases t with
  |sl k xs=>
   refine Top.of_clean _ (qZ (i::f) _ u (by simpa only[Top,zT,yM]using ht) hu)
  |ptr t=>exact Top.of_clean _ (qZ (i::f) _ u (by simpa only[Top,zT,yM]using ht) hu)
  |agg xs=>
   simp only[T.set];split
   ·rename_i x hx
    simp only[Top]at ht ⊢
    exact tops_set xs i _ ht (zFv f x u (tops_get xs ht i x hx) hu)
   ·exact ht
  |tup xs=>
   simp only[T.set];split
   ·rename_i x hx
    simp only[Top]at ht ⊢
    exact tops_set xs i _ ht (zFv f x u (tops_get xs ht i x hx) hu)
   ·exact ht
  |_=>grind[T.set]
where
 tops_set:(xs:List T)→ ∀(i:Nat)(y:T),vS xs→Top y→vS (xs.set i y)
  | [],_,_,_,_=>by simp[vS]
  |x::xs,0,y,h,hy=>by simp only[L8,vS]at h ⊢;grind
  |x::xs,i+1,y,h,hy=>by simp only[Ko,vS]at h ⊢;exact⟨h.1,tops_set xs i y h.2 hy⟩
 tops_get:(xs:List T)→vS xs→ ∀(i:Nat)(x:T),xs[i]? =dq x→Top x
  | [],_,_,_,h=>by simp at h
  |y::ys,hk,i,x,h=>by
   simp only[vS]at hk;cases i with
   |zero=>grind
   |succ i=>exact tops_get ys hk.2 i x (by grind)
def Gh.tr(G:Gh)(d:Nat)(g:List Nat)(r:Nat)(p:List Nat):Gh where
 hd s z:=if s=d∧g<:+z then G.hd r (z.take (z.length-g.length)++p)else G.hd s z
 ad s z:=if s=d∧g<:+z∧z≠g then G.ad r (z.take (z.length-g.length)++p)else G.ad s z
 lb b o:=match G.lb b o with
  |some (fl,s,z)=>if s=r∧p<:+z∧(fl=du∨z≠p)then dq (fl,d,z.take (z.length-p.length)++g)else dq (fl,s,z)
  |none=>dt
 ow b:=match G.ow b with
  |some (s,z)=>if s=r∧p<:+z then dq (d,z.take (z.length-p.length)++g)else dq (s,z)
  |none=>dt
theorem zES{t:T}(h:t.single=du):t.size=1:=by cases t<;>simp[T.single]at h<;>simp[T.size]
theorem zFR{Γ:Ctx}{E:Env}{G:Gh}{tmps:Array Value}{w:World}(gc:Rep Γ E G tmps w)(d:Nat)(g:List Nat)(r:Nat)(p:List Nat)(td tr u v0:T)(hd:E d=dq td)(hg:td.get g.reverse=dq v0)(mP:v0.single=du)(eb:G.hd d g=G.hd r p)(hr:E r=dq tr)
  (hp:tr.get p.reverse=dq u)(hu:u.single=du)(eJ:zT u)(gV:d≠r)(pU:td.okB [(d,g.length+1),(r,p.length+1)]=du)(cR:tr.okB [(d,g.length+1),(r,p.length+1)]=du)(ct:xZ td=du)(fb:xZ tr=du):
  Rep Γ (E.app [(d,dq (td.set g.reverse u)),(r,dq (if p=[]then .same d g else tr.set p.reverse .any))] [(d,g.length+1),(r,p.length+1)]) (G.tr d g r p) tmps w∧ ∀s z,¬(s=d∧g<:+z∧z≠g)→(G.tr d g r p).hd s z=G.hd s z:=by
 obtain⟨d1,d2,d3⟩:=gc.ent d td hd;obtain⟨r1,r2,r3⟩:=gc.ent r tr hr;have hm:=gc.mem;have mu:=(zBU p.reverse tr u [] r2 hp).1;simp only[rp,Ks,Jk]at mu;have gL:Blk w w:=fun b cs e' h=>⟨cs,h,rfl⟩
 generalize gp:G.tr d g r p=G'
 have ghd:∀z,G'.hd d (z++g)=G.hd r (z++p):=fun z=>by rw[←gp];simp[Gh.tr]
 have ghd0:∀s z,¬(s=d∧g<:+z∧z≠g)→G'.hd s z=G.hd s z:=by
  intro s z h;rw[←gp];simp only[Gh.tr]
  by_cases h2:s=d∧g<:+z
  ·have h3:z=g:=by
    rcases Decidable.em (z=g)with e|e
    ·exact e
    ·exact absurd ⟨h2.1,h2.2,e⟩ h
   subst h3;rw[if_pos h2,h2.1];simpa using eb.symm
  ·rw[if_neg h2]
 have gad0:∀s z,¬(s=d∧g<:+z∧z≠g)→G'.ad s z=G.ad s z:=fun s z h=>by rw[←gp];simp only[Gh.tr];rw[if_neg h]
 have gad:∀z,z≠[]→G'.ad d (z++g)=G.ad r (z++p):=fun z h=>by rw[←gp];simp only[Gh.tr];rw[if_pos (by simpa using h)];simp
 have glb0:∀b o fl s z,G.lb b o=dq (fl,s,z)→ ¬(s=r∧p<:+z∧(fl=du∨z≠p))→G'.lb b o=dq (fl,s,z):=fun b o fl s z h1 h2=>by rw[←gp];simp only[Gh.tr,h1];rw[if_neg h2]
 have glb:∀b o fl z,G.lb b o=dq (fl,r,z++p)→(fl=du∨z≠[])→G'.lb b o=dq (fl,d,z++g):=fun b o fl z h1 h2=>by rw[←gp];simp only[Gh.tr,h1];rw[if_pos (by simpa using h2)];simp
 have gow0:∀b s z,G.ow b=dq (s,z)→ ¬(s=r∧p<:+z)→G'.ow b=dq (s,z):=fun b s z h1 h2=>by rw[←gp];simp only[Gh.tr,h1];rw[if_neg h2]
 have gow:∀b z,G.ow b=dq (r,z++p)→G'.ow b=dq (d,z++g):=fun b z h1=>by rw[←gp];simp only[Gh.tr,h1];rw[if_pos (by simp)];simp
 have gN:∀s z,Off [(d,g.length+1),(r,p.length+1)] s z→ ¬(s=d∧g<:+z∧z≠g):=by
  rintro s z h ⟨rfl,⟨y,rfl⟩,h3⟩
  have:=h (g.length+1) (by simp);have:y=[]:=K4 (by simp at this;omega);exact h3 (by simp[this])
 have gw:qQ [(d,g.length+1),(r,p.length+1)] G w G' w:=by
  refine⟨fun s z h=>ghd0 s z (gN s z h),fun s z h=>gad0 s z (gN s z h),fun b o fl s z _ h1 h2=>⟨glb0 b o fl s z h1 ?_,rfl⟩,fun b s z h1 h2=>gow0 b s z h1 ?_,gL⟩
  ·rintro⟨rfl,_⟩;exact h2 (p.length+1) (by simp)
  ·rintro⟨rfl,_⟩;exact h2 (p.length+1) (by simp)
 have gz:Mem Γ G' w:=by
  refine⟨fun s z=>?_,fun b o l hl=>?_,fun b l hl=>?_,hm.st,hm.fr,hm.sz,hm.bk⟩
  ·rw[←gp]
   simp only[Gh.tr];split
   ·exact hm.one _ _
   ·exact hm.one _ _
  ·have:∃l',G.lb b o=dq l':=by
    rw[←gp]at hl;simp only[Gh.tr]at hl;split at hl
    ·exact⟨_,by assumption⟩
    ·cases hl
   obtain⟨l',pZ⟩:=this;exact hm.lb b o l' pZ
  ·have:∃l',G.ow b=dq l':=by
    rw[←gp]at hl;simp only[Gh.tr]at hl;split at hl
    ·exact⟨_,by assumption⟩
    ·cases hl
   obtain⟨l',pZ⟩:=this;exact hm.ow b l' pZ
 have cB:∀q:List Nat,rp q.reverse []=q:=fun q=>by simp[rp]
 have hud:R Γ.St G' w d u g:=by
  refine zAo (G:=G) (w:=w) (s:=r) (p:=p) ⟨⟨ghd,gad,fun b o f z hz _ hl=>⟨glb b o f z hl (.inr hz),rfl⟩,fun b z _ hl=>gow b z hl,gL⟩,fun b o _ hl=>⟨by simpa using glb b o du [] (by simpa using hl) (.inl rfl),rfl⟩,fun b hl=>by simpa using gow b [] (by simpa using hl)⟩ u
   (yM.mono (fun _ _=>False.elim) u eJ) mu
 have mQ:Upd G w G' w d g:=⟨fun z h=>ghd0 d z (fun h2=>h h2.2.1),fun z h=>gad0 d z (fun h2=>h h2.2.1),fun b o f z h1 _=>⟨glb0 b o f d z h1 (fun h2=>gV h2.1),rfl⟩,fun b z h1 _=>gow0 b d z h1 (fun h2=>gV h2.1),gL⟩;have bx:∀b o,Loc G w d v0 g b o→Loc G' w d u g b o:=by intro b o h1;obtain⟨h2,h3,h4⟩:=wC mP h1;have h5:G'.ad d g=⟨b,o,dt⟩∧G'.lb b o=dq (dv,d,g)∧yH w b o=dq (G'.hd d g):=⟨(gad0 d g (fun h=>h.2.2 rfl)).trans h2,glb0 b o dv d g h3 (fun h=>gV h.1),by rw[h4,ghd0 d g (fun h=>h.2.2 rfl)]⟩;cases u<;>simp[T.single]at hu<;>simpa only[Loc]using h5
 have bP:R Γ.St G' w d (td.set g.reverse u) []:=
  zFE g.reverse td u v0 [] (by rw[cB];exact mQ) d2 hg (by rw[zES mP,zES hu]) (gw.keepR (zAN td d3 pU)) (by rw[cB];exact bx) (by rw[cB];exact hud)
 have hVd:mkV G' d (td.set g.reverse u) []=mkV G d td []:=
  zMD g.reverse td u v0 [] hg mP hu (fun z hz=>ghd0 d z (fun h2=>h2.2.2 (by rw[cB]at hz;exact hz h2.2.1))) ct
 have hRr:p≠[]→R Γ.St G' w r (tr.set p.reverse .any) []:=by intro mA;refine zFE p.reverse tr .any u [] (by rw[cB];exact⟨fun z _=>ghd0 r z (fun h2=>gV h2.1.symm),fun z _=>gad0 r z (fun h2=>gV h2.1.symm),fun b o f z h1 h=>⟨glb0 b o f r z h1 (fun h2=>h h2.2.1),rfl⟩,fun b z h1 h=>gow0 b r z h1 (fun h2=>h h2.2),gL⟩) r2 hp (by cases u<;>simp[T.single]at hu<;>simp[T.size]) (gw.keepR (zAN tr r3 cR)) ?_ (by simp only[R]);rw[cB];intro b o h1;obtain⟨h2,h3,h4⟩:=wC hu h1;simp only[Loc];exact⟨(gad0 r p (fun h=>gV h.1.symm)).trans h2,glb0 b o dv r p h3 (by simp),by rw[h4,ghd0 r p (fun h=>gV h.1.symm)]⟩
 have hVr:p≠[]→mkV G' r (tr.set p.reverse .any) []=mkV G r tr []:=fun _=>
  zMD p.reverse tr .any u [] hp hu rfl (fun z _=>ghd0 r z (fun h2=>gV h2.1.symm)) fb
 refine⟨vC gc rfl gw gz ?_ ?_,ghd0⟩
 ·intro s hs
  simp only[Wr.find]at hs;split at hs
  ·cases hs
  ·rename_i h1
   split at hs
   ·cases hs
   ·rename_i h2
    refine⟨fun n hn=>?_,rfl⟩;simp only[Jq,Ja1.injEq,List.not_mem_nil,or_false]at hn;rcases hn with⟨e,_⟩|⟨e,_⟩
    ·exact h1 e.symm
    ·exact h2 e.symm
 ·intro s t hs
  simp only[Wr.find]at hs;split at hs
  ·rename_i he
   subst he;simp at hs;subst hs;exact⟨by rw[d1,hVd],bP,zFv _ _ _ d3 eJ⟩
  ·split at hs
   ·rename_i he
    subst he;simp at hs
    by_cases mA:p=[]
    ·rw[if_pos mA]at hs
     subst hs;subst mA;simp[T.get]at hp;subst hp;refine⟨?_,?_,by simp[Top]⟩
     ·rw[r1,xH hu,xH rfl,ghd0 r [] (fun h=>gV h.1.symm)]
     ·simp only[R]
      rw[ghd0 r [] (fun h=>gV h.1.symm)];have:=ghd [];simpa using this.symm
    ·rw[if_neg mA]at hs
     subst hs;exact⟨by rw[r1,hVr mA],hRr mA,zFv _ _ _ r3 (by simp[zT,yM])⟩
   ·cases hs
theorem zLx{Γ:Ctx}{E:Env}{a:Act}{w:World}(h:Sim Γ E a w)(d:Nat)(g:List Nat)(r:Nat)(p:List Nat)(td tr u:T)(hd:E d=dq td)(hg:td.get g.reverse=dq (.same r p))(hr:E r=dq tr)
  (hp:tr.get p.reverse=dq u)(hu:u.single=du)(eJ:zT u)(gV:d≠r)(pU:td.okB [(d,g.length+1),(r,p.length+1)]=du)(cR:tr.okB [(d,g.length+1),(r,p.length+1)]=du)(ct:xZ td=du)(fb:xZ tr=du):
  Sim Γ (E.app [(d,dq (td.set g.reverse u)),(r,dq (if p=[]then .same d g else tr.set p.reverse .any))] [(d,g.length+1),(r,p.length+1)]) a w:=by
 obtain⟨ea,G,gc⟩:=h;have eb:=(zBU g.reverse td _ [] (gc.ent d td hd).2.1 hg).1;simp only[rp,Ks,Jk,R]at eb;exact⟨ea,_,(zFR gc d g r p td tr u _ hd hg rfl eb hr hp hu eJ gV pU cR ct fb).1⟩
end Go.Ab

namespace Go.Ab
open Go
theorem zI1{St:Stb}{G:Gh}{w:World}{s:Nat}{k:Nat}:(xs:List T)→ ∀(p:List Nat)(j b o:Nat),(∀i x,xs[i]? =dq x→Loc G w s x ((j+i)::p) b (o+i*k)∧x.size=k∧R St G w s x ((j+i)::p))→RL St G w s xs p j b o k
 | [],_,_,_,_,_=>by simp only[RL]
 |x::xs,p,j,b,o,h=>by
  obtain⟨h1,h2,h3⟩:=h 0 x (by simp);simp only[RL];refine⟨⟨by simpa using h1,h2⟩,by simpa using h3,zI1 xs p (j+1) b (o+k) (fun i y hy=>?_)⟩;have:=h (i+1) y (by simpa using hy)
  rwa [show j+(i+1)=j+1+i from by omega,show o+(i+1)*k=o+k+i*k from by rw[Kx];omega]at this
theorem jN{St:Stb}{G:Gh}{w:World}{s:Nat}{k:Nat}:(xs:List T)→ ∀(p:List Nat)(j b o:Nat),RL St G w s xs p j b o k→wJ G w s xs p j b o
 | [],_,_,_,_,_=>by simp only[wJ]
 |x::xs,p,j,b,o,h=>by simp only[RL]at h;simp only[wJ];exact⟨h.1.1,jN xs p (j+1) b (o+x.size) (by rw[h.1.2];exact h.2.2)⟩
theorem zBm{St:Stb}{G:Gh}{w:World}{s:Nat}{k:Nat}:(xs:List T)→ ∀(p:List Nat)(j b o:Nat),RL St G w s xs p j b o k→RF St G w s xs p j∧ ∀x∈xs,x.size=k
 | [],_,_,_,_,_=>by simp[RF]
 |x::xs,p,j,b,o,h=>by simp only[RL]at h;obtain⟨h1,h2⟩:=zBm xs p (j+1) b (o+k) h.2.2;exact⟨by simp only[RF];exact⟨h.2.1,h1⟩,fun y hy=>by rcases Jq.1 hy with rfl|hy;exact h.1.2;exact h2 y hy⟩
section
variable {G:Gh}{w:World}{G':Gh}{w':World}{s s':Nat}
mutual
theorem zFS:(t:T)→ ∀(p p':List Nat)(b o:Nat),(∀z,G'.hd s' (z++p')=G.hd s (z++p))→(∀z,G'.ad s' (z++p')=G.ad s (z++p))→
  (∀b o z,G.lb b o=dq (dv,s,z++p)→G'.lb b o=dq (dv,s',z++p')∧yH w' b o=yH w b o)→Loc G w s t p b o→Loc G' w' s' t p' b o
 |.agg xs,p,p',b,o,hh,ha,hl,h=>by
  simp only[Loc]at h ⊢
  exact⟨by have:=ha [];simp at this;rw[this];exact h.1,zH4 xs p p' 0 b o hh ha hl h.2⟩
 |.any,p,p',b,o,hh,ha,hl,h|.lit _,p,p',b,o,hh,ha,hl,h|.ro _,p,p',b,o,hh,ha,hl,h|.same _ _,p,p',b,o,hh,ha,hl,h|.addr _ _,p,p',b,o,hh,ha,hl,h|.sub _ _ _ _ _,p,p',b,o,hh,ha,hl,h|.sl _ _,p,p',b,o,hh,ha,hl,h|.ptr _,p,p',b,o,hh,ha,hl,h=>by
  simp only[Loc]at h ⊢
  have h1:=hl b o [] (by simpa using h.2.1);have h2:=ha [];have h3:=hh [];simp only[Jy]at h1 h2 h3;exact⟨h2.trans h.1,h1.1,by rw[h1.2,h.2.2,h3]⟩
 |.tup _,_,_,_,_,_,_,_,h=>by simp only[Loc]at h
theorem zH4:(xs:List T)→ ∀(p p':List Nat)(j b o:Nat),(∀z,G'.hd s' (z++p')=G.hd s (z++p))→(∀z,G'.ad s' (z++p')=G.ad s (z++p))→
  (∀b o z,G.lb b o=dq (dv,s,z++p)→G'.lb b o=dq (dv,s',z++p')∧yH w' b o=yH w b o)→wJ G w s xs p j b o→wJ G' w' s' xs p' j b o
 | [],_,_,_,_,_,_,_,_,_=>by simp only[wJ]
 |x::xs,p,p',j,b,o,hh,ha,hl,h=>by
  simp only[wJ]at h ⊢
  exact⟨zFS x (j::p) (j::p') b o (fun z=>by have:=hh (z++[j]);simpa using this) (fun z=>by have:=ha (z++[j]);simpa using this) (fun b o z hz=>by have:=hl b o (z++[j]) (by simpa using hz);simpa using this) h.1,
   zH4 xs p p' (j+1) b _ hh ha hl h.2⟩
end
end
theorem zDE(G:Gh)(s:Nat):∀(xs us:List T)(p:List Nat)(j:Nat),zX G s (xs++us) p j=zX G s xs p j++zX G s us p (j+xs.length)
 | [],us,p,j=>by simp[zX]
 |x::xs,us,p,j=>by simp[zX,zDE G s xs us p (j+1),Ll,Nat.add_comm 1]
theorem zDF:∀(xs us:List T),T.sizes (xs++us)=T.sizes xs+T.sizes us
 | [],us=>by simp[T.sizes]
 |x::xs,us=>by simp[T.sizes,zDF xs us,Ll]
theorem zCX:∀(xs us:List T),yI xs=du→yI us=du→yI (xs++us)=du
 | [],us,_,h=>h
 |x::xs,us,h,h'=>by
  simp only[yI,J2,Gi]at h ⊢
  exact⟨h.1,zCX xs us h.2 h'⟩
theorem zCY:∀(xs us:List T),yV xs→yV us→yV (xs++us)
 | [],us,_,h=>h
 |x::xs,us,h,h'=>by
  simp only[yV,xG,Gi]at h ⊢
  exact⟨h.1,zCY xs us h.2 h'⟩
theorem kM{St:Stb}{G:Gh}{w:World}{s:Nat}{k:Nat}:(xs:List T)→ ∀(p:List Nat)(j b o:Nat),wJ G w s xs p j b o→yI xs=du
 | [],_,_,_,_,_=>rfl
 |x::xs,p,j,b,o,h=>by simp only[wJ]at h;simp only[yI,J2];exact⟨one x (j::p) b o h.1,kM (St:=St) (k:=k) xs p (j+1) b _ h.2⟩
where
 one:(t:T)→ ∀(p:List Nat)(b o:Nat),Loc G w s t p b o→t.okTup=du
  |.agg xs,p,b,o,h=>by simp only[Loc]at h;simp only[T.okTup];exact kM (St:=St) (k:=k) xs p 0 b o h.2
  |.tup _,_,_,_,h=>by simp only[Loc]at h
  |.any,_,_,_,_|.lit _,_,_,_,_|.ro _,_,_,_,_|.same _ _,_,_,_,_|.addr _ _,_,_,_,_|.sub _ _ _ _ _,_,_,_,_|.sl _ _,_,_,_,_|.ptr _,_,_,_,_=>rfl
section
variable {P:Program}
structure zFT (P:Program) (t2:TypeId) (e:TypeId) (ti:TypeInfo) (xv:Value) (m:Nat) (nv:List Value) (w:World):Prop where
 arg:(∃e2 xa c,P.underlying t2=dq (.slice e2)∧xv=.slice xa m c∧ ∀w2:World,w2.heap=w.heap→(Builtin.firstCells ti.size m (.slice xa m c)).run P w2=.ok nv.toArray w2)∨
  ∃k2 k3 z,P.underlying t2=dq (.int k2)∧xv=.int k3 (m:Int)∧ti.zero=dq z∧nv.toArray=Builtin.zeroCells z.cells m∧m*ti.bytes≤2 ^ 47∧z.cells.size=ti.size
theorem zDG{t t2 ty e:TypeId}{ti:TypeInfo}{xv:Value}{m:Nat}{nv:List Value}{w w':World}(ht:P.underlying t=dq (.slice e))(hi:P.info? e=dq ti)
  (hx:zFT P t2 e ti xv m nv w)(hm:m≤68719476736){base:Option Addr}{n cap:Nat}(gS:n+m≤cap)
  (gK:(if let dq a:=base then storeCells (a.add (n*ti.size)) nv else pure ():Sem Unit).run P w=.ok () w'):
  (Builtin.append_ #[t,t2] ty #[.slice base n cap,xv]).run P w=.ok (.slice base (n+m) cap) w':=by
 rcases hx.arg with⟨e2,xa,c,h1,rfl,h2⟩|⟨k2,k3,z,h1,rfl,h2,h3,h4,h5⟩
 ·have h2:=h2 w rfl
  cases base with
  |none=>
   simp at gK;subst gK;simp[Builtin.append_,run_underlying ht,run_underlying h1,sizeOf,typeInfo,hi,Builtin.lenOf,gS,h2]
  |some a=>
   simp only at gK;simp[Builtin.append_,run_underlying ht,run_underlying h1,sizeOf,typeInfo,hi,Builtin.lenOf,gS,h2,gK]
 ·have pM:IntKind.i64.wrap (m:Int)=m:=by rw[IntKind.wrap_i64];omega
  have mo:¬(281474976710656<(m:Int)*(ti.bytes:Int)):=by
   have:((m*ti.bytes:Nat):Int)≤2 ^ 47:=by exact_mod_cast h4
   rw[Lj]at this;omega
  have fo:¬((m:Int)<0):=by omega
  have mB:nv=(Builtin.zeroCells z.cells m).toList:=by rw[←h3]
  by_cases hz:m*ti.size=0
  ·have pV:nv=[]:=by
    apply K4;rw[mB];simp[Builtin.zeroCells,h5,hz]
   subst pV;cases base with
   |none=>
    simp at gK;subst gK;simp[Builtin.append_,run_underlying ht,run_underlying h1,sizeOf,typeInfo,hi,asInt,asIntOf,pM,mo,fo,gS,hz]
   |some a=>
    simp only[storeCells,Sem.run_pure]at gK;cases gK;simp[Builtin.append_,run_underlying ht,run_underlying h1,sizeOf,typeInfo,hi,asInt,asIntOf,pM,mo,fo,gS,hz,storeCells]
  ·cases base with
   |none=>
    simp at gK;subst gK;simp[Builtin.append_,run_underlying ht,run_underlying h1,sizeOf,typeInfo,zeroValue,hi,h2,asInt,asIntOf,pM,mo,fo,gS]
   |some a=>
    simp only[mB]at gK;simp[Builtin.append_,run_underlying ht,run_underlying h1,sizeOf,typeInfo,zeroValue,hi,h2,asInt,asIntOf,pM,mo,fo,gS,hz,gK]
theorem zI2{t t2 ty e:TypeId}{ti:TypeInfo}{z xv:Value}{m:Nat}{nv olds:List Value}{w:World}(ht:P.underlying t=dq (.slice e))(hi:P.info? e=dq ti)(hz:ti.zero=dq z)
  (hx:zFT P t2 e ti xv m nv w){base:Option Addr}{n cap:Nat}(gU:cap<n+m)(fN:n+m≤68719476736)(hb:ti.bytes≤2048)
  (gD:∀w2:World,w2.heap=w.heap→(Builtin.firstCells ti.size n (.slice base n cap)).run P w2=.ok olds.toArray w2):
  (Builtin.append_ #[t,t2] ty #[.slice base n cap,xv]).run P w=.ok (.slice (dq ⟨w.heap.size,0,dt⟩) (n+m) (grownCap w (n+m) cap e))
    (w.drew.alloc (.cells ((olds++nv).toArray++Builtin.zeroCells z.cells (grownCap w (n+m) cap e-(n+m))) e)):=by
 have hn:¬(n+m≤cap):=by omega
 have mm:¬(9223372036854775807<((n:Int)+(m:Int))):=by omega
 have aU:=growslice_fits (need:=n+m) (old:=cap) (bytes:=ti.bytes) gU (H6 (Jj fN hb) (by decide));have mn:¬(281474976710656<Builtin.nextslicecap (n+m) cap*ti.bytes):=by omega
 have ho:=gD w.drew rfl;rcases hx.arg with⟨e2,xa,c,h1,rfl,h2⟩|⟨k2,k3,z',h1,rfl,h2,h3,h4,h5⟩
 ·have h2:=h2 w.drew rfl
  simp[Builtin.append_,run_underlying ht,run_underlying h1,sizeOf,typeInfo,zeroValue,hi,hz,Builtin.lenOf,hn,mm,mn,Question.forced,h2,ho,newRow,grownCap]
  congr 2
  apply Ja0;simp
 ·have pM:IntKind.i64.wrap (m:Int)=m:=by rw[IntKind.wrap_i64];omega
  have mo:¬(281474976710656<(m:Int)*(ti.bytes:Int)):=by
   have:((m*ti.bytes:Nat):Int)≤2 ^ 47:=by exact_mod_cast h4
   rw[Lj]at this;omega
  have fo:¬((m:Int)<0):=by omega
  have mB:nv=(Builtin.zeroCells z'.cells m).toList:=by rw[←h3]
  rw[hz]at h2;simp at h2;subst h2
  by_cases aa:m*ti.size=0
  ·have pV:nv=[]:=by
    apply K4;rw[mB];simp[Builtin.zeroCells,h5,aa]
   subst pV;simp[Builtin.append_,run_underlying ht,run_underlying h1,sizeOf,typeInfo,zeroValue,hi,hz,asInt,asIntOf,pM,mo,fo,hn,mm,mn,Question.forced,aa,ho,newRow,grownCap]
  ·simp[Builtin.append_,run_underlying ht,run_underlying h1,sizeOf,typeInfo,zeroValue,hi,hz,asInt,asIntOf,pM,mo,fo,hn,mm,mn,Question.forced,aa,ho,newRow,grownCap,←h3]
   congr 2
   apply Ja0;simp
end
def zDn(s0:Nat)(y:Option Nat)(n:Nat)(s:Nat)(z:List Nat):Option (List Nat):=
 if s=s0 then dq z else if y=dq s then(match z.getLast? with
  |some j=>dq (z.dropLast++[n+j])
  |none=>dt)else dt
def Gh.ip(G:Gh)(d s0:Nat)(y:Option Nat)(b n k oa:Nat)(us:List T)(f2:Nat→List Nat→Value)(gV:Value):Gh where
 hd s z:=if s=d then(match z.getLast? with
  |some i=>if i<n then G.hd s0 z else f2 (i-n) z.dropLast
  |none=>gV)else G.hd s z
 ad s z:=if s=d then(match z.getLast? with
  |some i=>if i<n then G.ad s0 z else if(T.agg us).inT ((i-n)::z.dropLast.reverse)then⟨b,oa+(T.agg us).offT ((i-n)::z.dropLast.reverse),dt⟩else(match y with
   |some y=>G.ad y (z.dropLast++[i-n])
   |none=>default)
  |none=>default)else G.ad s z
 lb b' o:=if b'=b∧oa≤o∧o<oa+us.length*k then(match zBW us [] n (o-oa)with
  |some p=>dq (dv,d,p)
  |none=>dt)else match G.lb b' o with
  |some (fl,s,z)=>(match zDn s0 y n s z with
   |some z'=>dq (fl,d,z')
   |none=>dq (fl,s,z))
  |none=>dt
 ow b':=match G.ow b' with
  |some (s,z)=>(match zDn s0 y n s z with
   |some z'=>dq (d,z')
   |none=>dq (s,z))
  |none=>dt
def aWr(d s0:Nat)(y:Option Nat)(k:Nat)(ts:List T):Wr:=(d,dq (.sl k ts))::(s0,dq .any)::(match y with
 |some y=>[(y,dq .any)]
 |none=>[])
def zAJ(d s0:Nat)(y:Option Nat):Chg:=(d,0)::(s0,1)::(match y with
 |some y=>[(y,1)]
 |none=>[])
structure zFU (Γ:Ctx) (E:Env) (G:Gh) (d s0:Nat) (y:Option Nat) (k n:Nat) (us:List T) (f2:Nat→List Nat→Value) (nv:List Value):Prop where
 size:∀u∈us,u.size=k
 tup:yI us=du
 clean:yV us
 one:∀j z,(f2 j z).oneCell'=du
 len:nv.length=us.length*k
 slot:∀y',y=dq y'→y'≠d∧y'≠s0∧E y'=dq (.sl k us)∧ ∀j z,f2 j z=G.hd y' (z++[j])
 none:y=dt→ ∀(j:Nat) u,us[j]? =dq u→ ∀(G2:Gh)(w2:World),(∀z,G2.hd d (z++[n+j])=f2 j z)→R Γ.St G2 w2 d u [n+j]
 vals:∀(G2:Gh),(∀j z,G2.hd d (z++[n+j])=f2 j z)→ ∀(o:Nat)(v:Value),(zX G2 d us [] n)[o]? =dq v→nv[o]? =dq v
theorem zJ2{G G2:Gh}{s d:Nat}:(xs:List T)→ ∀(p:List Nat)(j:Nat),(∀i,i<xs.length→ ∀z,G2.hd d (z++((j+i)::p))=G.hd s (z++((j+i)::p)))→zX G2 d xs p j=zX G s xs p j
 | [],_,_,_=>by simp only[zX]
 |x::xs,p,j,h=>by
  simp only[zX];have ih:zX G2 d xs p (j+1)=zX G s xs p (j+1):=zJ2 xs p (j+1) (fun i hi z=>by rw[show j+1+i=j+(i+1)from by omega];exact h (i+1) (by simpa using hi) z)
  rw[zAO x (j::p) (j::p) (by simpa using h 0 (by simp)),ih]
theorem zHd(z:List Nat):z=[]∨ ∃y i,z=y++[i]:=by
 rcases List.eq_nil_or_concat z with h|⟨y,i,h⟩
 ·exact .inl h
 ·exact .inr ⟨y,i,by simpa using h⟩
section
variable {P:Program}{Γ:Ctx}{E:Env}{d:Nat}
theorem zB9{G:Gh}{a:Act}{w:World}(gc:Rep Γ E G a.tmps w)(hd:d<Γ.N){t t2 ty e:TypeId}{ti:TypeInfo}{z:Value}{k:Nat}(ht:P.underlying t=dq (.slice e))(hi:P.info? e=dq ti)(hz:ti.zero=dq z)
  (hk:ti.size=k)(_hk0:0<k)(fg:z.cells.size=k)(hb:ti.bytes≤2048){s0:Nat}{y:Option Nat}{xs us:List T}{f2:Nat→List Nat→Value}{nv:List Value}(eu:E s0=dq (.sl k xs))(eR:s0≠d)
  (hn:zFU Γ E G d s0 y k xs.length us f2 nv){xv:Value}(hx:zFT P t2 e ti xv us.length nv w)(gn:∀v∈nv,v.oneCell'=du)(fN:xs.length+us.length≤68719476736):
  ∃v w',(Builtin.append_ #[t,t2] ty #[G.hd s0 [],xv]).run P w=.ok v w'∧ ∃G',Rep Γ (E.app (aWr d s0 y k (xs++us)) (zAJ d s0 y)) G' (a.tmps.setIfInBounds d v) w':=by
 have hm:=gc.mem;obtain⟨e1,e2,e3⟩:=gc.ent s0 _ eu;simp only[Top]at e3;simp only[R]at e2;have pO:T.sizes us=us.length*k:=xX us hn.size;have fin:∀(G':Gh)(w':World)(v:Value),qQ (zAJ d s0 y) G w G' w'→Mem Γ G' w'→G'.hd d []=v→R Γ.St G' w' d (.sl k (xs++us)) []→(∀s p,s≠d→G'.hd s p=G.hd s p)→
   Rep Γ (E.app (aWr d s0 y k (xs++us)) (zAJ d s0 y)) G' (a.tmps.setIfInBounds d v) w':=by
  intro G' w' v gw gz hdv bP hother;refine vC gc (by simp) gw gz ?_ ?_
  ·intro s hs
   have gf:s≠d:=by rintro rfl;simp[aWr,Wr.find]at hs
   have fL:s≠s0:=by rintro rfl;simp[aWr,Wr.find,gf.symm]at hs
   have aI:∀y',y=dq y'→s≠y':=by
    rintro y' rfl rfl
    simp[aWr,Wr.find,gf.symm,fL.symm]at hs
   refine⟨fun n' hn'=>?_,by rw[Jc];simp[gf.symm]⟩;simp only[zAJ,Jq,Ja1.injEq]at hn';rcases hn' with⟨h1,_⟩|⟨h1,_⟩|hn'
   ·exact gf h1
   ·exact fL h1
   ·cases y with
    |none=>simp at hn'
    |some y'=>simp at hn';exact aI y' rfl hn'.1
  ·intro s t' hs
   by_cases h1:s=d
   ·subst h1
    simp[aWr,Wr.find]at hs;subst hs;refine⟨?_,bP,by simp only[Top];exact zCY xs us e3 hn.clean⟩;rw[Jc];simp[gc.size,hd,mkV,hdv]
   ·have h3:t'=.any∧(s=s0∨y=dq s):=by
     simp only[aWr,Wr.find]at hs;rw[if_neg (fun h=>h1 h.symm)]at hs;split at hs
     ·rename_i h2;simp at hs;exact⟨hs.symm,.inl h2.symm⟩
     ·cases y with
      |none=>simp[Wr.find]at hs
      |some y'=>
       simp only[Wr.find]at hs;split at hs
       ·rename_i h2;simp at hs;exact⟨hs.symm,.inr (by rw[h2])⟩
       ·cases hs
    obtain⟨rfl,h3⟩:=h3;refine⟨?_,by simp only[R],by simp[Top]⟩;rw[Jc];simp only[Ne.symm h1,if_false,mkV];rw[hother s [] h1];rcases h3 with rfl|h3
    ·exact e1
    ·obtain⟨_,_,h4,_⟩:=hn.slot s h3
     exact(gc.ent s _ h4).1
 have fW:∀s p,(∀n',(s,n')∉zAJ d s0 y)→zDn s0 y xs.length s p=dt:=by
  intro s p h;have h1:s≠s0:=fun e=>h 1 (by simp[zAJ,e])
  have h2:y≠dq s:=fun e=>h 1 (by simp[zAJ,e])
  simp[zDn,h1,h2]
 by_cases gS:∃a' c,G.hd s0 []=.slice a' xs.length c∧xs.length+us.length≤c
 ·
  obtain⟨a',c,hh,gS⟩:=gS;rcases e2 with⟨rfl,a1,h1⟩|⟨b,o0,cap,cs,et,h1,h2,h3,h4,h5,h6,h7,h8⟩
  ·rw[h1]at hh
   simp at hh;obtain⟨rfl,rfl⟩:=hh;have fe:us=[]:=K4 (by simp only[H7]at gS;omega);subst fe;have mB:nv=[]:=K4 (by have:=hn.len;simp at this;simp[this]);subst mB;have gx:=zDG (P:=P) (t:=t) (ty:=ty) (w':=w) ht hi hx (by simp) (base:=a1) (n:=0) (cap:=0) (by simp) (by cases a1<;>rfl);refine⟨.slice a1 0 0,w,by rw[h1];exact gx,G.put d (fun _=>.slice a1 0 0),fin _ w _ ?_ (hm.put rfl d _ (fun _=>rfl)) (by rw[Gh.put_self]) (by simp[R,Gh.put]) (fun s p h=>G.put_other _ p h)⟩;have:=G.put_keep (w:=w) (w':=w) rfl d (fun _=>.slice a1 0 0);exact⟨fun s p h=>this.hd s p (fun n hn=>h n (by simp at hn;simp[zAJ,hn])),fun s p h=>this.ad s p (fun n hn=>h n (by simp at hn;simp[zAJ,hn])),fun b o f s p h0 h1 h2=>this.lb b o f s p h0 h1 (fun n hn=>h2 n (by simp at hn;simp[zAJ,hn])),fun b s p h1 h2=>this.ow b s p h1 (fun n hn=>h2 n (by simp at hn;simp[zAJ,hn])),this.blk⟩
  ·rw[h1]at hh
   simp at hh;obtain⟨rfl,rfl⟩:=hh;have hmk0:us.length*k+xs.length*k≤cap*k:=by rw[←Hw];exact Kf _ (by omega)
   have aE:∀o,o0+(xs.length*k+us.length*k)≤o→o0+xs.length*k≤o:=fun o h=>by omega
   generalize hoa:o0+xs.length*k=oa at h7 aE
   have hmk':oa+us.length*k≤o0+cap*k:=by omega
   have hmk:us.length*k+oa≤cs.size:=by omega
   generalize ez:w.setRow b (cs.toList.take (oa)++nv++cs.toList.drop (oa+nv.length)).toArray=w'
   have ek:w'.heap[b]? =dq (.cells (cs.toList.take (oa)++nv++cs.toList.drop (oa+nv.length)).toArray et (0,0)):=by rw[←ez];exact setRow_heap w b cs _ et _ h2
   have gD:∀b',b'≠b→w'.heap[b']? =w.heap[b']?:=fun b' h=>by rw[←ez];exact setRow_other w b b' _ h
   have gQ:w'.heap.size=w.heap.size:=by rw[←ez];exact size_setRow w b _
   have hcsl:cs.toList.length=cs.size:=Ka ..;have fZ:=hn.len;have eE:∀i,yH w' b i=if oa≤i∧i<oa+us.length*k then nv[i-oa]? else yH w b i:=by
    intro i;simp only[yH,World.cell?,ek,h2,Uh,Lu,if_false];rw[←Kh,←Kh (xs:=cs)];simp only[]
    by_cases g1:i<oa
    ·rw[if_neg (by omega),Jh,L6 (by simp;omega),U6 g1]
    ·by_cases g2:i<oa+us.length*k
     ·rw[if_pos ⟨by omega,g2⟩,Jh,Jg (by simp;omega),L6 (by simp;omega)]
      congr 1;simp;omega
     ·rw[if_neg (by omega),Jh,Jg (by simp;omega),Jg (by simp;omega),Lg]
      congr 1;simp;omega
   have gM:∀b' o fl s p,G.lb b' o=dq (fl,s,p)→(fl,s,p)≠(du,s0,[])→ ¬(b'=b∧oa≤o∧o<oa+us.length*k):=by
    rintro b' o fl s p g1 g2 ⟨rfl,g3,g4⟩
    rw[h7 o g3 (by omega)]at g1;simp at g1;exact g2 (by simp[←g1.1,←g1.2.1,←g1.2.2])
   have eP:∀b' o,¬(b'=b∧oa≤o∧o<oa+us.length*k)→yH w' b' o=yH w b' o:=by
    intro b' o g
    by_cases eF:b'=b
    ·subst eF
     rw[eE,if_neg (fun g2=>g ⟨rfl,g2⟩)]
    ·simp[yH,World.cell?,gD b' eF]
   have ca:((cs.toList.take (oa)++nv++cs.toList.drop (oa+nv.length)).toArray).size=cs.size:=by simp;omega
   have es:Blk w w':=by
    intro b' cs' e' g1
    by_cases eF:b'=b
    ·subst eF
     rw[h2]at g1;simp at g1;obtain⟨rfl,rfl⟩:=g1;exact⟨_,ek,ca⟩
    ·exact⟨cs',by rw[gD b' eF];exact g1,rfl⟩
   generalize gp:G.ip d s0 y b xs.length k oa us f2 (.slice (dq ⟨b,o0,dt⟩) (xs.length+us.length) cap)=G'
   have ghdr:G'.hd d []=.slice (dq ⟨b,o0,dt⟩) (xs.length+us.length) cap:=by rw[←gp];simp[Gh.ip]
   have ghd1:∀i z,i<xs.length→G'.hd d (z++[i])=G.hd s0 (z++[i]):=fun i z g=>by rw[←gp];simp[Gh.ip,g]
   have ghd2:∀j z,G'.hd d (z++[xs.length+j])=f2 j z:=fun j z=>by rw[←gp];simp[Gh.ip,show¬xs.length+j<xs.length from by omega]
   have ghd0:∀s z,s≠d→G'.hd s z=G.hd s z:=fun s z g=>by rw[←gp];simp[Gh.ip,g]
   have gad0:∀s z,s≠d→G'.ad s z=G.ad s z:=fun s z g=>by rw[←gp];simp[Gh.ip,g]
   have gad1:∀i z,i<xs.length→G'.ad d (z++[i])=G.ad s0 (z++[i]):=fun i z g=>by rw[←gp];simp[Gh.ip,g]
   have gad2:∀j f,(T.agg us).inT (j::f)=du→G'.ad d (f.reverse++[xs.length+j])=⟨b,oa+(T.agg us).offT (j::f),dt⟩:=fun j f g=>by rw[←gp];simp[Gh.ip,g,show¬xs.length+j<xs.length from by omega]
   have gad3:∀y' j z,y=dq y'→(T.agg us).inT (j::z.reverse)=dv→G'.ad d (z++[xs.length+j])=G.ad y' (z++[j]):=fun y' j z g1 g2=>by rw[←gp];simp[Gh.ip,g1,g2,show¬xs.length+j<xs.length from by omega]
   have glb2:∀i p,i<us.length*k→zBW us [] xs.length i=dq p→G'.lb b (oa+i)=dq (dv,d,p):=fun i p g1 g2=>by rw[←gp];simp only[Gh.ip];rw[if_pos (by simp;omega),show oa+i-oa=i from by omega,g2]
   have glb0:∀b' o fl s p,G.lb b' o=dq (fl,s,p)→ ¬(b'=b∧oa≤o∧o<oa+us.length*k)→zDn s0 y xs.length s p=dt→G'.lb b' o=dq (fl,s,p):=fun b' o fl s p g1 g2 g3=>by rw[←gp];simp only[Gh.ip];rw[if_neg g2,g1];simp[g3]
   have glb1:∀b' o fl s p p',G.lb b' o=dq (fl,s,p)→ ¬(b'=b∧oa≤o∧o<oa+us.length*k)→zDn s0 y xs.length s p=dq p'→G'.lb b' o=dq (fl,d,p'):=fun b' o fl s p p' g1 g2 g3=>by rw[←gp];simp only[Gh.ip];rw[if_neg g2,g1];simp[g3]
   have gow0:∀b' s p,G.ow b'=dq (s,p)→zDn s0 y xs.length s p=dt→G'.ow b'=dq (s,p):=fun b' s p g1 g2=>by rw[←gp];simp[Gh.ip,g1,g2]
   have gow1:∀b' s p p',G.ow b'=dq (s,p)→zDn s0 y xs.length s p=dq p'→G'.ow b'=dq (d,p'):=fun b' s p p' g1 g2=>by rw[←gp];simp[Gh.ip,g1,g2]
   have eY:∀p,zDn s0 y xs.length s0 p=dq p:=fun p=>by simp[zDn]
   have pA:∀y' z j,y=dq y'→y'≠s0→zDn s0 y xs.length y' (z++[j])=dq (z++[xs.length+j]):=fun y' z j g1 g2=>by simp[zDn,g1,g2]
   have gf:∀s p,Off (zAJ d s0 y) s p→s≠d:=fun s p h e=>absurd (h 0 (by simp[zAJ,e])) (by simp)
   have gw:qQ (zAJ d s0 y) G w G' w':=by
    refine⟨fun s p h=>ghd0 s p (gf s p h),fun s p h=>gad0 s p (gf s p h),fun b' o fl s p _ g1 g2=>?_,fun b' s p g1 g2=>gow0 b' s p g1 (fW s p g2),es⟩;have hs:s≠s0:=fun e=>g2 1 (by simp[zAJ,e])
    have g3:=gM b' o fl s p g1 (by simp[hs]);exact⟨glb0 b' o fl s p g1 g3 (fW s p g2),eP b' o g3⟩
   have mH:=hm.ow b _ h6;have gz:Mem Γ G' w':=by
    refine⟨fun s z=>?_,fun b' o' l hl=>?_,fun b' l hl=>?_,fun b' x' ej=>?_,fun b' g1 g2=>?_,by rw[gQ];exact hm.sz,hm.bk.trans es (by rw[←ez];rfl) (by rw[←ez];rfl)⟩
    ·by_cases g:s=d
     ·subst g
      rcases zHd z with rfl|⟨z',i,rfl⟩
      ·rw[ghdr];rfl
      ·by_cases g1:i<xs.length
       ·rw[ghd1 i z' g1];exact hm.one _ _
       ·have:=ghd2 (i-xs.length) z'
        rw[show xs.length+(i-xs.length)=i from by omega]at this;rw[this];exact hn.one _ _
     ·rw[ghd0 s z g];exact hm.one _ _
    ·have:zBV Γ w b':=by
      rw[←gp]at hl;simp only[Gh.ip]at hl;split at hl
      ·rename_i g;rw[g.1];exact mH
      ·split at hl
       ·rename_i g;exact hm.lb _ _ _ g
       ·cases hl
     exact⟨by rw[gQ];exact this.1,this.2⟩
    ·have:zBV Γ w b':=by
      rw[←gp]at hl;simp only[Gh.ip]at hl;split at hl
      ·rename_i g;exact hm.ow _ _ g
      ·cases hl
     exact⟨by rw[gQ];exact this.1,this.2⟩
    ·have eF:b'≠b:=by rintro rfl;rw[mH.2.2]at ej;cases ej
     rw[gD b' eF];exact hm.st b' x' ej
    ·have eF:b'≠b:=by
      rintro rfl
      rcases mH.2.1 with g3|g3
      ·omega
      ·exact g2 g3
     rw[gD b' eF];exact hm.fr b' g1 g2
   have pX:wJ G' w' d us [] xs.length b (oa):=by
    refine zFu us [] xs.length b (oa) hn.tup (fun i x ej f hf=>?_) (fun i p' g1 g2=>glb2 i p' (by omega) g2) (fun i v hv=>?_)
    ·have:=gad2 i f (by simp only[T.inT,ej];exact hf)
     simpa[T.offT,ej]using this
    ·have g1:=hn.vals G' ghd2 i v hv
     have g2:=(Jb.1 g1).1;rw[eE,if_pos ⟨by omega,by omega⟩,show oa+i-oa=i from by omega];exact g1
   have bP:R Γ.St G' w' d (.sl k (xs++us)) []:=by
    simp only[R];rw[ghdr];refine .inr ⟨b,o0,cap,_,et,by simp,ek,by simp;omega,h4,by rw[ca];exact h5,gow1 b s0 [] [] h6 (eY []),?_,zI1 _ _ _ _ _ (fun i x ej=>?_)⟩
    ·intro o g1 g2
     rw[Ji,Hw]at g1;exact glb1 b o du s0 [] [] (h7 o (by omega) g2) (by omega) (eY [])
    ·rw[Kg]at ej
     simp only[J8];split at ej
     ·rename_i gF
      obtain⟨g1,g2,g3⟩:=qU xs [] 0 b o0 k i x h8 ej;simp only[J8]at g1 g3;have cj:∀b' o fl z,G.lb b' o=dq (fl,s0,z++[i])→G'.lb b' o=dq (fl,d,z++[i])∧yH w' b' o=yH w b' o:=fun b' o fl z g=>by have g4:=gM b' o fl s0 _ g (by simp);exact⟨glb1 b' o fl s0 _ _ g g4 (eY _),eP b' o g4⟩
      refine⟨zFS x [i] [i] b _ (fun z=>ghd1 i z gF) (fun z=>gad1 i z gF) (fun b' o z g=>cj b' o dv z g) g1,g2,?_⟩;refine zAo (G:=G) (w:=w) (s:=s0) (p:=[i]) ⟨⟨fun z=>ghd1 i z gF,fun z _=>gad1 i z gF,fun b' o f z _ _ g=>cj b' o f z g,fun b' z _ g=>gow1 b' s0 _ _ g (eY _),es⟩,fun b' o _ g=>?_,fun b' g=>gow1 b' s0 _ _ g (eY _)⟩ x (yM.mono (fun _ _=>False.elim) x (vX xs e3 i x ej)) g3;have:=cj b' o du [] (by simpa using g);simpa using this
     ·rename_i hge
      obtain⟨j,rfl⟩:∃j,i=xs.length+j:=⟨i-xs.length,by omega⟩;rw[show xs.length+j-xs.length=j from by omega]at ej;have g1:=zDB us [] xs.length b (oa) j x pX ej;rw[show T.sizes (us.take j)=j*k from by rw[xX _ (fun u hu=>hn.size u (List.mem_of_mem_take hu)),Kl,Ua (by have:=(Jb.1 ej).1;omega)],show oa+j*k=o0+(xs.length+j)*k from by rw[Hw];omega]at g1
      refine⟨g1,hn.size x (L4 ej),?_⟩;cases hy:y with
      |none=>exact hn.none hy j x ej G' w' (fun z=>ghd2 j z)
      |some y'=>
       obtain⟨y1,y2,y3,y4⟩:=hn.slot y' hy;obtain⟨_,y5,_⟩:=gc.ent y' _ y3;simp only[R]at y5;rcases y5 with⟨rfl,_⟩|⟨b2,o2,cap2,cs2,et2,_,_,_,_,_,_,_,y6⟩
       ·simp at ej
       ·obtain⟨_,_,y7⟩:=qU us [] 0 b2 o2 k j x y6 ej
        simp only[J8]at y7;refine zJv x [j] [xs.length+j] (zC5.okTups_get us hn.tup j x ej) ⟨fun z=>by rw[ghd2,y4],fun z g=>gad3 y' j z hy (by simp only[T.inT,ej];exact g),fun b' o fl z _ g=>?_,fun b' z g=>gow1 b' y' _ _ g (pA y' z j hy y2),es⟩ (yM.mono (fun _ _=>False.elim) x (vX us hn.clean j x ej)) y7;have g4:=gM b' o fl y' _ g (by simp[y2]);exact⟨glb1 b' o fl y' _ _ g g4 (pA y' z j hy y2),eP b' o g4⟩
   have gK:=run_storeCells_at P b (oa) et nv 0 cs w h2 (by omega) gn;simp only[Qx]at gK;rw[ez]at gK;have gx:=zDG (P:=P) (t:=t) (ty:=ty) (w':=w') ht hi hx (by omega) (base:=dq ⟨b,o0,dt⟩) gS (by simp only[hk,vN,hoa];exact gK);refine⟨_,w',by rw[h1];exact gx,G',fin G' w' _ gw gz ghdr bP ghd0⟩
 ·
  have bN:∃a' c,G.hd s0 []=.slice a' xs.length c∧ ∀w2:World,w2.heap=w.heap→(Builtin.firstCells ti.size xs.length (.slice a' xs.length c)).run P w2=.ok (zX G s0 xs [] 0).toArray w2:=by
   rcases e2 with⟨rfl,a1,h1⟩|⟨b,o0,cap,cs,et,h1,h2,h3,h4,h5,h6,h7,h8⟩
   ·exact⟨a1,0,h1,fun w2 _=>by cases a1<;>simp[Builtin.firstCells,loadCells,loadCellsFrom,zX]⟩
   ·refine⟨_,_,h1,fun w2 mN=>?_⟩
    have hl:=jN xs [] 0 b o0 h8;refine run_firstCells_some (P:=P) w2 ti.size xs.length ⟨b,o0,dt⟩ _ _ _ ?_ (fun j v hv=>?_)
    ·rw[xU,hk]
     exact xX xs (zBm xs [] 0 b o0 h8).2
    ·have:=zAx xs [] 0 b o0 hl j v hv
     rw[vN];simp only[yH]at this;simpa[World.cell?,mN]using this
  obtain⟨a',c,hh,gD⟩:=bN;have eQ:yI xs=du∧(∀x∈xs,x.size=k)∧ ∀i x,xs[i]? =dq x→R Γ.St G w s0 x [i]:=by
   rcases e2 with⟨rfl,a1,h1⟩|⟨b,o0,cap,cs,et,h1,h2,h3,h4,h5,h6,h7,h8⟩
   ·simp[yI]
   ·refine⟨kM (St:=Γ.St) (k:=k) xs [] 0 b o0 (jN xs [] 0 b o0 h8),(zBm xs [] 0 b o0 h8).2,fun i x ej=>?_⟩
    have:=(qU xs [] 0 b o0 k i x h8 ej).2.2;simpa using this
  have gU:c<xs.length+us.length:=by
   rcases Jm c (xs.length+us.length)with g|g
   ·exact g
   ·exact absurd ⟨a',c,hh,g⟩ gS
  have gx:=zI2 (P:=P) (t:=t) (ty:=ty) ht hi hz hx gU fN hb gD;have hge:=grownCap_ge w (xs.length+us.length) c e;have tq:=grownCap_le_maxLen w (xs.length+us.length) c e (by simp only[maxLen];omega)
  generalize grownCap w (xs.length+us.length) c e=cap' at gx hge tq
  generalize ez:w.drew.alloc (.cells ((zX G s0 xs [] 0++nv).toArray++Builtin.zeroCells z.cells (cap'-(xs.length+us.length))) e)=w' at gx
  have hwh:w'.heap=w.heap.push (.cells ((zX G s0 xs [] 0++nv).toArray++Builtin.zeroCells z.cells (cap'-(xs.length+us.length))) e):=by rw[←ez];rfl
  have pj:T.sizes xs=xs.length*k:=xX xs eQ.2.1;obtain⟨g1,g2,g3,g4,g5⟩:=zC5 hm hwh d (xs++us) (fun i=>if i<xs.length then dq (s0,[i])else y.map fun y'=>(y',[i-xs.length])) (zDn s0 y xs.length) (fun i z=>if i<xs.length then G.hd s0 (z++[i])else f2 (i-xs.length) z) (.slice (dq ⟨w.heap.size,0,dt⟩) (xs.length+us.length) cap') ((zAJ d s0 y).tail)
   (zCX xs us eQ.1 hn.tup) (fun i z=>by split;exact hm.one _ _;exact hn.one _ _) rfl
   (fun i u x q z' hu hs=>by
    split at hs
    ·simp at hs;obtain⟨rfl,rfl⟩:=hs;simp[zDn]
    ·rename_i fa
     cases y with
     |none=>simp at hs
     |some y'=>
      simp at hs;obtain⟨rfl,rfl⟩:=hs;have:=(hn.slot y' rfl).2.1;simp[zDn,this,show xs.length+(i-xs.length)=i from by omega])
   (fun i u x q hu hs=>by
    rw[Kg]at hu;split at hs
    ·rename_i gF
     rw[if_pos gF]at hu;simp at hs;obtain⟨rfl,rfl⟩:=hs;exact⟨fun z'=>by simp[gF],eQ.2.2 i u hu,vX xs e3 i u hu,eR⟩
    ·rename_i fa
     rw[if_neg fa]at hu;cases hy:y with
     |none=>rw[hy]at hs;simp at hs
     |some y'=>
      rw[hy]at hs;simp at hs;obtain⟨rfl,rfl⟩:=hs;obtain⟨y1,y2,y3,y4⟩:=hn.slot y' hy;obtain⟨_,y5,_⟩:=gc.ent y' _ y3;simp only[R]at y5;refine⟨fun z'=>by simp[fa,y4],?_,vX us hn.clean _ u hu,y1⟩;rcases y5 with⟨rfl,_⟩|⟨b2,o2,cap2,cs2,et2,_,_,_,_,_,_,_,y6⟩
      ·simp at hu
      ·have:=(qU us [] 0 b2 o2 k _ u y6 hu).2.2
       simpa using this)
   (fun i u hu hs G2 w2 eD=>by
    rw[Kg]at hu;split at hs
    ·cases hs
    ·rename_i fa
     rw[if_neg fa]at hu;cases hy:y with
     |some y'=>rw[hy]at hs;simp at hs
     |none=>
      have:=hn.none hy (i-xs.length) u hu G2 w2 (fun z'=>by rw[show xs.length+(i-xs.length)=i from by omega,eD,if_neg fa])
      rwa [show xs.length+(i-xs.length)=i from by omega]at this)
   (fun G2 eD o v hv=>by
    rw[zDE,J8]at hv;have h1:zX G2 d xs [] 0=zX G s0 xs [] 0:=zJ2 xs [] 0 (fun i hZ z'=>by rw[J8,eD,if_pos hZ]);rw[h1]at hv;have cj:(zX G s0 xs [] 0).length=xs.length*k:=by rw[xU,pj]
    have cW:(zX G2 d us [] xs.length).length=us.length*k:=by rw[xU,pO]
    have ho:o<xs.length*k+us.length*k:=by have:=(Jb.1 hv).1;rw[Ji]at this;omega
    have fZ:=hn.len;rw[Array.getElem?_append_left (by simp;omega),List.getElem?_toArray];rw[Kg]at hv ⊢
    split at hv
    ·rename_i gF;rw[if_pos gF];exact hv
    ·rename_i fa;rw[if_neg fa]
     exact hn.vals G2 (fun j z'=>by rw[eD,if_neg (by omega),show xs.length+j-xs.length=j from by omega]) _ v hv)
   (fun s p h=>fW s p (by simpa[zAJ]using h)) (ho:=by rw[←ez];rfl) (hq:=by rw[←ez];rfl)
  refine⟨_,w',by rw[hh];exact gx,_,fin _ w' _ (by simpa[zAJ]using g1) g2 (by simp[Gh.nb]) ?_ (fun s p h=>by simp[Gh.nb,h])⟩;simp only[R];refine .inr ⟨w.heap.size,0,cap',_,e,by simp[Gh.nb],g5,by simpa using hge,tq,?_,by simp[Gh.nb],?_,zP0 _ _ _ _ _ (fun x ej=>?_) g3 g4⟩
  ·have cj:(zX G s0 xs [] 0).length=xs.length*k:=by rw[xU,pj]
   have fZ:=hn.len;simp only[Array.size_append,Q4,Ji,size_zeroCells,fg,cj,fZ,←Hw];rw[J8];exact Kf _ (by omega)
  ·intro o ho _
   rw[Ji,Hw]at ho;simp[Gh.nb,zDk (xs++us) [] 0 o (by rw[zDF];omega)]
  ·rcases K6.1 ej with h|h
   ·exact eQ.2.1 x h
   ·exact hn.size x h
end
end Go.Ab

namespace Go.Ab
open Go
mutual
def T.flat:T→Bool
 |.lit _|.ro _=>du
 |.agg xs=>zAn xs
 |.any|.same _ _|.addr _ _|.sub _ _ _ _ _|.sl _ _|.ptr _|.tup _=>dv
def zAn:List T→Bool
 | []=>du
 |x::xs=>x.flat&&zAn xs
end
section
variable {St:Stb}{G G2:Gh}{w w2:World}{s d:Nat}
mutual
theorem zI3:(t:T)→ ∀(p p':List Nat),t.flat=du→(∀z,G2.hd d (z++p')=G.hd s (z++p))→R St G w s t p→R St G2 w2 d t p'
 |.lit _,p,p',_,h,hr=>by have:=h [];simp only[Jy]at this;simp only[R]at hr ⊢;rw[this];exact hr
 |.ro _,p,p',_,h,hr=>by have:=h [];simp only[Jy]at this;simp only[R]at hr ⊢;rw[this];exact hr
 |.agg xs,p,p',hf,h,hr=>by simp only[R,T.flat]at hr hf ⊢;exact zME xs p p' 0 hf h hr
 |.any,_,_,hf,_,_|.same _ _,_,_,hf,_,_|.addr _ _,_,_,hf,_,_|.sub _ _ _ _ _,_,_,hf,_,_|.sl _ _,_,_,hf,_,_|.ptr _,_,_,hf,_,_|.tup _,_,_,hf,_,_=>by simp[T.flat]at hf
theorem zME:(xs:List T)→ ∀(p p':List Nat)(j:Nat),zAn xs=du→(∀z,G2.hd d (z++p')=G.hd s (z++p))→RF St G w s xs p j→RF St G2 w2 d xs p' j
 | [],_,_,_,_,_,_=>by simp only[RF]
 |x::xs,p,p',j,hf,h,hr=>by
  simp only[RF,zAn,J2]at hr hf ⊢
  exact⟨zI3 x (j::p) (j::p') hf.1 (fun z=>by have:=h (z++[j]);simpa using this) hr.1,zME xs p p' (j+1) hf.2 h hr.2⟩
end
end
mutual
theorem zFV:(t:T)→t.flat=du→zT t∧t.okTup=du
 |.lit _,_|.ro _,_=>by simp[zT,yM,T.okTup]
 |.agg xs,h=>by simp only[T.flat]at h;simpa only[zT,yM,T.okTup]using zAa xs h
 |.any,h|.same _ _,h|.addr _ _,h|.sub _ _ _ _ _,h|.sl _ _,h|.ptr _,h|.tup _,h=>by simp[T.flat]at h
theorem zAa:(xs:List T)→zAn xs=du→yV xs∧yI xs=du
 | [],_=>by simp[yV,xG,yI]
 |x::xs,h=>by simp only[zAn,J2]at h;simp only[yV,xG,yI,J2];exact⟨⟨(zFV x h.1).1,(zAa xs h.2).1⟩,(zFV x h.1).2,(zAa xs h.2).2⟩
end
theorem zH5:(xs:List T)→zAn xs=du→ ∀(i:Nat)(x:T),xs[i]? =dq x→x.flat=du
 | [],_,_,_,h=>by simp at h
 |y::ys,hk,i,x,h=>by
  simp only[zAn,J2]at hk;cases i with
  |zero=>simp at h;subst h;exact hk.1
  |succ i=>exact zH5 ys hk.2 i x (by simpa using h)
mutual
def zEs:T→Bool
 |.lit _=>du
 |.sl _ xs=>zBn xs
 |.agg xs=>zBn xs
 |.ptr t=>zEs t
 |.any|.ro _|.same _ _|.addr _ _|.sub _ _ _ _ _|.tup _=>dv
def zBn:List T→Bool
 | []=>du
 |x::xs=>zEs x&&zBn xs
end
theorem zJ3:(ys:List T)→zBn ys=du→ ∀u∈ys,∀xs,u≠.tup xs
 | [],_,_,h,_=>by simp at h
 |y::ys,hr,u,h,xs=>by
  simp only[zBn,J2]at hr;rcases Jq.1 h with rfl|h
  ·rintro rfl;simp[zEs]at hr
  ·exact zJ3 ys hr.2 u h xs
theorem zET:(ys:List T)→(roT.roTs ys).length=ys.length
 | []=>rfl
 |y::ys=>by simp[roT.roTs,zET ys]
theorem zFW{k:Nat}:(ys:List T)→(∀u∈ys,u.size=k)→(∀u∈ys,∀xs,u≠.tup xs)→ ∀u∈roT.roTs ys,u.size=k
 | [],_,_,u,h=>by simp[roT.roTs]at h
 |y::ys,h1,h2,u,h=>by
  simp only[roT.roTs,Jq]at h;rcases h with rfl|h
  ·rw[zDC y (h2 y (by simp))];exact h1 y (by simp)
  ·exact zFW ys (fun v hv=>h1 v (by simp[hv])) (fun v hv=>h2 v (by simp[hv])) u h
theorem zJ4:(ys:List T)→ ∀(j:Nat)(u:T),(roT.roTs ys)[j]? =dq u→ ∃u0,ys[j]? =dq u0∧u=roT u0
 | [],_,_,h=>by simp[roT.roTs]at h
 |y::ys,j,u,h=>by
  cases j with
  |zero=>simp[roT.roTs]at h;exact⟨y,by simp,h.symm⟩
  |succ j=>
   obtain⟨u0,h1,h2⟩:=zJ4 ys j u (by simpa[roT.roTs]using h);exact⟨u0,by simpa using h1,h2⟩
theorem zMF{St:Stb}{G2:Gh}{d:Nat}:(ys:List T)→ ∀(cs':Array Value)(o' k n:Nat),RoL St ys cs' o' k→(∀u∈ys,u.size=k)→(∀j u,ys[j]? =dq u→ ∀z',G2.hd d (z'++[n+j])=qY (zDj u cs' (o'+j*k) z'.reverse))→
  ∀(i:Nat)(v:Value),(zX G2 d (roT.roTs ys) [] n)[i]? =dq v→cs'[o'+i]? =dq v
 | [],_,_,_,_,_,_,_,i,v,hv=>by simp[roT.roTs,zX]at hv
 |y::ys,cs',o',k,n,h,hs,hd,i,v,hv=>by
  simp only[RoL]at h;simp only[roT.roTs,zX]at hv;have gX:∀xs,y≠.tup xs:=by rintro xs rfl;simp only[RoC]at h;exact h.1
  have aF:∀xs,roT y≠.tup xs:=fun xs e=>by cases y<;>simp[roT]at e
  have hl:(vals G2 d (roT y) [n]).length=k:=by rw[wF _ _ aF,zDC y gX,hs y (by simp)]
  rw[Kg]at hv;split at hv
  ·exact zFH y cs' o' [n] (fun z'=>by simpa using hd 0 y (by simp) z') h.1 i v hv
  ·have:=zMF ys cs' (o'+k) k (n+1) h.2 (fun u hu=>hs u (by simp[hu])) (fun j u hu z'=>by
    have:=hd (j+1) u (by simpa using hu) z'
    rwa [show n+(j+1)=n+1+j from by omega,show o'+(j+1)*k=o'+k+j*k from by rw[Kx];omega]at this) _ v hv
   rwa [hl,show o'+k+(i-k)=o'+i from by omega]at this
mutual
theorem zOe{G:Gh}(hg:∀s z,(G.hd s z).oneCell'=du){s:Nat}:(t:T)→ ∀(p:List Nat)(v:Value),v∈vals G s t p→v.oneCell'=du
 |.agg xs,p,v,h=>by simp only[vals]at h;exact zDo hg xs p 0 v h
 |.any,p,v,h|.lit _,p,v,h|.ro _,p,v,h|.same _ _,p,v,h|.addr _ _,p,v,h|.sub _ _ _ _ _,p,v,h|.sl _ _,p,v,h|.ptr _,p,v,h|.tup _,p,v,h=>by simp only[vals,List.mem_singleton]at h;rw[h];exact hg s p
theorem zDo{G:Gh}(hg:∀s z,(G.hd s z).oneCell'=du){s:Nat}:(xs:List T)→ ∀(p:List Nat)(j:Nat)(v:Value),v∈zX G s xs p j→v.oneCell'=du
 | [],_,_,_,h=>by simp[zX]at h
 |x::xs,p,j,v,h=>by
  simp only[zX,K6]at h;rcases h with h|h
  ·exact zOe hg x _ v h
  ·exact zDo hg xs p _ v h
end
theorem zCa{G G2:Gh}{s d:Nat}:(us:List T)→ ∀(n j:Nat),(∀i z,G2.hd d (z++[n+i])=G.hd s (z++[j+i]))→zX G2 d us [] n=zX G s us [] j
 | [],_,_,_=>by simp only[zX]
 |x::xs,n,j,h=>by
  have ih:zX G2 d xs [] (n+1)=zX G s xs [] (j+1):=zCa xs (n+1) (j+1) (fun i z=>by rw[show n+1+i=n+(i+1)from by omega,show j+1+i=j+(i+1)from by omega];exact h (i+1) z)
  simp only[zX];rw[ih,zAO x [j] [n] (by simpa using h 0)]
theorem zDH{G G2:Gh}{s d:Nat}:(us:List T)→ ∀(n j:Nat)(q:List Nat),(∀i z,G2.hd d (z++[n+i])=G.hd s (z++((j+i)::q)))→zX G2 d us [] n=zX G s us q j
 | [],_,_,_,_=>by simp only[zX]
 |x::xs,n,j,q,h=>by
  have ih:zX G2 d xs [] (n+1)=zX G s xs q (j+1):=zDH xs (n+1) (j+1) q (fun i z=>by rw[show n+1+i=n+(i+1)from by omega,show j+1+i=j+(i+1)from by omega];exact h (i+1) z)
  simp only[zX];rw[ih,zAO x (j::q) [n] (by simpa using h 0)]
section
variable {P:Program}{Γ:Ctx}{E:Env}{o:Oper}{d:Nat}
theorem zMG{St:Stb}{G:Gh}{w:World}{r:Nat}{q:List Nat}{k:Nat}{us:List T}(h:R St G w r (.sl k us) q){size:Nat}(hk:size=k):
  ∃xa c,G.hd r q=.slice xa us.length c∧ ∀w2:World,w2.heap=w.heap→(Builtin.firstCells size us.length (.slice xa us.length c)).run P w2=.ok (zX G r us q 0).toArray w2:=by
 simp only[R]at h;rcases h with⟨rfl,a1,h1⟩|⟨b,o0,cap,cs,et,h1,h2,h3,h4,h5,h6,h7,h8⟩
 ·exact⟨a1,0,h1,fun w2 _=>by cases a1<;>simp[Builtin.firstCells,loadCells,loadCellsFrom,zX]⟩
 ·refine⟨_,_,h1,fun w2 mN=>?_⟩
  have hl:=jN us q 0 b o0 h8;refine run_firstCells_some (P:=P) w2 size us.length ⟨b,o0,dt⟩ _ _ _ ?_ (fun j v hv=>?_)
  ·rw[xU,hk]
   exact xX us (zBm us q 0 b o0 h8).2
  ·have:=zAx us q 0 b o0 hl j v hv
   rw[vN];simp only[yH]at this;simpa[World.cell?,mN]using this
theorem zBo{G:Gh}{a:Act}{w:World}(gc:Rep Γ E G a.tmps w){s:Nat}{t:T}(h:E s=dq t)(ht:t.single=du):a.eval (.tmp s)=G.hd s []:=by rw[xM (gc.ent s t h).1,xH ht]
theorem zI4(t e:TypeId)(ti:TypeInfo)(z:Value)(k s0 y:Nat)(xs us:List T)(ho:o.op=.call { callee:=.builtin .append,args:=#[.tmp s0,.tmp y],argTypes:=#[t,t] })(gj:o.dst=dq d)(hd:d<Γ.N)
  (ht:P.underlying t=dq (.slice e))(hi:P.info? e=dq ti)(hz:ti.zero=dq z)(hk:ti.size=k)(eC:0<k)(fg:z.cells.size=k)(hb:ti.bytes≤2048)
  (eu:E s0=dq (.sl k xs))(hy:E y=dq (.sl k us))(eR:s0≠d)(hyd:y≠d)(bS:y≠s0)(fN:xs.length+us.length≤68719476736):
  xR P Γ o E (E.app (aWr d s0 (dq y) k (xs++us)) (zAJ d s0 (dq y))):=by
 refine xR.value gj fun a w G gc=>?_
 obtain⟨_,y2,y3⟩:=gc.ent y _ hy;simp only[Top]at y3;obtain⟨xa,c,h1,h2⟩:=zMG (P:=P) y2 hk;have fe:yI us=du∧ ∀u∈us,u.size=k:=by
  simp only[R]at y2;rcases y2 with⟨rfl,_⟩|⟨b,o0,cap,cs,et,_,_,_,_,_,_,_,h8⟩
  ·simp[yI]
  ·exact⟨kM (St:=Γ.St) (k:=k) us [] 0 b o0 (jN us [] 0 b o0 h8),(zBm us [] 0 b o0 h8).2⟩
 have hn:zFU Γ E G d s0 (dq y) k xs.length us (fun j z'=>G.hd y (z'++[j])) (zX G y us [] 0):=
  ⟨fe.2,fe.1,y3,fun j z'=>gc.mem.one _ _,by rw[xU];exact xX us fe.2,fun y' hy'=>by simp at hy';subst hy';exact⟨hyd,bS,hy,fun _ _=>rfl⟩,fun h=>by simp at h,
   fun G2 eD o v hv=>by rw[←zCa us xs.length 0 (fun i z'=>by rw[eD,J8])];exact hv⟩
 obtain⟨v,w',gx,G',gp⟩:=zB9 (P:=P) (ty:=o.type) gc hd ht hi hz hk eC fg hb eu eR hn (xv:=a.eval (.tmp y)) ⟨.inl ⟨e,xa,c,ht,by rw[zBo gc hy rfl,h1],h2⟩⟩ (fun v hv=>zC7 gc.mem us [] 0 v hv) fN;refine⟨v,w',?_,G',gp⟩;rw[←zBo gc eu rfl]at gx;simp[execOp,ho,resolve,invoke,builtin,gx]
theorem zI5(t e:TypeId)(ti:TypeInfo)(z:Value)(k s0:Nat)(y:Operand)(r:Nat)(q:List Nat)(xs us:List T)(ho:o.op=.call { callee:=.builtin .append,args:=#[.tmp s0,y],argTypes:=#[t,t] })(gj:o.dst=dq d)(hd:d<Γ.N)
  (ht:P.underlying t=dq (.slice e))(hi:P.info? e=dq ti)(hz:ti.zero=dq z)(hk:ti.size=k)(eC:0<k)(fg:z.cells.size=k)(hb:ti.bytes≤2048)
  (eu:E s0=dq (.sl k xs))(hy:uQ E y=dq (r,q,.sl k us))(hf:zAn us=du)(eR:s0≠d)(fN:xs.length+us.length≤68719476736):
  xR P Γ o E (E.app (aWr d s0 dt k (xs++us)) (zAJ d s0 dt)):=by
 refine xR.value gj fun a w G gc=>?_
 obtain⟨y2,y1⟩:=sP gc hy rfl;obtain⟨xa,c,h1,h2⟩:=zMG (P:=P) y2 hk;have fe:(∀u∈us,u.size=k)∧ ∀j u,us[j]? =dq u→R Γ.St G w r u (j::q):=by
  simp only[R]at y2;rcases y2 with⟨rfl,_⟩|⟨b,o0,cap,cs,et,_,_,_,_,_,_,_,h8⟩
  ·simp
  ·refine⟨(zBm us q 0 b o0 h8).2,fun j u hu=>?_⟩
   have:=(qU us q 0 b o0 k j u h8 hu).2.2;simpa using this
 have gJ:=zAa us hf;have hn:zFU Γ E G d s0 dt k xs.length us (fun j z'=>G.hd r (z'++(j::q))) (zX G r us q 0):=
  ⟨fe.1,gJ.2,gJ.1,fun j z'=>gc.mem.one _ _,by rw[xU];exact xX us fe.1,fun y' hy'=>by simp at hy',
   fun _ j u hu G2 w2 eD=>zI3 u (j::q) [xs.length+j] (zH5 us hf j u hu) (fun z'=>eD z') (fe.2 j u hu),
   fun G2 eD o v hv=>by rw[←zDH us xs.length 0 q (fun i z'=>by rw[eD,J8])];exact hv⟩
 obtain⟨v,w',gx,G',gp⟩:=zB9 (P:=P) (ty:=o.type) gc hd ht hi hz hk eC fg hb eu eR hn (xv:=a.eval y) ⟨.inl ⟨e,xa,c,ht,by rw[y1,h1],h2⟩⟩ (fun v hv=>zC7 gc.mem us q 0 v hv) fN;refine⟨v,w',?_,G',gp⟩;rw[←zBo gc eu rfl]at gx;simp[execOp,ho,resolve,invoke,builtin,gx]
mutual
theorem zP6:(u:T)→zEs u=du→(roT u).flat=du
 |.agg xs,h=>by simp only[zEs]at h;simp only[roT,T.flat];exact zEt xs h
 |.lit _,_|.sl _ _,_|.ptr _,_=>by simp[roT,T.flat]
 |.any,h|.ro _,h|.same _ _,h|.addr _ _,h|.sub _ _ _ _ _,h|.tup _,h=>by simp[zEs]at h
theorem zEt:(xs:List T)→zBn xs=du→zAn (roT.roTs xs)=du
 | [],_=>by simp[roT.roTs,zAn]
 |x::xs,h=>by simp only[zBn,J2]at h;simp only[roT.roTs,zAn,J2];exact⟨zP6 x h.1,zEt xs h.2⟩
end
theorem zI6(t e:TypeId)(ti:TypeInfo)(z:Value)(k s0:Nat)(y:Operand)(r:Nat)(q:List Nat)(xs ys:List T)(ho:o.op=.call { callee:=.builtin .append,args:=#[.tmp s0,y],argTypes:=#[t,t] })(gj:o.dst=dq d)(hd:d<Γ.N)
  (ht:P.underlying t=dq (.slice e))(hi:P.info? e=dq ti)(hz:ti.zero=dq z)(hk:ti.size=k)(eC:0<k)(fg:z.cells.size=k)(hb:ti.bytes≤2048)
  (eu:E s0=dq (.sl k xs))(hy:uQ E y=dq (r,q,.ro (.sl k ys)))(hro:zBn ys=du)(bS:∀u∈ys,u.size=k)(eR:s0≠d)(fN:xs.length+ys.length≤68719476736):
  xR P Γ o E (E.app (aWr d s0 dt k (xs++roT.roTs ys)) (zAJ d s0 dt)):=by
 refine xR.value gj fun a w G gc=>?_
 obtain⟨y2,y1⟩:=sP gc hy rfl;obtain⟨xa,c,h1,h2,h3,h4⟩:=zC4 y2;have hf:=zEt ys hro;have gJ:=zAa _ hf;have gm:(roT.roTs ys).length=ys.length:=zET ys;have gv:∀u∈roT.roTs ys,u.size=k:=zFW ys bS (fun u hu=>zJ3 ys hro u hu);obtain⟨cs',o',h5,h6⟩:∃(cs':Array Value)(o':Nat),RoL Γ.St ys cs' o' k∧(ys≠[]→ ∃b et fr,xa=dq ⟨b,o',dt⟩∧Γ.St b=dq (.cells cs' et fr)):=by
  by_cases gf:ys=[]
  ·subst gf;exact⟨#[],0,by simp[RoL],fun h=>absurd rfl h⟩
  ·obtain⟨b,o',cs',et,fr,h5,h6,h7⟩:=h4 gf
   exact⟨cs',o',h7,fun _=>⟨b,et,fr,h5,h6⟩⟩
 let f2:Nat→List Nat→Value:=fun j z'=>match ys[j]? with
  |some u=>qY (zDj u cs' (o'+j*k) z'.reverse)
  |none=>.bool dv
 have hf2:∀j u,ys[j]? =dq u→ ∀z',f2 j z'=qY (zDj u cs' (o'+j*k) z'.reverse):=fun j u hu z'=>by simp[f2,hu]
 let G0:Gh:={ G with hd:=fun s z'=>if s=d then(match z'.getLast? with
  |some j=>f2 j z'.dropLast
  |none=>.bool dv)else G.hd s z' }
 have hG0:∀j z',G0.hd d (z'++[j])=f2 j z':=fun j z'=>by simp[G0]
 have fO:∀(G2:Gh)(n:Nat),(∀j z',G2.hd d (z'++[n+j])=f2 j z')→ ∀(i:Nat)(v:Value),(zX G2 d (roT.roTs ys) [] n)[i]? =dq v→cs'[o'+i]? =dq v:=by intro G2 n eD i v hv;exact zMF ys cs' o' k n h5 bS (fun j u hu z'=>by rw[eD,hf2 j u hu]) i v hv
 have bz:∀w2:World,w2.heap=w.heap→(Builtin.firstCells ti.size ys.length (.slice xa ys.length c)).run P w2=.ok (zX G0 d (roT.roTs ys) [] 0).toArray w2:=by
  intro w2 mN
  by_cases gf:ys=[]
  ·subst gf
   cases xa<;>simp[Builtin.firstCells,loadCells,loadCellsFrom,roT.roTs,zX]
  ·obtain⟨b,et,fr,rfl,h7⟩:=h6 gf
   refine run_firstCells_some (P:=P) w2 ti.size ys.length ⟨b,o',dt⟩ _ _ _ ?_ (fun j v hv=>?_)
   ·rw[xU,hk,xX _ gv,gm]
   ·have:=fO G0 0 (fun j z'=>by rw[J8];exact hG0 j z') j v hv
    rw[vN];have h8:=gc.mem.st b _ h7;simp[World.cell?,mN,h8,this]
 have pB:∀j z',(f2 j z').oneCell'=du:=fun j z'=>by
  dsimp only[f2];split
  ·exact zBi _
  ·rfl
 have hn:zFU Γ E G d s0 dt k xs.length (roT.roTs ys) f2 (zX G0 d (roT.roTs ys) [] 0):=by
  refine⟨gv,gJ.2,gJ.1,pB,by rw[xU];exact xX _ gv,fun y' hy'=>by simp at hy',fun _ j u hu G2 w2 eD=>?_,fun G2 eD i v hv=>?_⟩
  ·obtain⟨u0,bY,rfl⟩:=zJ4 ys j u hu
   exact zPv u0 cs' (o'+j*k) [xs.length+j] (fun z'=>by rw[eD z',hf2 j u0 bY]) (zFt ys cs' o' k j u0 h5 bY)
  ·rw[←zCa (roT.roTs ys) xs.length 0 (fun i z'=>by rw[eD,J8];exact(hG0 i z').symm)]
   exact hv
 have bn:∀v∈zX G0 d (roT.roTs ys) [] 0,v.oneCell'=du:=by
  intro v hv;refine zDo (fun s z'=>?_) _ [] 0 v hv;simp only[G0];split
  ·split
   ·exact pB _ _
   ·rfl
  ·exact gc.mem.one _ _
 have fc:zFT P t e ti (a.eval y) (roT.roTs ys).length (zX G0 d (roT.roTs ys) [] 0) w:=⟨.inl ⟨e,xa,c,ht,by rw[y1,h1,gm],by rw[gm];exact bz⟩⟩;obtain⟨v,w',gx,G',gp⟩:=zB9 (P:=P) (ty:=o.type) gc hd ht hi hz hk eC fg hb eu eR hn fc bn (by rw[gm];exact fN);refine⟨v,w',?_,G',gp⟩;rw[←zBo gc eu rfl]at gx;simp[execOp,ho,resolve,invoke,builtin,gx]
end
end Go.Ab

namespace Go.Ab
open Go
theorem zEU:(us:List T)→sB us=us.flatMap tG
 | []=>rfl
 |u::us=>by simp[sB,zEU us]
theorem zCb(u:T)(h:u.zOk=du):∀m,zAq (J1 m u)=du
 |0=>rfl
 |m+1=>by simp[L1,zAq,h,zCb u h m]
section
variable {P:Program}{Γ:Ctx}{E:Env}{o:Oper}{d:Nat}
theorem zFX(t t2 e:TypeId)(k2:IntKind)(ti:TypeInfo)(z:Value)(u:T)(k s0:Nat)(y:Operand)(kd:IntKind)(m:Nat)(xs:List T)(ho:o.op=.call { callee:=.builtin .append,args:=#[.tmp s0,y],argTypes:=#[t,t2] })(gj:o.dst=dq d)(hd:d<Γ.N)
  (ht:P.underlying t=dq (.slice e))(fP:P.underlying t2=dq (.int k2))(hi:P.info? e=dq ti)(hz:ti.zero=dq z)(hk:ti.size=k)(eC:0<k)(hb:ti.bytes≤2048)(hu:u.zOk=du)(hv:tG u=z.cells.toList)(fe:u.size=k)
  (eu:E s0=dq (.sl k xs))(hy:opT E y=dq (.lit (.int kd m)))(eR:s0≠d)(fN:xs.length+m≤68719476736):
  xR P Γ o E (E.app (aWr d s0 dt k (xs++J1 m u)) (zAJ d s0 dt)):=by
 refine xR.value gj fun a w G gc=>?_
 have fg:z.cells.size=k:=by grind[wN]
 have hzo:=zCb u hu m;have gJ:=zB8 _ hzo
 let f2:Nat→List Nat→Value:=fun _ z'=>qY (zhd u z'.reverse)
 have hnvl:((Builtin.zeroCells z.cells m).toList).length=m*k:=by grind[Builtin.zeroCells]
 have hn:zFU Γ E G d s0 dt k xs.length (J1 m u) f2 (Builtin.zeroCells z.cells m).toList:=by
  refine⟨by grind,gJ.2,gJ.1,fun _ _=>zBi _,by grind,by simp,fun _ j x hx G2 w2 eD=>?_,fun G2 eD i v hv'=>?_⟩
  ·grind[zIy]
  ·have h1:zX G2 d (J1 m u) [] xs.length=sB (J1 m u):=by grind[zDl]
   rw[h1,zEU]at hv';obtain⟨h2,h3⟩:=zIz tG u k (by grind) eC m i v hv'
   grind[Builtin.zeroCells]
 have gn:∀v∈(Builtin.zeroCells z.cells m).toList,v.oneCell'=du:=by
  intro v hv';simp only[Builtin.zeroCells,Array.toList_map,Array.toList_range,Ja,Jp]at hv';obtain⟨i,hZ,rfl⟩:=hv'
  grind[Nat.mod_lt,zEr]
 have fc:zFT P t2 e ti (a.eval y) (J1 m u).length (Builtin.zeroCells z.cells m).toList w:=by
  refine⟨.inr ⟨k2,kd,z,fP,?_,hz,by simp,?_,by omega⟩⟩
  ·rw[(xE gc hy).1];simp
  ·simp only[Gg]
   exact H6 (Jj (show m≤68719476736 by omega) hb) (by decide)
 obtain⟨v,w',gx,G',gp⟩:=zB9 (P:=P) (ty:=o.type) gc hd ht hi hz hk eC fg hb eu eR hn fc gn (by grind);refine⟨v,w',?_,G',gp⟩;rw[←zBo gc eu rfl]at gx;simp[execOp,ho,resolve,invoke,builtin,gx]
end
end Go.Ab

namespace Go.Ab
open Go
def zJ5(G:Gh)(nd:List (Nat×List Nat×T)):Value:=
 match nd with
 | [x]=>tM G x.1 x.2.2 x.2.1
 |nd=>.tuple (nd.map fun x=>tM G x.1 x.2.2 x.2.1).toArray
def FnC(P:Program)(f:FuncId)(us:List T)(res:List T)(rws:List (Nat×T)):Prop:=
 ∀(St:Stb)(W:Nat→Prop)(w:World)(G:Gh)(vs:Array Value),vs.size=us.length→
  (∀(i:Nat) u,us[i]? =dq u→vs[i]? =dq (mkV G i u [])∧R St G w i u [])→Mem ⟨St,W,w,0⟩ G w→
  Calls P f vs w fun e w'=> ∃(S':Stb)(G':Gh)(nd:List (Nat×List Nat×T)),zCQ St S' W w.heap.size∧e=.returned (zJ5 G' nd)∧Mem ⟨S',W,w,0⟩ G' w'∧nd.map (·.2.2)=res∧
   (∀x∈nd,R S' G' w' x.1 x.2.2 x.2.1∧us.length≤x.1)∧(nd.map (·.1)).Nodup∧
   ∀i u',(i,u')∈rws→R S' G' w' i u' []∧ ∃u,us[i]? =dq u∧mkV G' i u' []=mkV G i u []
mutual
def wH:T→Bool
 |.ro _=>dv
 |.sl _ xs|.agg xs|.tup xs=>vP xs
 |.ptr t=>wH t
 |.any|.lit _|.same _ _|.addr _ _|.sub _ _ _ _ _=>du
def vP:List T→Bool
 | []=>du
 |x::xs=>wH x&&vP xs
end
section
variable {St St':Stb}{G:Gh}{w:World}{s:Nat}
mutual
theorem zOf:(t:T)→ ∀(p:List Nat),wH t=du→R St G w s t p→R St' G w s t p
 |.ro _,_,h,_=>by simp[wH]at h
 |.sl k xs,p,h,hr=>by
  simp only[wH,R]at h hr ⊢
  rcases hr with hr|⟨b,o0,cap,cs,e,h1,h2,h3,h4,h5,h6,h7,h8⟩
  ·exact .inl hr
  ·exact .inr ⟨b,o0,cap,cs,e,h1,h2,h3,h4,h5,h6,h7,zUX xs p 0 b o0 k h h8⟩
 |.agg xs,p,h,hr|.tup xs,p,h,hr=>by simp only[wH,R]at h hr ⊢;exact zUY xs p 0 h hr
 |.ptr t,p,h,hr=>by
  simp only[wH,R]at h hr ⊢
  obtain⟨b,cs,e,h1,h2,h3,h6,h4,h5⟩:=hr;exact⟨b,cs,e,h1,h2,h3,h6,h4,zOf t _ h h5⟩
 |.any,_,_,hr|.lit _,_,_,hr|.same _ _,_,_,hr|.addr _ _,_,_,hr|.sub _ _ _ _ _,_,_,hr=>by first|(simp only[R];done)|simpa only[R]using hr
theorem zUX:(xs:List T)→ ∀(p:List Nat)(i b o k:Nat),vP xs=du→RL St G w s xs p i b o k→RL St' G w s xs p i b o k
 | [],_,_,_,_,_,_,_=>by simp only[RL]
 |x::xs,p,i,b,o,k,h,hr=>by
  simp only[vP,J2,RL]at h hr ⊢
  exact⟨hr.1,zOf x _ h.1 hr.2.1,zUX xs p (i+1) b _ k h.2 hr.2.2⟩
theorem zUY:(xs:List T)→ ∀(p:List Nat)(i:Nat),vP xs=du→RF St G w s xs p i→RF St' G w s xs p i
 | [],_,_,_,_=>by simp only[RF]
 |x::xs,p,i,h,hr=>by
  simp only[vP,J2,RF]at h hr ⊢
  exact⟨zOf x _ h.1 hr.1,zUY xs p (i+1) h.2 hr.2⟩
end
end
section
variable {St St':Stb} (h:∀b x,St b=dq x→St' b=dq x)
 include h
mutual
theorem uI:(t:T)→ ∀(cs:Array Value)(o:Nat),RoC St t cs o→RoC St' t cs o
 |.sl k xs,cs,o,hr=>by
  simp only[RoC]at hr ⊢
  obtain⟨a,c,h1,h2,h3,h4⟩:=hr;refine⟨a,c,h1,h2,h3,fun gf=>?_⟩;obtain⟨b,o',cs',e,fr,h5,h6,h7⟩:=h4 gf;exact⟨b,o',cs',e,fr,h5,h b _ h6,zJ6 xs cs' o' k h7⟩
 |.agg xs,cs,o,hr=>by simp only[RoC]at hr ⊢;exact zJ7 xs cs o hr
 |.ptr t,cs,o,hr=>by
  simp only[RoC]at hr ⊢
  obtain⟨b,o',cs',e,fr,h5,h6,h7⟩:=hr;exact⟨b,o',cs',e,fr,h5,h b _ h6,uI t cs' o' h7⟩
 |.ro u,cs,o,hr=>by
  simp only[RoC]at hr ⊢
  obtain⟨f,vs,h1,h2,h3⟩:=hr;exact⟨f,vs,h1,h2,uI u _ _ h3⟩
 |.any,_,_,hr|.lit _,_,_,hr|.same _ _,_,_,hr|.addr _ _,_,_,hr|.sub _ _ _ _ _,_,_,hr|.tup _,_,_,hr=>by first|(simp only[RoC]at hr;done)|simpa only[RoC]using hr
theorem zJ6:(xs:List T)→ ∀(cs:Array Value)(o k:Nat),RoL St xs cs o k→RoL St' xs cs o k
 | [],_,_,_,_=>by have _:=h;simp only[RoL]
 |x::xs,cs,o,k,hr=>by simp only[RoL]at hr ⊢;exact⟨uI x cs o hr.1,zJ6 xs cs _ k hr.2⟩
theorem zJ7:(xs:List T)→ ∀(cs:Array Value)(o:Nat),RoF St xs cs o→RoF St' xs cs o
 | [],_,_,_=>by have _:=h;simp only[RoF]
 |x::xs,cs,o,hr=>by simp only[RoF]at hr ⊢;exact⟨uI x cs o hr.1,zJ7 xs cs _ hr.2⟩
end
end
section
variable {St St':Stb}{G:Gh}{w:World}{s:Nat} (h:∀b x,St b=dq x→St' b=dq x)
 include h
mutual
theorem zI7:(t:T)→ ∀(p:List Nat),R St G w s t p→R St' G w s t p
 |.ro t,_,hr=>by simp only[R]at hr ⊢;exact uI h t _ _ hr
 |.sl k xs,p,hr=>by
  simp only[R]at hr ⊢
  rcases hr with hr|⟨b,o0,cap,cs,e,h1,h2,h3,h4,h5,h6,h7,h8⟩
  ·exact .inl hr
  ·exact .inr ⟨b,o0,cap,cs,e,h1,h2,h3,h4,h5,h6,h7,zMH xs p 0 b o0 k h8⟩
 |.agg xs,p,hr|.tup xs,p,hr=>by simp only[R]at hr ⊢;exact zMI xs p 0 hr
 |.ptr t,p,hr=>by
  simp only[R]at hr ⊢
  obtain⟨b,cs,e,h1,h2,h3,h6,h4,h5⟩:=hr;exact⟨b,cs,e,h1,h2,h3,h6,h4,zI7 t _ h5⟩
 |.any,_,hr|.lit _,_,hr|.same _ _,_,hr|.addr _ _,_,hr|.sub _ _ _ _ _,_,hr=>by first|(simp only[R];done)|simpa only[R]using hr
theorem zMH:(xs:List T)→ ∀(p:List Nat)(i b o k:Nat),RL St G w s xs p i b o k→RL St' G w s xs p i b o k
 | [],_,_,_,_,_,_=>by have _:=h;simp only[RL]
 |x::xs,p,i,b,o,k,hr=>by simp only[RL]at hr ⊢;exact⟨hr.1,zI7 x _ hr.2.1,zMH xs p (i+1) b _ k hr.2.2⟩
theorem zMI:(xs:List T)→ ∀(p:List Nat)(i:Nat),RF St G w s xs p i→RF St' G w s xs p i
 | [],_,_,_=>by have _:=h;simp only[RF]
 |x::xs,p,i,hr=>by simp only[RF]at hr ⊢;exact⟨zI7 x _ hr.1,zMI xs p (i+1) hr.2⟩
end
end
mutual
def strip:T→T
 |.lit v=>.lit v
 |.ro u=>if u.single then u else .any
 |.sl k xs=>.sl k (xY xs)
 |.agg xs=>.agg (xY xs)
 |.ptr t=>.ptr (strip t)
 |.any|.same _ _|.addr _ _|.sub _ _ _ _ _|.tup _=>.any
def xY:List T→List T
 | []=>[]
 |x::xs=>strip x::xY xs
end
theorem kN:(xs:List T)→(xY xs).length=xs.length
 | []=>rfl
 |x::xs=>by simp[xY,kN xs]
mutual
theorem zDp:(t:T)→(strip t).size=t.size
 |.agg xs=>by simp only[strip,T.size];exact zEV xs
 |.ro u=>by
  simp only[strip];split
  ·rename_i h;cases u<;>simp[T.single]at h<;>simp[T.size]
  ·simp[T.size]
 |.lit _|.sl _ _|.ptr _|.any|.same _ _|.addr _ _|.sub _ _ _ _ _|.tup _=>by simp[strip,T.size]
theorem zEV:(xs:List T)→T.sizes (xY xs)=T.sizes xs
 | []=>rfl
 |x::xs=>by simp only[xY,T.sizes,zDp x,zEV xs]
end
theorem sZ{St:Stb}{u:T}(hu:u.single=du){v:Value}{cs:Array Value}{o:Nat}(h:RoC St u #[v] 0)(hc:cs[o]? =dq v):RoC St u cs o:=by
 cases u<;>simp[T.single]at hu<;>simp only[RoC]at h ⊢ <;>simp at h<;>first
  |exact⟨v,hc,h⟩
  |(obtain⟨rfl,h2⟩:=h;exact⟨hc,h2⟩)
  |(obtain⟨f,vs,rfl,h2⟩:=h;exact⟨f,vs,hc,h2⟩)
  |(obtain⟨a,c,rfl,h2⟩:=h;exact⟨a,c,hc,by simpa using h2⟩)
  |(obtain⟨b,o',rfl,h2⟩:=h;obtain⟨cs',⟨e,f1,f2,h3⟩,h4⟩:=h2;exact⟨b,o',cs',e,(f1,f2),hc,h3,h4⟩)
section
variable {St Sc:Stb}{G:Gh}{w:World}{s:Nat} (gn:∀s p,(G.hd s p).oneCell'=du) (eg:∀b x,St b=dq x→Sc b=dq x) (eh:∀b,(∃y,G.ow b=dq (s,y))→Sc b=w.heap[b]?)
 include gn eg eh
mutual
theorem frz:(t:T)→ ∀(p:List Nat)(b o:Nat)(cs:Array Value)(e:TypeId)(fr:Nat×Nat),w.heap[b]? =dq (.cells cs e fr)→Loc G w s t p b o→R St G w s t p→RoC Sc (strip t) cs o
 |.agg xs,p,b,o,cs,e,fr,hb,hl,hr=>by simp only[Loc,R,strip,RoC]at hl hr ⊢;exact zXr xs p 0 b o cs e fr hb hl.2 hr
 |.tup _,_,_,_,_,_,_,_,hl,_=>by have _:=eh;simp only[Loc]at hl
 |.any,p,b,o,cs,e,fr,hb,hl,hr|.same _ _,p,b,o,cs,e,fr,hb,hl,hr|.addr _ _,p,b,o,cs,e,fr,hb,hl,hr|.sub _ _ _ _ _,p,b,o,cs,e,fr,hb,hl,hr=>by have h1:=(wC rfl hl).2.2;simp only[yH,World.cell?,hb]at h1;simp only[strip,RoC];exact⟨_,by simpa using h1,gn s p⟩
 |.lit v,p,b,o,cs,e,fr,hb,hl,hr=>by
  have h1:=(wC rfl hl).2.2;simp only[yH,World.cell?,hb]at h1;simp only[strip,RoC,R]at hr ⊢
  exact⟨by rw[←hr];simpa using h1,by rw[←hr];exact gn s p⟩
 |.ro u,p,b,o,cs,e,fr,hb,hl,hr=>by
  have h1:=(wC rfl hl).2.2;simp only[yH,World.cell?,hb]at h1;simp only[strip,R]at hr ⊢
  split
  ·rename_i hu
   exact sZ hu (uI eg u _ _ hr) (by simpa using h1)
  ·simp only[RoC];exact⟨_,by simpa using h1,gn s p⟩
 |.sl k xs,p,b,o,cs,e,fr,hb,hl,hr=>by have h1:=(wC rfl hl).2.2;simp only[yH,World.cell?,hb]at h1;exact sZ rfl (zJ8 (.sl k xs) p rfl hr) (by simpa using h1)
 |.ptr t,p,b,o,cs,e,fr,hb,hl,hr=>by have h1:=(wC rfl hl).2.2;simp only[yH,World.cell?,hb]at h1;exact sZ rfl (zJ8 (.ptr t) p rfl hr) (by simpa using h1)
theorem zXr:(xs:List T)→ ∀(p:List Nat)(j b o:Nat)(cs:Array Value)(e:TypeId)(fr:Nat×Nat),w.heap[b]? =dq (.cells cs e fr)→wJ G w s xs p j b o→RF St G w s xs p j→RoF Sc (xY xs) cs o
 | [],_,_,_,_,_,_,_,_,_,_=>by have _:=gn;have _:=eg;have _:=eh;simp only[xY,RoF]
 |x::xs,p,j,b,o,cs,e,fr,hb,hl,hr=>by
  simp only[wJ,RF,xY,RoF]at hl hr ⊢
  exact⟨frz x _ b o cs e fr hb hl.1 hr.1,by rw[zDp];exact zXr xs p (j+1) b _ cs e fr hb hl.2 hr.2⟩
theorem zXs:(xs:List T)→ ∀(p:List Nat)(i b o k:Nat)(cs:Array Value)(e:TypeId)(fr:Nat×Nat),w.heap[b]? =dq (.cells cs e fr)→RL St G w s xs p i b o k→RoL Sc (xY xs) cs o k
 | [],_,_,_,_,_,_,_,_,_,_=>by have _:=gn;have _:=eg;have _:=eh;simp only[xY,RoL]
 |x::xs,p,i,b,o,k,cs,e,fr,hb,hr=>by
  simp only[RL,xY,RoL]at hr ⊢
  exact⟨frz x _ b o cs e fr hb hr.1.1 hr.2.1,zXs xs p (i+1) b _ k cs e fr hb hr.2.2⟩
theorem zJ8:(t:T)→ ∀(p:List Nat),t.single=du→R St G w s t p→RoC Sc (strip t) #[G.hd s p] 0
 |.agg _,_,h,_|.tup _,_,h,_=>by simp[T.single]at h
 |.any,p,_,_|.same _ _,p,_,_|.addr _ _,p,_,_|.sub _ _ _ _ _,p,_,_=>by simp only[strip,RoC];exact⟨_,by simp,gn s p⟩
 |.lit v,p,_,hr=>by simp only[strip,RoC,R]at hr ⊢;exact⟨by simp[hr],by rw[←hr];exact gn s p⟩
 |.ro u,p,_,hr=>by
  simp only[strip,R]at hr ⊢
  split
  ·exact uI eg u _ _ hr
  ·simp only[RoC];exact⟨_,by simp,gn s p⟩
 |.sl k xs,p,_,hr=>by
  simp only[strip,R,RoC]at hr ⊢
  rw[kN];rcases hr with⟨rfl,a,h1⟩|⟨b,o0,cap,cs,e,h1,h2,h3,h4,h5,h6,h7,h8⟩
  ·exact⟨a,0,by simp[h1],by simp,by simp[maxLen],fun h=>by simp[xY]at h⟩
  ·exact⟨dq ⟨b,o0,dt⟩,cap,by simp[h1],h3,h4,fun _=>⟨b,o0,cs,e,(0,0),rfl,by rw[eh b ⟨_,h6⟩];exact h2,zXs xs p 0 b o0 k cs e (0,0) h2 h8⟩⟩
 |.ptr t,p,_,hr=>by
  simp only[strip,R,RoC]at hr ⊢
  obtain⟨b,cs,e,h1,h2,h3,h6,h4,h5⟩:=hr;exact⟨b,0,cs,e,(0,0),by simp[h1],by rw[eh b ⟨_,h6⟩];exact h2,frz t _ b 0 cs e (0,0) h2 h4 h5⟩
end
end
end Go.Ab

namespace Go.Ab
open Go
mutual
def clo(E:Env):T→T
 |.agg ts=>.agg (zBA E ts)
 |.lit v=>.lit v
 |.ro u=>.ro u
 |.same r q=>match sO E 4 r q with
  |some (_,_,.ro u)=>.ro u
  |some (_,_,.lit v)=>.lit v
  |some (_,_,t)=>if t.single then .ro (strip t)else .any
  |none=>.any
 |.sub r q k lo hi=>match sO E 4 r q with
  |some (_,_,.sl k' xs)=>if k=k'∧lo≤hi∧hi≤xs.length then .ro (.sl k (((xY xs).drop lo).take (hi-lo)))else .any
  |_=>.any
 |.sl k xs=>.ro (strip (.sl k xs))
 |.ptr t=>.ro (strip (.ptr t))
 |.any|.addr _ _|.tup _=>.any
def zBA(E:Env):List T→List T
 | []=>[]
 |x::xs=>clo E x::zBA E xs
end
mutual
def tX(E:Env)(rs:List Nat)(s:Nat):T→Bool
 |.agg ts=>zA3 E rs s ts
 |.same r q|.sub r q _ _ _=>match sO E 4 r q with
  |some (r',_,_)=> !rs.contains r'
  |none=>du
 |.sl _ _|.ptr _=> !rs.contains s
 |.lit _|.ro _|.any|.addr _ _=>du
 |.tup _=>dv
def zA3(E:Env)(rs:List Nat)(s:Nat):List T→Bool
 | []=>du
 |x::xs=>tX E rs s x&&zA3 E rs s xs
end
theorem zSI{St:Stb}{k:Nat}{xs:List T}{v:Value}{lo hi:Nat}(h:RoC St (.sl k xs) #[v] 0)(h1:lo≤hi)(h2:hi≤xs.length):RoC St (.sl k ((xs.drop lo).take (hi-lo))) #[zBg v k lo hi] 0:=by
 simp only[RoC]at h ⊢
 obtain⟨a',c,g4,g5,g6,g7⟩:=h;have hv:v=.slice a' xs.length c:=by grind
 subst hv;have gm:((xs.drop lo).take (hi-lo)).length=hi-lo:=by simp;omega
 refine⟨if c=lo then a' else a'.map (·.add (lo*k)),c-lo,by grind[zBg],by omega,by omega,?_⟩;intro gf;have ex:xs≠[]:=by grind
 obtain⟨b,o',cs',e',fr,rfl,h3,h4⟩:=g7 ex;have gJ:c≠lo:=by grind
 grind[vN,zFJ,zFI]
section
variable {Γ:Ctx}{E:Env}{G Gc:Gh}{a:Act}{w:World}{Sc:Stb}{rs:List Nat}{s i:Nat} (gc:Rep Γ E G a.tmps w) (eg:∀b x,Γ.St b=dq x→Sc b=dq x) (eh:∀r,r∉rs→ ∀b,(∃y,G.ow b=dq (r,y))→Sc b=w.heap[b]?) (gI:∀z,Gc.hd i z=G.hd s z)
 include gc eg eh gI
mutual
theorem zUZ:(t:T)→ ∀(p:List Nat),tX E rs s t=du→R Γ.St G w s t p→R Sc Gc w i (clo E t) p
 |.agg ts,p,h,hr=>by simp only[tX,clo,R]at h hr ⊢;exact zP7 ts p 0 h hr
 |.tup _,_,h,_=>by grind[tX]
 |.lit v,p,_,hr=>by simp only[clo,R]at hr ⊢;grind
 |.ro u,p,_,hr=>by simp only[clo,R]at hr ⊢;grind[uI]
 |.any,_,_,_|.addr _ _,_,_,_=>by simp only[clo,R]
 |.sl k xs,p,h,hr=>by
  simp only[tX,Hq,Li,decide_eq_false_iff_not]at h;have:=zJ8 (fun s p=>gc.mem.one s p) eg (eh s h) (.sl k xs) p rfl hr;simp only[clo,R]
  grind
 |.ptr t,p,h,hr=>by
  simp only[tX,Hq,Li,decide_eq_false_iff_not]at h;have:=zJ8 (fun s p=>gc.mem.one s p) eg (eh s h) (.ptr t) p rfl hr;simp only[clo,R]
  grind
 |.same r q,p,h,hr=>by
  simp only[tX,clo,R]at h hr ⊢
  cases hf:sO E 4 r q with
  |none=>simp only[R]
  |some x=>
   obtain⟨r',q',t⟩:=x;simp only[hf,Hq,Li,decide_eq_false_iff_not]at h;obtain⟨h1,h2,_⟩:=zC3 gc 4 r q r' q' t hf;have h3:Gc.hd i p=G.hd r' q':=by grind
   by_cases hs:t.single=du
   ·have h4:=zJ8 (fun s p=>gc.mem.one s p) eg (eh r' h) t q' hs h1
    cases t with
    |ro u=>simp only[R]at h1 ⊢;grind[uI]
    |lit v=>simp only[R]at h1 ⊢;grind
    |agg _=>grind[T.single]
    |tup _=>grind[T.single]
    |_=>simp only[hs,if_true,R];grind
   ·cases t<;>simp[T.single]at hs<;>simp[T.single,R]
 |.sub r q k lo hi,p,h,hr=>by
  simp only[tX,clo,R]at h hr ⊢
  cases hf:sO E 4 r q with
  |none=>simp only[R]
  |some x=>
   obtain⟨r',q',t⟩:=x;simp only[hf,Hq,Li,decide_eq_false_iff_not]at h;obtain⟨h1,h2,_⟩:=zC3 gc 4 r q r' q' t hf;cases t with
   |sl k' xs=>
    simp only[];split
    ·rename_i hc
     obtain⟨rfl,ct,fb⟩:=hc;have h4:=zJ8 (fun s p=>gc.mem.one s p) eg (eh r' h) (.sl k xs) q' rfl h1;simp only[strip]at h4;simp only[R]
     grind[zSI,kN]
    ·simp only[R]
   |_=>simp only[R]
theorem zP7:(ts:List T)→ ∀(p:List Nat)(j:Nat),zA3 E rs s ts=du→RF Γ.St G w s ts p j→RF Sc Gc w i (zBA E ts) p j
 | [],_,_,_,_=>by have _:=gc;have _:=eg;have _:=eh;have _:=gI;simp only[zBA,RF]
 |x::xs,p,j,h,hr=>by
  simp only[zA3,J2,zBA,RF]at h hr ⊢
  exact⟨zUZ x _ h.1 hr.1,zP7 xs p (j+1) h.2 hr.2⟩
end
end
section
variable {E:Env}{G Gc:Gh}{rs:List Nat}{s i:Nat}
theorem zFY(t:T)(h:t.single=du):(clo E t).single=du:=by cases t<;>simp[T.single]at h<;>simp only[clo]<;>first|rfl|(split<;>first|rfl|(split<;>rfl))
mutual
theorem zP8(gI:∀z,Gc.hd i z=G.hd s z):(t:T)→ ∀(p:List Nat),tX E rs s t=du→vals Gc i (clo E t) p=vals G s t p
 |.agg ts,p,h=>by simp only[tX,clo,vals]at h ⊢;exact zEu gI ts p 0 h
 |.tup _,_,h=>by grind[tX]
 |.lit _,p,_|.ro _,p,_|.any,p,_|.addr _ _,p,_|.sl _ _,p,_|.ptr _,p,_|.same _ _,p,_|.sub _ _ _ _ _,p,_=>by
  have h1:∀u:T,u.single=du→vals Gc i u p=[G.hd s p]:=fun u hu=>by cases u<;>simp[T.single]at hu<;>simp[vals,gI]
  rw[h1 _ (zFY _ rfl)];simp[vals]
theorem zEu(gI:∀z,Gc.hd i z=G.hd s z):(ts:List T)→ ∀(p:List Nat)(j:Nat),zA3 E rs s ts=du→zX Gc i (zBA E ts) p j=zX G s ts p j
 | [],_,_,_=>by rfl
 |x::xs,p,j,h=>by simp only[zA3,J2]at h;simp only[zBA,zX];rw[zP8 gI x _ h.1,zEu gI xs p _ h.2]
end
theorem zI8(gI:∀z,Gc.hd i z=G.hd s z)(t:T)(h:tX E rs s t=du):mkV Gc i (clo E t) []=mkV G s t []:=by
 cases t with
 |agg ts=>grind[tX,clo,mkV,zEu]
 |tup _=>grind[tX]
 |_=>rw[xH (zFY _ rfl),xH rfl,gI]
end
end Go.Ab
