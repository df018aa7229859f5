/- x -/
import Derived.Orders
import Derived.Laws.AppendOwn
import Derived.Laws.MakeOwn
import Derived.Great.BuildSlice
import Derived.Laws.Tables
open List renaming replicate→J1,length_append→J5,length_replicate→J6,mem_cons→J9,append_nil→Jb,length_cons→Jc,getElem?_append_right→Je,mem_append→Jf,append_assoc→Jg,mem_map→Ji,getElem?_eq_some_iff→Jo,nil_append→Jq,map_cons→Jt,replicate_succ→Ju,length_nil→K0,getElem?_append_left→K3,getElem?_map→K4,reverse_reverse→K5,all_eq_true→K8,eq_nil_of_length_eq_zero→Kb,cons_append→Kd,ext_getElem?→Kl,getElem?_append→Kn,mem_range→Kq,nodup_cons→Kx,set_cons_succ→Kz,length_take→L4,take_succ_cons→L5,length_set→L8,mem_of_getElem?→Lj,getElem?_drop→Lm,flatMap_cons→Lq,set_cons_zero→Lx,contains_eq_mem→H0,foldl_cons→G1,getElem?_take_of_lt→G8,reverse_nil→Gb,map_nil→Gp,drop_eq_getElem_cons→Gs,reverse_cons→Gt,map_take→U5,reverse_append→Uy,not_mem_nil→Q8,size_toArray→Qg,take_append→Qp,isEmpty_iff→Qr,getElem?_cons_succ→Qy,cons→Ja0,flatMap_append→Jb1
open Bool renaming and_eq_true→J2,false_eq_true→Hg,not_eq_true'→G7,false_and→Ja4,true_and→Jao
open Int renaming toNat_natCast→J8,natCast_mul→Um
open Nat renaming zero_add→Jd,le_refl→Jk,lt_or_ge→Jn,mul_le_mul_right→Jw,succ_mul→K7,mul_le_mul→Ka,add_assoc→H3,le_trans→Hl,add_mul→Gm,mod_lt→Gz,min_eq_left→Uk,lt_of_lt_of_le→Qe,add_zero→Jad
open Array renaming getElem?_setIfInBounds→Jj,length_toList→Kh,getD_eq_getD_getElem?→Kj,getElem?_toList→Ks,getElem?_eq_some_iff→Ht,range→Jab,ext'→Jah
open Option renaming isSome_none→Gy,map_none→Qv
open Prod renaming mk→Ja1
open Option renaming some→dJ,none→dK
open Bool renaming true→dL,false→dM
theorem dO{p:Prop}[h:Decidable p](a:¬p):decide p=false:=decide_eq_false a
theorem dP{p:Prop}[h:Decidable p](a:p):decide p=true:=decide_eq_true a
namespace Go.Ab
open Go
inductive T where
 |any
 |lit (v:Value)
 |ro (t:T)
 |same (r:Nat) (p:List Nat)
 |addr (r:Nat) (p:List Nat)
 |sub (r:Nat) (p:List Nat) (k lo hi:Nat)
 |sl (k:Nat) (xs:List T)
 |agg (xs:List T)
 |ptr (t:T)
 |tup (xs:List T)
 deriving Inhabited
abbrev Stb:=Nat→Option Obj
mutual
def T.size:T→Nat
 |.agg xs=>T.sizes xs
 |_=>1
def T.sizes:List T→Nat
 | []=>0
 |x::xs=>x.size+T.sizes xs
end
mutual
def RoC(St:Stb):T→Array Value→Nat→Prop
 |.any,cs,o=> ∃v,cs[o]? =dJ v∧v.oneCell'=dL
 |.lit v,cs,o=>cs[o]? =dJ v∧v.oneCell'=dL
 |.ro u,cs,o=> ∃f vs,cs[o]? =dJ (.func (.func f) #[] vs)∧vs.size+1=u.size∧RoC St u (#[.func (.func f) #[] #[]]++vs) 0
 |.sl k xs,cs,o=> ∃a c,cs[o]? =dJ (.slice a xs.length c)∧xs.length≤c∧c≤maxLen∧
   (xs≠[]→ ∃b o' cs' e fr,a=dJ ⟨b,o',dK⟩∧St b=dJ (.cells cs' e fr)∧RoL St xs cs' o' k)
 |.agg xs,cs,o=>RoF St xs cs o
 |.ptr t,cs,o=> ∃b o' cs' e fr,cs[o]? =dJ (.pointer (dJ ⟨b,o',dK⟩))∧St b=dJ (.cells cs' e fr)∧RoC St t cs' o'
 |.same _ _,_,_=>False
 |.addr _ _,_,_=>False
 |.sub _ _ _ _ _,_,_=>False
 |.tup _,_,_=>False
def RoL(St:Stb):List T→Array Value→Nat→Nat→Prop
 | [],_,_,_=>True
 |x::xs,cs,o,k=>RoC St x cs o∧RoL St xs cs (o+k) k
def RoF(St:Stb):List T→Array Value→Nat→Prop
 | [],_,_=>True
 |x::xs,cs,o=>RoC St x cs o∧RoF St xs cs (o+x.size)
end
structure Gh where
 hd:Nat→List Nat→Value
 ad:Nat→List Nat→Addr
 lb:Nat→Nat→Option (Bool×Nat×List Nat)
 ow:Nat→Option (Nat×List Nat)
def yL(w:World)(b o:Nat):Option Value:=w.cell? ⟨b,o,dK⟩
mutual
def Loc(G:Gh)(w:World)(s:Nat):T→List Nat→Nat→Nat→Prop
 |.agg xs,p,b,o=>G.ad s p=⟨b,o,dK⟩∧vB G w s xs p 0 b o
 |.tup _,_,_,_=>False
 |.any,p,b,o|.lit _,p,b,o|.ro _,p,b,o|.same _ _,p,b,o|.addr _ _,p,b,o|.sub _ _ _ _ _,p,b,o|.sl _ _,p,b,o|.ptr _,p,b,o=>
  G.ad s p=⟨b,o,dK⟩∧G.lb b o=dJ (dM,s,p)∧yL w b o=dJ (G.hd s p)
def vB(G:Gh)(w:World)(s:Nat):List T→List Nat→Nat→Nat→Nat→Prop
 | [],_,_,_,_=>True
 |x::xs,p,j,b,o=>Loc G w s x (j::p) b o∧vB G w s xs p (j+1) b (o+x.size)
end
def zBN(v:Value)(k lo hi:Nat):Value:=
 match v with
 |.slice a _ c=>.slice (if c=lo then a else a.map (·.add (lo*k))) (hi-lo) (c-lo)
 |v=>v
mutual
def R(St:Stb)(G:Gh)(w:World)(s:Nat):T→List Nat→Prop
 |.any,_=>True
 |.lit v,p=>G.hd s p=v
 |.ro t,p=>RoC St t #[G.hd s p] 0
 |.same r q,p=>G.hd s p=G.hd r q
 |.addr r q,p=>G.hd s p=.pointer (dJ (G.ad r q))
 |.sub r q k lo hi,p=>G.hd s p=zBN (G.hd r q) k lo hi
 |.sl k xs,p=>(xs=[]∧ ∃a,G.hd s p=.slice a 0 0)∨ ∃b o0 cap cs e,G.hd s p=.slice (dJ ⟨b,o0,dK⟩) xs.length cap∧
   w.heap[b]? =dJ (.cells cs e (0,0))∧xs.length≤cap∧cap≤maxLen∧o0+cap*k≤cs.size∧G.ow b=dJ (s,p)∧
   (∀o,o0+xs.length*k≤o→o<o0+cap*k→G.lb b o=dJ (dL,s,p))∧RL St G w s xs p 0 b o0 k
 |.agg xs,p=>RF St G w s xs p 0
 |.ptr t,p=> ∃b cs e,G.hd s p=.pointer (dJ ⟨b,0,dK⟩)∧w.heap[b]? =dJ (.cells cs e (0,0))∧cs.size=t.size∧G.ow b=dJ (s,p)∧
   Loc G w s t (0::p) b 0∧R St G w s t (0::p)
 |.tup xs,p=>RF St G w s xs p 0
def RL(St:Stb)(G:Gh)(w:World)(s:Nat):List T→List Nat→Nat→Nat→Nat→Nat→Prop
 | [],_,_,_,_,_=>True
 |x::xs,p,i,b,o,k=>(Loc G w s x (i::p) b o∧x.size=k)∧R St G w s x (i::p)∧RL St G w s xs p (i+1) b (o+k) k
def RF(St:Stb)(G:Gh)(w:World)(s:Nat):List T→List Nat→Nat→Prop
 | [],_,_=>True
 |x::xs,p,j=>R St G w s x (j::p)∧RF St G w s xs p (j+1)
end
mutual
def yR(φ:Nat→List Nat→Prop):T→Prop
 |.same r p|.addr r p|.sub r p _ _ _=>φ r p
 |.sl _ xs|.agg xs|.tup xs=>xH φ xs
 |.ptr t=>yR φ t
 |.any|.lit _|.ro _=>True
def xH(φ:Nat→List Nat→Prop):List T→Prop
 | []=>True
 |x::xs=>yR φ x∧xH φ xs
end
mutual
theorem yR.mono{φ ψ:Nat→List Nat→Prop}(h:∀r p,φ r p→ψ r p):(t:T)→yR φ t→yR ψ t
 |.same _ _,ht|.addr _ _,ht|.sub _ _ _ _ _,ht=>h _ _ ht
 |.sl _ xs,ht|.agg xs,ht|.tup xs,ht=>by simp only[yR]at ht ⊢;exact xH.mono h xs ht
 |.ptr t,ht=>by simp only[yR]at ht ⊢;exact yR.mono h t ht
 |.any,_|.lit _,_|.ro _,_=>by simp[yR]
theorem xH.mono{φ ψ:Nat→List Nat→Prop}(h:∀r p,φ r p→ψ r p):(xs:List T)→xH φ xs→xH ψ xs
 | [],_=>trivial
 |x::xs,hx=>⟨yR.mono h x hx.1,xH.mono h xs hx.2⟩
end
mutual
theorem yR.triv{φ:Nat→List Nat→Prop}(h:∀r p,φ r p):(t:T)→yR φ t
 |.same _ _|.addr _ _|.sub _ _ _ _ _=>by simp only[yR];exact h _ _
 |.sl _ xs|.agg xs|.tup xs=>by simp only[yR];exact xH.triv h xs
 |.ptr t=>by simp only[yR];exact yR.triv h t
 |.any|.lit _|.ro _=>by simp only[yR]
theorem xH.triv{φ:Nat→List Nat→Prop}(h:∀r p,φ r p):(xs:List T)→xH φ xs
 | []=>by simp only[xH]
 |x::xs=>by simp only[xH];exact⟨yR.triv h x,xH.triv h xs⟩
end
abbrev zW(t:T):Prop:=yR (fun _ _=>False) t
abbrev yT(xs:List T):Prop:=xH (fun _ _=>False) xs
def Blk(w w':World):Prop:=∀(b:Nat) cs e,w.heap[b]? =dJ (.cells cs e (0,0))→ ∃cs',w'.heap[b]? =dJ (.cells cs' e (0,0))∧cs'.size=cs.size
structure MovesE (G:Gh) (w:World) (G':Gh) (w':World) (s:Nat) (p:List Nat) (s':Nat) (p':List Nat):Prop where
 hd:∀z,G'.hd s' (z++p')=G.hd s (z++p)
 ad:∀z,z≠[]→G'.ad s' (z++p')=G.ad s (z++p)
 lb:∀b o f z,z≠[]→(∃y,G.ow b=dJ (s,y))→G.lb b o=dJ (f,s,z++p)→G'.lb b o=dJ (f,s',z++p')∧yL w' b o=yL w b o
 ow:∀b z,z≠[]→G.ow b=dJ (s,z++p)→G'.ow b=dJ (s',z++p')
 blk:Blk w w'
structure zIZ (G:Gh) (w:World) (G':Gh) (w':World) (s:Nat) (p:List Nat) (s':Nat) (p':List Nat):Prop extends MovesE G w G' w' s p s' p' where
 sp:∀b o,(∃y,G.ow b=dJ (s,y))→G.lb b o=dJ (dL,s,p)→G'.lb b o=dJ (dL,s',p')∧yL w' b o=yL w b o
 ow0:∀b,G.ow b=dJ (s,p)→G'.ow b=dJ (s',p')
def zAO(G G':Gh)(r:Nat)(p:List Nat):Prop:=G'.hd r p=G.hd r p∧G'.ad r p=G.ad r p
section
variable {St:Stb}{G:Gh}{w:World}{G':Gh}{w':World}{s:Nat}{p:List Nat}{s':Nat}{p':List Nat}
mutual
theorem zEF(hm:MovesE G w G' w' s p s' p'):(t:T)→ ∀(z:List Nat)(b o:Nat),z≠[]→(∃y,G.ow b=dJ (s,y))→Loc G w s t (z++p) b o→Loc G' w' s' t (z++p') b o
 |.agg xs,z,b,o,hz,gY,h=>by
  simp only[Loc]at h ⊢
  exact⟨(hm.ad z hz).trans h.1,zJa hm xs z 0 b o gY h.2⟩
 |.any,z,b,o,hz,gY,h|.lit _,z,b,o,hz,gY,h|.ro _,z,b,o,hz,gY,h|.same _ _,z,b,o,hz,gY,h|.addr _ _,z,b,o,hz,gY,h|.sub _ _ _ _ _,z,b,o,hz,gY,h|.sl _ _,z,b,o,hz,gY,h|.ptr _,z,b,o,hz,gY,h=>by
  simp only[Loc]at h ⊢
  obtain⟨h1,h2,h3⟩:=h;have hl:=hm.lb b o dM z hz gY h2;exact⟨(hm.ad z hz).trans h1,hl.1,by rw[hl.2,h3,hm.hd]⟩
 |.tup _,_,_,_,_,_,h=>by simp only[Loc]at h
theorem zJa(hm:MovesE G w G' w' s p s' p'):(xs:List T)→ ∀(z:List Nat)(j b o:Nat),(∃y,G.ow b=dJ (s,y))→vB G w s xs (z++p) j b o→vB G' w' s' xs (z++p') j b o
 | [],_,_,_,_,_,_=>by simp only[vB]
 |x::xs,z,j,b,o,gY,h=>by
  simp only[vB]at h ⊢
  exact⟨zEF hm x (j::z) b o (by simp) gY h.1,zJa hm xs z (j+1) b _ gY h.2⟩
end
mutual
theorem zEG(hm:MovesE G w G' w' s p s' p'):(t:T)→ ∀(z:List Nat),z≠[]→yR (zAO G G') t→R St G w s t (z++p)→R St G' w' s' t (z++p')
 |.any,_,_,_,_=>by simp only[R]
 |.lit _,z,_,_,h=>by simp only[R]at h ⊢;rw[hm.hd];exact h
 |.ro _,z,_,_,h=>by simp only[R]at h ⊢;rw[hm.hd];exact h
 |.same r q,z,_,hk,h=>by simp only[R]at h ⊢;rw[hm.hd,hk.1];exact h
 |.addr r q,z,_,hk,h=>by simp only[R]at h ⊢;rw[hm.hd,hk.2];exact h
 |.sub r q k lo hi,z,_,hk,h=>by simp only[R]at h ⊢;rw[hm.hd,hk.1];exact h
 |.agg xs,z,_,hk,h=>by simp only[R,yR]at h hk ⊢;exact zEH hm xs z 0 hk h
 |.tup xs,z,_,hk,h=>by simp only[R,yR]at h hk ⊢;exact zEH hm xs z 0 hk h
 |.sl k xs,z,hz,hk,h=>by
  simp only[R,yR]at h hk ⊢
  rw[hm.hd];rcases h with h|⟨b,o0,cap,cs,e,h1,h2,h3,h4,h5,h6,h7,h8⟩
  ·exact .inl h
  ·obtain⟨cs',fM,gB⟩:=hm.blk b cs e h2
   exact .inr ⟨b,o0,cap,cs',e,h1,fM,h3,h4,by omega,hm.ow b z hz h6,fun o ho cD=>(hm.lb b o dL z hz ⟨_,h6⟩ (h7 o ho (by omega))).1,zKa hm xs z 0 b o0 k ⟨_,h6⟩ hk h8⟩
 |.ptr t,z,hz,hk,h=>by
  simp only[R,yR]at h hk ⊢
  rw[hm.hd];obtain⟨b,cs,e,h1,h2,h3,h6,h4,h5⟩:=h;obtain⟨cs',fM,gB⟩:=hm.blk b cs e h2;exact⟨b,cs',e,h1,fM,by omega,hm.ow b z hz h6,zEF hm t (0::z) b 0 (by simp) ⟨_,h6⟩ h4,zEG hm t (0::z) (by simp) hk h5⟩
theorem zKa(hm:MovesE G w G' w' s p s' p'):(xs:List T)→ ∀(z:List Nat)(i b o k:Nat),(∃y,G.ow b=dJ (s,y))→xH (zAO G G') xs→RL St G w s xs (z++p) i b o k→RL St G' w' s' xs (z++p') i b o k
 | [],_,_,_,_,_,_,_,_=>by simp only[RL]
 |x::xs,z,i,b,o,k,gY,hk,h=>by
  simp only[RL,xH]at h hk ⊢
  exact⟨⟨zEF hm x (i::z) b o (by simp) gY h.1.1,h.1.2⟩,zEG hm x (i::z) (by simp) hk.1 h.2.1,zKa hm xs z (i+1) b _ k gY hk.2 h.2.2⟩
theorem zEH(hm:MovesE G w G' w' s p s' p'):(xs:List T)→ ∀(z:List Nat)(j:Nat),xH (zAO G G') xs→RF St G w s xs (z++p) j→RF St G' w' s' xs (z++p') j
 | [],_,_,_,_=>by simp only[RF]
 |x::xs,z,j,hk,h=>by
  simp only[RF,xH]at h hk ⊢
  exact⟨zEG hm x (j::z) (by simp) hk.1 h.1,zEH hm xs z (j+1) hk.2 h.2⟩
end
theorem zAS(hm:zIZ G w G' w' s p s' p')(t:T)(hk:yR (zAO G G') t)(h:R St G w s t p):R St G' w' s' t p':=by
 have hd0:G'.hd s' p'=G.hd s p:=by simpa using hm.hd []
 cases t with
 |any=>simp only[R]
 |lit _=>simp only[R]at h ⊢;rw[hd0];exact h
 |ro _=>simp only[R]at h ⊢;rw[hd0];exact h
 |same r q=>simp only[R]at h ⊢;rw[hd0,hk.1];exact h
 |addr r q=>simp only[R]at h ⊢;rw[hd0,hk.2];exact h
 |sub r q k lo hi=>simp only[R]at h ⊢;rw[hd0,hk.1];exact h
 |agg xs=>simp only[R,yR]at h hk ⊢;simpa using zEH hm.toMovesE xs [] 0 hk (by simpa using h)
 |tup xs=>simp only[R,yR]at h hk ⊢;simpa using zEH hm.toMovesE xs [] 0 hk (by simpa using h)
 |sl k xs=>
  simp only[R,yR]at h hk ⊢
  rw[hd0];rcases h with h|⟨b,o0,cap,cs,e,h1,h2,h3,h4,h5,h6,h7,h8⟩
  ·exact .inl h
  ·obtain⟨cs',fM,gB⟩:=hm.blk b cs e h2
   exact .inr ⟨b,o0,cap,cs',e,h1,fM,h3,h4,by omega,hm.ow0 b h6,fun o ho cD=>(hm.sp b o ⟨_,h6⟩ (h7 o ho (by omega))).1,by simpa using zKa hm.toMovesE xs [] 0 b o0 k ⟨_,h6⟩ hk (by simpa using h8)⟩
 |ptr t=>
  simp only[R,yR]at h hk ⊢
  rw[hd0];obtain⟨b,cs,e,h1,h2,h3,h6,h4,h5⟩:=h;obtain⟨cs',fM,gB⟩:=hm.blk b cs e h2;exact⟨b,cs',e,h1,fM,by omega,hm.ow0 b h6,zEF hm.toMovesE t [0] b 0 (by simp) ⟨_,h6⟩ h4,zEG hm.toMovesE t [0] (by simp) hk h5⟩
theorem zRO(hm:zIZ G w G' w' s p s' p')(t:T)(z:List Nat)(hk:yR (zAO G G') t)(h:R St G w s t (z++p)):R St G' w' s' t (z++p'):=by
 cases z with
 |nil=>exact zAS hm t hk h
 |cons i z=>exact zEG hm.toMovesE t (i::z) (by simp) hk h
end
end Go.Ab

namespace Go.Ab
open Go
def T.get:T→List Nat→Option T
 |t,[]=>dJ t
 |.sl _ xs,i::f|.agg xs,i::f|.tup xs,i::f=>match xs[i]? with
  |some x=>x.get f
  |none=>dK
 |.ptr t,i::f=>if i=0 then t.get f else dK
 |.any,_::_|.lit _,_::_|.ro _,_::_|.same _ _,_::_|.addr _ _,_::_|.sub _ _ _ _ _,_::_=>dK
termination_by structural _ f=>f
def T.set:T→List Nat→T→T
 |_,[],u=>u
 |.sl k xs,i::f,u=>match xs[i]? with
  |some x=>.sl k (xs.set i (x.set f u))
  |none=>.sl k xs
 |.agg xs,i::f,u=>match xs[i]? with
  |some x=>.agg (xs.set i (x.set f u))
  |none=>.agg xs
 |.tup xs,i::f,u=>match xs[i]? with
  |some x=>.tup (xs.set i (x.set f u))
  |none=>.tup xs
 |.ptr t,i::f,u=>if i=0 then .ptr (t.set f u)else .ptr t
 |.any,_::_,_=>.any
 |.lit v,_::_,_=>.lit v
 |.ro t,_::_,_=>.ro t
 |.same r q,_::_,_=>.same r q
 |.addr r q,_::_,_=>.addr r q
 |.sub r q k lo hi,_::_,_=>.sub r q k lo hi
termination_by structural _ f _=>f
def T.locd:T→List Nat→Bool
 |_,[]=>dM
 |.sl _ _,_::_|.ptr _,_::_=>dL
 |.agg xs,i::f|.tup xs,i::f=>match xs[i]? with
  |some x=>x.locd f
  |none=>dM
 |.any,_::_|.lit _,_::_|.ro _,_::_|.same _ _,_::_|.addr _ _,_::_|.sub _ _ _ _ _,_::_=>dM
termination_by structural _ f=>f
abbrev rp(f p:List Nat):List Nat:=f.reverse++p
theorem zB0(i:Nat)(f p:List Nat):rp (i::f) p=rp f (i::p):=by simp[rp]
section
variable {St:Stb}{G:Gh}{w:World}{s:Nat}
theorem kV:(xs:List T)→ ∀(p:List Nat)(i0 b o k i:Nat)(x:T),RL St G w s xs p i0 b o k→xs[i]? =dJ x→
  Loc G w s x ((i0+i)::p) b (o+i*k)∧x.size=k∧R St G w s x ((i0+i)::p)
 | [],_,_,_,_,_,_,_,_,h=>by simp at h
 |y::ys,p,i0,b,o,k,i,x,hr,h=>by
  simp only[RL]at hr;cases i with
  |zero=>
   simp at h;subst h;simpa using⟨hr.1.1,hr.1.2,hr.2.1⟩
  |succ i=>
   have:=kV ys p (i0+1) b (o+k) k i x hr.2.2 (by simpa using h);rw[show i0+(i+1)=i0+1+i from by omega,show o+(i+1)*k=o+k+i*k from by rw[K7];omega];exact this
theorem zBD:(xs:List T)→ ∀(p:List Nat)(j i:Nat)(x:T),RF St G w s xs p j→xs[i]? =dJ x→R St G w s x ((j+i)::p)
 | [],_,_,_,_,_,h=>by simp at h
 |y::ys,p,j,i,x,hr,h=>by
  simp only[RF]at hr;cases i with
  |zero=>simp at h;subst h;simpa using hr.1
  |succ i=>
   have:=zBD ys p (j+1) i x hr.2 (by simpa using h)
   rwa [show j+(i+1)=j+1+i from by omega]
theorem zLp:(xs:List T)→ ∀(p:List Nat)(j b o i:Nat)(x:T),vB G w s xs p j b o→xs[i]? =dJ x→
  ∃o',Loc G w s x ((j+i)::p) b o'∧o≤o'∧o'+x.size≤o+T.sizes xs
 | [],_,_,_,_,_,_,_,h=>by simp at h
 |y::ys,p,j,b,o,i,x,hr,h=>by
  simp only[vB]at hr;cases i with
  |zero=>simp at h;subst h;exact⟨o,by simpa using hr.1,by omega,by simp[T.sizes]⟩
  |succ i=>
   obtain⟨o',h1,h2,h3⟩:=zLp ys p (j+1) b (o+y.size) i x hr.2 (by simpa using h);refine⟨o',?_,by omega,by simp only[T.sizes];omega⟩
   rwa [show j+(i+1)=j+1+i from by omega]
def At(G:Gh)(w:World)(s:Nat)(t:T)(p:List Nat):Prop:=
 ∃b o cs e,Loc G w s t p b o∧w.heap[b]? =dJ (.cells cs e (0,0))∧o+t.size≤cs.size
theorem At.field{xs:List T}{p:List Nat}(h:At G w s (.agg xs) p){i:Nat}{x:T}(hx:xs[i]? =dJ x):At G w s x (i::p):=by obtain⟨b,o,cs,e,hl,hh,hs⟩:=h;simp only[Loc]at hl;obtain⟨o',h1,h2,h3⟩:=zLp xs p 0 b o i x hl.2 hx;simp only[T.size]at hs;exact⟨b,o',cs,e,by simpa using h1,hh,by omega⟩
theorem zD5{k:Nat}{xs:List T}{p:List Nat}(h:R St G w s (.sl k xs) p){i:Nat}{x:T}(hx:xs[i]? =dJ x):
  At G w s x (i::p)∧R St G w s x (i::p):=by
 simp only[R]at h;have hi:=(Jo.1 hx).1;rcases h with⟨rfl,_⟩|⟨b,o0,cap,cs,e,h1,h2,h3,h4,h5,h6,h7,h8⟩
 ·simp at hx
 ·obtain⟨a1,a2,a3⟩:=kV xs p 0 b o0 k i x h8 hx
  simp only[Jd]at a1 a3;refine⟨⟨b,o0+i*k,cs,e,a1,h2,?_⟩,a3⟩;rw[a2,H3,←K7];exact Hl (Nat.add_le_add_left (Jw _ (by omega)) _) h5
theorem zBO{t:T}{p:List Nat}(h:R St G w s (.ptr t) p):At G w s t (0::p)∧R St G w s t (0::p):=by simp only[R]at h;obtain⟨b,cs,e,h1,h2,h3,h6,h4,h5⟩:=h;exact⟨⟨b,0,cs,e,h4,h2,by omega⟩,h5⟩
theorem zBg:(f:List Nat)→ ∀(t u:T)(p:List Nat),At G w s t p→R St G w s t p→t.get f=dJ u→At G w s u (rp f p)∧R St G w s u (rp f p)
 | [],t,u,p,ha,h,hg=>by simp[T.get]at hg;subst hg;simpa[rp]using⟨ha,h⟩
 |i::f,t,u,p,ha,h,hg=>by
  rw[zB0];cases t with
  |sl k xs=>
   simp only[T.get]at hg;cases hx:xs[i]? with
   |none=>simp[hx]at hg
   |some x=>rw[hx]at hg;exact zBg f x u _ (zD5 h hx).1 (zD5 h hx).2 hg
  |ptr t=>
   simp only[T.get]at hg;split at hg
   ·rename_i hi;subst hi;exact zBg f t u _ (zBO h).1 (zBO h).2 hg
   ·cases hg
  |agg xs=>
   simp only[T.get]at hg;cases hx:xs[i]? with
   |none=>simp[hx]at hg
   |some x=>rw[hx]at hg;exact zBg f x u _ (ha.field hx) (by simp only[R]at h;simpa using zBD xs p 0 i x h hx) hg
  |tup xs=>obtain⟨b,o,cs,e,hl,_⟩:=ha;simp only[Loc]at hl
  |_=>simp[T.get]at hg
theorem zB1:(f:List Nat)→ ∀(t u:T)(p:List Nat),R St G w s t p→t.get f=dJ u→R St G w s u (rp f p)∧(t.locd f=dL→At G w s u (rp f p))
 | [],t,u,p,h,hg=>by simp[T.get]at hg;subst hg;simpa[rp,T.locd]using h
 |i::f,t,u,p,h,hg=>by
  rw[zB0];cases t with
  |sl k xs=>
   simp only[T.get]at hg;cases hx:xs[i]? with
   |none=>simp[hx]at hg
   |some x=>rw[hx]at hg;exact⟨(zBg f x u _ (zD5 h hx).1 (zD5 h hx).2 hg).2,fun _=>(zBg f x u _ (zD5 h hx).1 (zD5 h hx).2 hg).1⟩
  |ptr t=>
   simp only[T.get]at hg;split at hg
   ·rename_i hi;subst hi;exact⟨(zBg f t u _ (zBO h).1 (zBO h).2 hg).2,fun _=>(zBg f t u _ (zBO h).1 (zBO h).2 hg).1⟩
   ·cases hg
  |agg xs=>
   simp only[T.get,T.locd]at hg ⊢
   cases hx:xs[i]? with
   |none=>simp[hx]at hg
   |some x=>rw[hx]at hg;exact zB1 f x u _ (by simp only[R]at h;simpa using zBD xs p 0 i x h hx) hg
  |tup xs=>
   simp only[T.get,T.locd]at hg ⊢
   cases hx:xs[i]? with
   |none=>simp[hx]at hg
   |some x=>rw[hx]at hg;exact zB1 f x u _ (by simp only[R]at h;simpa using zBD xs p 0 i x h hx) hg
  |_=>simp[T.get]at hg
end
structure Upd (G:Gh) (w:World) (G':Gh) (w':World) (s:Nat) (tgt:List Nat):Prop where
 hd:∀p,¬tgt<:+p→G'.hd s p=G.hd s p
 ad:∀p,¬tgt<:+p→G'.ad s p=G.ad s p
 lb:∀b o f p,G.lb b o=dJ (f,s,p)→ ¬tgt<:+p→G'.lb b o=dJ (f,s,p)∧yL w' b o=yL w b o
 ow:∀b p,G.ow b=dJ (s,p)→ ¬tgt<:+p→G'.ow b=dJ (s,p)
 blk:Blk w w'
section
variable {St:Stb}{G:Gh}{w:World}{G':Gh}{w':World}{s:Nat}{tgt:List Nat}
theorem Upd.moves(h:Upd G w G' w' s tgt){p:List Nat}(hp:∀z,¬tgt<:+z++p):zIZ G w G' w' s p s p where
 hd z:=h.hd _ (hp z)
 ad z _:=h.ad _ (hp z)
 lb b o f z _ _ hl:=h.lb b o f _ hl (hp z)
 ow b z _ hl:=h.ow b _ hl (hp z)
 sp b o _ hl:=h.lb b o dL p hl (hp [])
 ow0 b hl:=h.ow b p hl (hp [])
 blk:=h.blk
mutual
theorem zEI(hm:Upd G w G' w' s tgt):(t:T)→ ∀(p:List Nat)(b o:Nat),(∀z,¬tgt<:+z++p)→Loc G w s t p b o→Loc G' w' s t p b o
 |.agg xs,p,b,o,hz,h=>by
  simp only[Loc]at h ⊢
  exact⟨(hm.ad p (hz [])).trans h.1,zLq hm xs p 0 b o hz h.2⟩
 |.any,p,b,o,hz,h|.lit _,p,b,o,hz,h|.ro _,p,b,o,hz,h|.same _ _,p,b,o,hz,h|.addr _ _,p,b,o,hz,h|.sub _ _ _ _ _,p,b,o,hz,h|.sl _ _,p,b,o,hz,h|.ptr _,p,b,o,hz,h=>by
  simp only[Loc]at h ⊢
  obtain⟨h1,h2,h3⟩:=h;have hl:=hm.lb b o dM p h2 (hz []);exact⟨(hm.ad p (hz [])).trans h1,hl.1,by rw[hl.2,h3,hm.hd p (hz [])]⟩
 |.tup _,_,_,_,_,h=>by simp only[Loc]at h
theorem zLq(hm:Upd G w G' w' s tgt):(xs:List T)→ ∀(p:List Nat)(j b o:Nat),(∀z,¬tgt<:+z++p)→vB G w s xs p j b o→vB G' w' s xs p j b o
 | [],_,_,_,_,_,_=>by simp only[vB]
 |x::xs,p,j,b,o,hz,h=>by
  simp only[vB]at h ⊢
  exact⟨zEI hm x (j::p) b o (fun z=>by have:=hz (z++[j]);simpa using this) h.1,zLq hm xs p (j+1) b _ hz h.2⟩
end
theorem zLr(hm:Upd G w G' w' s tgt)(t u:T)(p:List Nat)(b o:Nat)(ht:∀xs,t≠.agg xs)(hu:∀xs,u≠.agg xs)(mM:∀xs,u≠.tup xs)(hz:¬tgt<:+p)(h:Loc G w s t p b o):Loc G' w' s u p b o:=by
 have h3:G.ad s p=⟨b,o,dK⟩∧G.lb b o=dJ (dM,s,p)∧yL w b o=dJ (G.hd s p):=by
  cases t with
  |agg xs=>exact absurd rfl (ht xs)
  |tup xs=>simp only[Loc]at h
  |_=>simpa only[Loc]using h
 obtain⟨h1,h2,h3⟩:=h3;have hl:=hm.lb b o dM p h2 hz;have h4:G'.ad s p=⟨b,o,dK⟩∧G'.lb b o=dJ (dM,s,p)∧yL w' b o=dJ (G'.hd s p):=⟨(hm.ad p hz).trans h1,hl.1,by rw[hl.2,h3,hm.hd p hz]⟩;cases u with
 |agg xs=>exact absurd rfl (hu xs)
 |tup xs=>exact absurd rfl (mM xs)
 |_=>simpa only[Loc]using h4
theorem kW{f p:List Nat}{i i':Nat}(hi:i'≠i)(z:List Nat):¬f.reverse++(i::p)<:+z++(i'::p):=by
 rintro⟨y,hy⟩
 rw[←Jg]at hy;have:=List.append_inj_right' hy rfl;simp at this;exact hi this.symm
theorem zAu{f p:List Nat}{i:Nat}:¬f.reverse++(i::p)<:+p:=by intro h;have:=h.length_le;simp at this;omega
theorem zJb:(xs:List T)→ ∀(i:Nat)(x y:T),xs[i]? =dJ x→y.size=x.size→T.sizes (xs.set i y)=T.sizes xs
 | [],_,_,_,h,_=>by simp at h
 |z::zs,i,x,y,h,hs=>by
  cases i with
  |zero=>simp at h;subst h;simp[T.sizes,hs]
  |succ i=>simp only[Kz,T.sizes,zJb zs i x y (by simpa using h) hs]
theorem zEJ:(f:List Nat)→ ∀(t u u0:T),t.get f=dJ u0→u.size=u0.size→(t.set f u).size=t.size
 | [],t,u,u0,h,hs=>by simp[T.get]at h;subst h;simpa[T.set]using hs
 |i::f,t,u,u0,h,hs=>by
  cases t with
  |sl k xs=>simp only[T.get]at h;cases hx:xs[i]? <;>simp[hx,T.set,T.size]at h ⊢
  |tup xs=>simp only[T.get]at h;cases hx:xs[i]? <;>simp[hx,T.set,T.size]at h ⊢
  |agg xs=>
   simp only[T.get]at h;cases hx:xs[i]? with
   |none=>simp[hx]at h
   |some x=>
    rw[hx]at h;simp only[T.set,hx,T.size];exact zJb xs i x _ hx (zEJ f x u u0 h hs)
  |ptr t=>simp only[T.get]at h;split at h<;>simp_all [T.set,T.size]
  |_=>simp[T.get]at h
theorem zLs(hm:Upd G w G' w' s tgt):(xs:List T)→ ∀(p:List Nat)(j b o i:Nat)(x y:T),vB G w s xs p j b o→xs[i]? =dJ x→y.size=x.size→
  (∀i',i'≠j+i→ ∀z,¬tgt<:+z++(i'::p))→(∀o',Loc G w s x ((j+i)::p) b o'→Loc G' w' s y ((j+i)::p) b o')→vB G' w' s (xs.set i y) p j b o
 | [],_,_,_,_,_,_,_,_,h,_,_,_=>by simp at h
 |z::zs,p,j,b,o,i,x,y,hl,h,hs,hz,hy=>by
  simp only[vB]at hl;cases i with
  |zero=>
   simp at h;subst h;simp only[Lx,vB,hs];exact⟨by simpa using hy o (by simpa using hl.1),LocF_upd' hm zs p (j+1) b _ (fun i' hH=>hz i' (by omega)) hl.2⟩
  |succ i=>
   simp only[Kz,vB];refine⟨zEI hm z _ b o (hz j (by omega)) hl.1,zLs hm zs p (j+1) b _ i x y hl.2 (by simpa using h) hs (fun i' hH=>hz i' (by omega)) ?_⟩;rw[show j+1+i=j+(i+1)from by omega];exact hy
where LocF_upd' (hm:Upd G w G' w' s tgt):(xs:List T)→ ∀(p:List Nat)(j b o:Nat),(∀i',j≤i'→ ∀z,¬tgt<:+z++(i'::p))→vB G w s xs p j b o→vB G' w' s xs p j b o
 | [],_,_,_,_,_,_=>by simp only[vB]
 |x::xs,p,j,b,o,hz,h=>by
  simp only[vB]at h ⊢
  exact⟨zEI hm x (j::p) b o (hz j (Jk _)) h.1,LocF_upd' hm xs p (j+1) b _ (fun i' hH=>hz i' (by omega)) h.2⟩
theorem zKb:(f:List Nat)→ ∀(t u u0:T)(p:List Nat)(b o:Nat),Upd G w G' w' s (rp f p)→Loc G w s t p b o→t.get f=dJ u0→u.size=u0.size→
  (∀o',Loc G w s u0 (rp f p) b o'→Loc G' w' s u (rp f p) b o')→Loc G' w' s (t.set f u) p b o
 | [],t,u,u0,p,b,o,hm,hl,hg,hs,hu=>by simp[T.get]at hg;subst hg;simpa[T.set,rp]using hu o (by simpa[rp]using hl)
 |i::f,t,u,u0,p,b,o,hm,hl,hg,hs,hu=>by
  have gC:=hm;rw[zB0]at gC;cases t with
  |sl k xs=>
   have:∃ys,(T.sl k xs).set (i::f) u=.sl k ys:=by simp only[T.set];split<;>exact⟨_,rfl⟩
   obtain⟨ys,hy⟩:=this;rw[hy];exact zLr gC (.sl k xs) (.sl k ys) p b o (by simp) (by simp) (by simp) zAu hl
  |ptr t=>
   have:∃ys,(T.ptr t).set (i::f) u=.ptr ys:=by simp only[T.set];split<;>exact⟨_,rfl⟩
   obtain⟨ys,hy⟩:=this;rw[hy];exact zLr gC (.ptr t) (.ptr ys) p b o (by simp) (by simp) (by simp) zAu hl
  |agg xs=>
   simp only[T.get]at hg;cases hx:xs[i]? with
   |none=>simp[hx]at hg
   |some x=>
    rw[hx]at hg;simp only[T.set,hx];simp only[Loc]at hl ⊢
    refine⟨(gC.ad p zAu).trans hl.1,zLs gC xs p 0 b o i x _ hl.2 hx (zEJ f x u u0 hg hs) (fun i' hH z=>kW (by omega) z) ?_⟩;intro o' ho';simp only[Jd]at ho' ⊢
    exact zKb f x u u0 (i::p) b o' gC ho' hg hs (by simpa only[zB0]using hu)
  |tup xs=>simp only[Loc]at hl
  |_=>simp[T.get]at hg
end
end Go.Ab

namespace Go.Ab
open Go
section
variable {St:Stb}{G:Gh}{w:World}{G':Gh}{w':World}{s:Nat}{tgt:List Nat}
theorem zOI(hm:Upd G w G' w' s tgt)(t:T)(p:List Nat)(hz:∀z,¬tgt<:+z++p)(hk:yR (zAO G G') t)(h:R St G w s t p):R St G' w' s t p:=by simpa using zRO (hm.moves hz) t [] hk (by simpa using h)
theorem zRP(hm:Upd G w G' w' s tgt):(xs:List T)→ ∀(p:List Nat)(i b o k:Nat),(∀i',i≤i'→ ∀z,¬tgt<:+z++(i'::p))→xH (zAO G G') xs→RL St G w s xs p i b o k→RL St G' w' s xs p i b o k
 | [],_,_,_,_,_,_,_,_=>by simp only[RL]
 |x::xs,p,i,b,o,k,hz,hk,h=>by
  simp only[RL,xH]at h hk ⊢
  exact⟨⟨zEI hm x (i::p) b o (hz i (Jk _)) h.1.1,h.1.2⟩,zOI hm x (i::p) (hz i (Jk _)) hk.1 h.2.1,
   zRP hm xs p (i+1) b _ k (fun i' hH=>hz i' (by omega)) hk.2 h.2.2⟩
theorem zRQ(hm:Upd G w G' w' s tgt):(xs:List T)→ ∀(p:List Nat)(i0 b o k i:Nat)(x y:T),RL St G w s xs p i0 b o k→xs[i]? =dJ x→y.size=x.size→xH (zAO G G') xs→
  (∀i',i'≠i0+i→ ∀z,¬tgt<:+z++(i'::p))→(∀o',Loc G w s x ((i0+i)::p) b o'→Loc G' w' s y ((i0+i)::p) b o')→R St G' w' s y ((i0+i)::p)→
  RL St G' w' s (xs.set i y) p i0 b o k
 | [],_,_,_,_,_,_,_,_,_,h,_,_,_,_,_=>by simp at h
 |z::zs,p,i0,b,o,k,i,x,y,hr,h,hs,hk,hz,hl,hy=>by
  simp only[RL,xH]at hr hk;cases i with
  |zero=>
   simp at h;subst h;simp only[Lx,RL];exact⟨⟨by simpa using hl o (by simpa using hr.1.1),by omega⟩,by simpa using hy,zRP hm zs p (i0+1) b _ k (fun i' hH=>hz i' (by omega)) hk.2 hr.2.2⟩
  |succ i=>
   simp only[Kz,RL];rw[show i0+(i+1)=i0+1+i from by omega]at hl hy hz;exact⟨⟨zEI hm z _ b o (hz i0 (by omega)) hr.1.1,hr.1.2⟩,zOI hm z _ (hz i0 (by omega)) hk.1 hr.2.1,zRQ hm zs p (i0+1) b _ k i x y hr.2.2 (by simpa using h) hs hk.2 hz hl hy⟩
theorem zRR(hm:Upd G w G' w' s tgt):(xs:List T)→ ∀(p:List Nat)(i:Nat),(∀i',i≤i'→ ∀z,¬tgt<:+z++(i'::p))→xH (zAO G G') xs→RF St G w s xs p i→RF St G' w' s xs p i
 | [],_,_,_,_,_=>by simp only[RF]
 |x::xs,p,i,hz,hk,h=>by
  simp only[RF,xH]at h hk ⊢
  exact⟨zOI hm x (i::p) (hz i (Jk _)) hk.1 h.1,zRR hm xs p (i+1) (fun i' hH=>hz i' (by omega)) hk.2 h.2⟩
theorem zN0(hm:Upd G w G' w' s tgt):(xs:List T)→ ∀(p:List Nat)(i0 i:Nat)(x y:T),RF St G w s xs p i0→xs[i]? =dJ x→xH (zAO G G') xs→
  (∀i',i'≠i0+i→ ∀z,¬tgt<:+z++(i'::p))→R St G' w' s y ((i0+i)::p)→
  RF St G' w' s (xs.set i y) p i0
 | [],_,_,_,_,_,_,h,_,_,_=>by simp at h
 |z::zs,p,i0,i,x,y,hr,h,hk,hz,hy=>by
  simp only[RF,xH]at hr hk;cases i with
  |zero=>
   simp at h;subst h;simp only[Lx,RF];exact⟨by simpa using hy,zRR hm zs p (i0+1) (fun i' hH=>hz i' (by omega)) hk.2 hr.2⟩
  |succ i=>
   simp only[Kz,RF];rw[show i0+(i+1)=i0+1+i from by omega]at hy hz;exact⟨zOI hm z _ (hz i0 (by omega)) hk.1 hr.1,zN0 hm zs p (i0+1) i x y hr.2 (by simpa using h) hk.2 hz hy⟩
theorem uJ{φ:Nat→List Nat→Prop}:(xs:List T)→xH φ xs→ ∀(i:Nat)(x:T),xs[i]? =dJ x→yR φ x
 | [],_,_,_,h=>by simp at h
 |y::ys,hk,i,x,h=>by
  simp only[xH]at hk;cases i with
  |zero=>simp at h;subst h;exact hk.1
  |succ i=>exact uJ ys hk.2 i x (by simpa using h)
theorem zGo:(f:List Nat)→ ∀(t u u0:T)(p:List Nat),Upd G w G' w' s (rp f p)→R St G w s t p→t.get f=dJ u0→u.size=u0.size→yR (zAO G G') t→
  (∀b o,Loc G w s u0 (rp f p) b o→Loc G' w' s u (rp f p) b o)→R St G' w' s u (rp f p)→R St G' w' s (t.set f u) p
 | [],t,u,u0,p,hm,hr,hg,hs,hk,hl,hu=>by simpa[T.set,rp]using hu
 |i::f,t,u,u0,p,hm,hr,hg,hs,hk,hl,hu=>by
  have gC:=hm;rw[zB0]at gC hl hu;cases t with
  |sl k xs=>
   simp only[T.get]at hg;cases hx:xs[i]? with
   |none=>simp[hx]at hg
   |some x=>
    rw[hx]at hg;simp only[T.set,hx];simp only[R,yR]at hr hk ⊢
    rcases hr with⟨rfl,_⟩|⟨b,o0,cap,cs,e,h1,h2,h3,h4,h5,h6,h7,h8⟩
    ·simp at hx
    ·obtain⟨cs',fM,gB⟩:=gC.blk b cs e h2
     refine .inr ⟨b,o0,cap,cs',e,by rw[gC.hd p zAu,L8];exact h1,fM,by rw[L8];exact h3,h4,by omega,gC.ow b p h6 zAu,?_,?_⟩
     ·intro o ho cD
      rw[L8]at ho;exact(gC.lb b o dL p (h7 o ho (by omega)) zAu).1
     ·have bc:=kV xs p 0 b o0 k i x h8 hx
      simp only[Jd]at bc;refine zRQ gC xs p 0 b o0 k i x _ h8 hx (zEJ f x u u0 hg hs) hk (fun i' hH z=>kW (by omega) z) ?_ ?_
      ·intro o' ho'
       simp only[Jd]at ho' ⊢
       exact zKb f x u u0 (i::p) b o' gC ho' hg hs (fun o''=>hl b o'')
      ·simp only[Jd]
       exact zGo f x u u0 (i::p) gC bc.2.2 hg hs (uJ xs hk i x hx) hl hu
  |ptr t=>
   simp only[T.get]at hg;split at hg
   ·rename_i hi;subst hi
    simp only[T.set,if_true];simp only[R,yR]at hr hk ⊢
    obtain⟨b,cs,e,h1,h2,h3,h6,h4,h5⟩:=hr;obtain⟨cs',fM,gB⟩:=gC.blk b cs e h2;refine⟨b,cs',e,by rw[gC.hd p zAu];exact h1,fM,by rw[zEJ f t u u0 hg hs];omega,gC.ow b p h6 zAu,zKb f t u u0 (0::p) b 0 gC h4 hg hs (fun o''=>hl b o''),zGo f t u u0 (0::p) gC h5 hg hs hk hl hu⟩
   ·cases hg
  |agg xs=>
   simp only[T.get]at hg;cases hx:xs[i]? with
   |none=>simp[hx]at hg
   |some x=>
    rw[hx]at hg;simp only[T.set,hx];simp only[R,yR]at hr hk ⊢
    refine zN0 gC xs p 0 i x _ hr hx hk (fun i' hH z=>kW (by omega) z) ?_;simp only[Jd];exact zGo f x u u0 (i::p) gC (by simpa using zBD xs p 0 i x hr hx) hg hs (uJ xs hk i x hx) hl hu
  |tup xs=>
   simp only[T.get]at hg;cases hx:xs[i]? with
   |none=>simp[hx]at hg
   |some x=>
    rw[hx]at hg;simp only[T.set,hx];simp only[R,yR]at hr hk ⊢
    refine zN0 gC xs p 0 i x _ hr hx hk (fun i' hH z=>kW (by omega) z) ?_;simp only[Jd];exact zGo f x u u0 (i::p) gC (by simpa using zBD xs p 0 i x hr hx) hg hs (uJ xs hk i x hx) hl hu
  |_=>simp[T.get]at hg
end
end Go.Ab

namespace Go.Ab
open Go
mutual
def vals(G:Gh)(s:Nat):T→List Nat→List Value
 |.agg xs,p=>yD G s xs p 0
 |.any,p|.lit _,p|.ro _,p|.same _ _,p|.addr _ _,p|.sub _ _ _ _ _,p|.sl _ _,p|.ptr _,p|.tup _,p=>[G.hd s p]
def yD(G:Gh)(s:Nat):List T→List Nat→Nat→List Value
 | [],_,_=>[]
 |x::xs,p,j=>vals G s x (j::p)++yD G s xs p (j+1)
end
def sO(G:Gh)(s:Nat)(t:T)(p:List Nat):Value:=
 match t with
 |.agg xs=>.agg (yD G s xs p 0).toArray
 |_=>G.hd s p
def zA1(G:Gh)(s:Nat):List T→List Nat→Nat→List Value
 | [],_,_=>[]
 |x::xs,p,j=>sO G s x (j::p)::zA1 G s xs p (j+1)
def mkV(G:Gh)(s:Nat)(t:T)(p:List Nat):Value:=
 match t with
 |.agg xs=>.agg (yD G s xs p 0).toArray
 |.tup xs=>.tuple (zA1 G s xs p 0).toArray
 |_=>G.hd s p
mutual
def Top:T→Prop
 |.sl _ xs=>yT xs
 |.ptr t=>zW t
 |.agg xs|.tup xs=>uF xs
 |.any|.lit _|.ro _|.same _ _|.addr _ _|.sub _ _ _ _ _=>True
def uF:List T→Prop
 | []=>True
 |x::xs=>Top x∧uF xs
end
mutual
theorem Top.of_clean:(t:T)→zW t→Top t
 |.sl _ xs,h=>by simpa only[Top,zW,yR]using h
 |.ptr t,h=>by simpa only[Top,zW,yR]using h
 |.agg xs,h|.tup xs,h=>by simp only[Top];exact uF.of_clean xs (by simpa only[zW,yR]using h)
 |.any,_|.lit _,_|.ro _,_|.same _ _,_|.addr _ _,_|.sub _ _ _ _ _,_=>by simp only[Top]
theorem uF.of_clean:(xs:List T)→yT xs→uF xs
 | [],_=>by simp only[uF]
 |x::xs,h=>by simp only[uF];exact⟨Top.of_clean x h.1,uF.of_clean xs h.2⟩
end
abbrev Chg:=List (Nat×Nat)
def Off(chg:Chg)(s:Nat)(p:List Nat):Prop:=∀n,(s,n)∈chg→p.length<n
def zEa(chg:Chg)(r:Nat)(p:List Nat):Bool:=chg.all fun c=>c.1 != r||decide (p.length<c.2)
theorem zQz{chg:Chg}{r:Nat}{p:List Nat}(h:zEa chg r p=dL):Off chg r p:=by
 intro n hn;have:=K8.1 h _ hn
 grind
mutual
def T.okB(chg:Chg):T→Bool
 |.same r p|.addr r p|.sub r p _ _ _=>zEa chg r p
 |.agg xs|.tup xs=>zLt chg xs
 |.any|.lit _|.ro _|.sl _ _|.ptr _=>dL
def zLt(chg:Chg):List T→Bool
 | []=>dL
 |x::xs=>x.okB chg&&zLt chg xs
end
mutual
theorem zAT{chg:Chg}:(t:T)→Top t→t.okB chg=dL→yR (Off chg) t
 |.same r p,_,h|.addr r p,_,h|.sub r p _ _ _,_,h=>by simp only[T.okB]at h;simp only[yR];exact zQz h
 |.agg xs,ht,h|.tup xs,ht,h=>by simp only[T.okB,Top]at h ht;simp only[yR];exact zHd xs ht h
 |.sl _ xs,ht,_=>by simp only[Top]at ht;simp only[yR];grind[xH.mono]
 |.ptr t,ht,_=>by simp only[Top]at ht;simp only[yR];grind[yR.mono]
 |.any,_,_|.lit _,_,_|.ro _,_,_=>by simp only[yR]
theorem zHd{chg:Chg}:(xs:List T)→uF xs→zLt chg xs=dL→xH (Off chg) xs
 | [],_,_=>by simp only[xH]
 |x::xs,ht,h=>by simp only[zLt,uF,J2]at h ht;simp only[xH];exact⟨zAT x ht.1 h.1,zHd xs ht.2 h.2⟩
end
abbrev Env:=Nat→Option T
abbrev Wr:=List (Nat×Option T)
def Wr.find(wr:Wr)(s:Nat):Option (Option T):=
 match wr with
 | []=>dK
 |(k,x)::r=>if k=s then dJ x else Wr.find r s
def Env.app(E:Env)(wr:Wr)(chg:Chg):Env:=fun s=>
 match wr.find s with
 |some x=>x
 |none=>match E s with
  |some t=>if t.okB chg then dJ t else dK
  |none=>dK
structure Ctx where
 St:Stb
 W:Nat→Prop
 w0:World
 N:Nat
def zCN(Γ:Ctx)(w:World)(b:Nat):Prop:=b<w.heap.size∧(Γ.w0.heap.size≤b∨Γ.W b)∧Γ.St b=dK
structure zVU (w w':World):Prop where
 blk:Blk w w'
 os:w'.os=w.os
 out:w'.output=w.output
structure Mem (Γ:Ctx) (G:Gh) (w:World):Prop where
 one:∀s p,(G.hd s p).oneCell'=dL
 lb:∀b o l,G.lb b o=dJ l→zCN Γ w b
 ow:∀b l,G.ow b=dJ l→zCN Γ w b
 st:∀b x,Γ.St b=dJ x→w.heap[b]? =dJ x
 fr:∀b,b<Γ.w0.heap.size→ ¬Γ.W b→w.heap[b]? =Γ.w0.heap[b]?
 sz:Γ.w0.heap.size≤w.heap.size
 bk:zVU Γ.w0 w
theorem Blk.trans{w w' w'':World}(h:Blk w w')(h':Blk w' w''):Blk w w'':=fun b cs e hb=>by
 obtain⟨cs',h1,h2⟩:=h b cs e hb;obtain⟨cs'',h3,h4⟩:=h' b cs' e h1
 grind
theorem zVU.trans{w w' w'':World}(h:zVU w w')(h':Blk w' w'')(ho:w''.os=w'.os)(hq:w''.output=w'.output):zVU w w'':=⟨h.blk.trans h',ho.trans h.os,hq.trans h.out⟩
def Ent(Γ:Ctx)(G:Gh)(w:World)(v:Option Value)(s:Nat)(t:T):Prop:=v=dJ (mkV G s t [])∧R Γ.St G w s t []∧Top t
structure Rep (Γ:Ctx) (E:Env) (G:Gh) (tmps:Array Value) (w:World):Prop where
 size:tmps.size=Γ.N
 ent:∀s t,E s=dJ t→Ent Γ G w tmps[s]? s t
 mem:Mem Γ G w
def Sim(Γ:Ctx)(E:Env)(a:Act)(w:World):Prop:=a.defers=[]∧ ∃G,Rep Γ E G a.tmps w
structure zDR (S S':Stb) (W:Nat→Prop) (n:Nat):Prop where
 le:∀b x,S b=dJ x→S' b=dJ x
 nw:∀b,S b=dK→S' b≠dK→n≤b∨W b
theorem zDR.refl{S:Stb}{W:Nat→Prop}{n:Nat}:zDR S S W n:=⟨fun _ _ h=>h,by grind⟩
theorem zDR.trans{S S' S'':Stb}{W:Nat→Prop}{n:Nat}(h:zDR S S' W n)(h':zDR S' S'' W n):zDR S S'' W n:=
 ⟨fun b x hb=>h'.le b x (h.le b x hb),fun b hb eE=>by
  cases hs:S' b with
  |none=>exact h'.nw b hs eE
  |some x=>exact h.nw b hb (by grind)⟩
abbrev Ctx.at(Γ:Ctx)(S:Stb):Ctx:={ Γ with St:=S }
def kX(Γ:Ctx)(E:Env)(a:Act)(w:World):Prop:=∃S,zDR Γ.St S Γ.W Γ.w0.heap.size∧Sim (Γ.at S) E a w
theorem kX.of{Γ:Ctx}{E:Env}{a:Act}{w:World}(h:Sim Γ E a w):kX Γ E a w:=⟨Γ.St,.refl,h⟩
theorem kX.up{Γ:Ctx}{E:Env}{a:Act}{w:World}{S:Stb}(hS:zDR Γ.St S Γ.W Γ.w0.heap.size)(h:kX (Γ.at S) E a w):kX Γ E a w:=by obtain⟨S',h1,h2⟩:=h;exact⟨S',hS.trans h1,h2⟩
structure kR (chg:Chg) (G:Gh) (w:World) (G':Gh) (w':World):Prop where
 hd:∀s p,Off chg s p→G'.hd s p=G.hd s p
 ad:∀s p,Off chg s p→G'.ad s p=G.ad s p
 lb:∀b o f s p,(∃y,G.ow b=dJ (s,y))→G.lb b o=dJ (f,s,p)→(∀n,(s,n)∉chg)→G'.lb b o=dJ (f,s,p)∧yL w' b o=yL w b o
 ow:∀b s p,G.ow b=dJ (s,p)→(∀n,(s,n)∉chg)→G'.ow b=dJ (s,p)
 blk:Blk w w'
theorem Off.of_not{chg:Chg}{s:Nat}(h:∀n,(s,n)∉chg)(p:List Nat):Off chg s p:=fun n hn=>absurd hn (h n)
section
variable {Γ:Ctx}{G G':Gh}{w w':World}{s:Nat}{chg:Chg}
mutual
theorem zB2{s':Nat}:(t:T)→ ∀(p p':List Nat),(∀z,G'.hd s' (z++p')=G.hd s (z++p))→vals G' s' t p'=vals G s t p
 |.agg xs,p,p',h=>by simp only[vals];exact zEK xs p p' 0 h
 |.any,p,p',h|.lit _,p,p',h|.ro _,p,p',h|.same _ _,p,p',h|.addr _ _,p,p',h|.sub _ _ _ _ _,p,p',h|.sl _ _,p,p',h|.ptr _,p,p',h|.tup _,p,p',h=>by simp only[vals];rw[show G'.hd s' p'=G.hd s p from by simpa using h []]
theorem zEK{s':Nat}:(xs:List T)→ ∀(p p':List Nat)(j:Nat),(∀z,G'.hd s' (z++p')=G.hd s (z++p))→yD G' s' xs p' j=yD G s xs p j
 | [],_,_,_,_=>by rfl
 |x::xs,p,p',j,h=>by simp only[yD];rw[zB2 x (j::p) (j::p') (fun z=>by have:=h (z++[j]);grind),zEK xs p p' (j+1) h]
end
theorem zCl{s':Nat}(t:T)(p p':List Nat)(h:∀z,G'.hd s' (z++p')=G.hd s (z++p)):sO G' s' t p'=sO G s t p:=by
 unfold sO;split
 ·grind[zEK]
 ·simpa using h []
theorem zOJ{s':Nat}:(xs:List T)→ ∀(p p':List Nat)(j:Nat),(∀z,G'.hd s' (z++p')=G.hd s (z++p))→zA1 G' s' xs p' j=zA1 G s xs p j
 | [],_,_,_,_=>by rfl
 |x::xs,p,p',j,h=>by simp only[zA1];rw[zCl x (j::p) (j::p') (fun z=>by have:=h (z++[j]);simpa using this),zOJ xs p p' (j+1) h]
theorem zF7{s':Nat}(t:T)(p p':List Nat)(h:∀z,G'.hd s' (z++p')=G.hd s (z++p)):mkV G' s' t p'=mkV G s t p:=by
 unfold mkV;split
 ·grind[zEK]
 ·grind[zOJ]
 ·simpa using h []
theorem kR.moves(hk:kR chg G w G' w')(hs:∀n,(s,n)∉chg)(p:List Nat):zIZ G w G' w' s p s p where
 hd _:=hk.hd _ _ (.of_not hs _)
 ad _ _:=hk.ad _ _ (.of_not hs _)
 lb b o f _ _ gY hl:=hk.lb b o f s _ gY hl hs
 ow b _ _ hl:=hk.ow b s _ hl hs
 sp b o gY hl:=hk.lb b o dL s _ gY hl hs
 ow0 b hl:=hk.ow b s _ hl hs
 blk:=hk.blk
theorem kR.keepR(hk:kR chg G w G' w'){t:T}(h:yR (Off chg) t):yR (zAO G G') t:=
 yR.mono (fun r p hr=>⟨hk.hd r p hr,hk.ad r p hr⟩) t h
theorem Ent.keep(hk:kR chg G w G' w')(hs:∀n,(s,n)∉chg){v:Option Value}{t:T}(ht:t.okB chg=dL)(h:Ent Γ G w v s t):Ent Γ G' w' v s t:=by
 obtain⟨h1,h2,h3⟩:=h;refine⟨?_,?_,h3⟩
 ·rw[h1,zF7 t [] [] (fun z=>hk.hd _ _ (.of_not hs _))]
 ·simpa using zRO (hk.moves hs []) t [] (hk.keepR (zAT t h3 ht)) (by grind)
end
theorem vV{Γ:Ctx}{E:Env}{G G':Gh}{tmps tmps':Array Value}{w w':World}{wr:Wr}{chg:Chg}(h:Rep Γ E G tmps w)
  (gN:tmps'.size=tmps.size)(hk:kR chg G w G' w')(gn:Mem Γ G' w')
  (gE:∀s,wr.find s=dK→(∀n,(s,n)∉chg)∧tmps'[s]? =tmps[s]?)
  (er:∀s t,wr.find s=dJ (dJ t)→Ent Γ G' w' tmps'[s]? s t):Rep Γ (E.app wr chg) G' tmps' w' where
 size:=by rw[gN,h.size]
 mem:=gn
 ent s t hs:=by
  unfold Env.app at hs;cases hf:wr.find s with
  |some x=>
   grind
  |none=>
   rw[hf]at hs;simp at hs;cases he:E s with
   |none=>grind
   |some u=>
    simp[he]at hs;obtain⟨gz,rfl⟩:=hs;rw[(gE s hf).2];exact Ent.keep hk (gE s hf).1 gz (h.ent s u he)
end Go.Ab

namespace Go.Ab
open Go
mutual
def cpT(s:Nat):T→List Nat→T
 |.lit v,_=>.lit v
 |.ro t,_=>.ro t
 |.same r q,_=>.same r q
 |.addr r q,_=>.addr r q
 |.sub r q k lo hi,_=>.sub r q k lo hi
 |.agg xs,p=>.agg (cpF s xs p 0)
 |.any,p|.sl _ _,p|.ptr _,p|.tup _,p=>.same s p
def cpF(s:Nat):List T→List Nat→Nat→List T
 | [],_,_=>[]
 |x::xs,p,j=>cpT s x (j::p)::cpF s xs p (j+1)
end
mutual
theorem qW(s:Nat):(t:T)→ ∀p,Top (cpT s t p)
 |.agg xs,p=>by simp only[cpT,Top];exact zOK s xs p 0
 |.lit _,_|.ro _,_|.same _ _,_|.addr _ _,_|.sub _ _ _ _ _,_|.any,_|.sl _ _,_|.ptr _,_|.tup _,_=>by simp only[cpT,Top]
theorem zOK(s:Nat):(xs:List T)→ ∀p j,uF (cpF s xs p j)
 | [],_,_=>by simp only[cpF,uF]
 |x::xs,p,j=>by simp only[cpF,uF];exact⟨qW s x _,zOK s xs p _⟩
end
section
variable {St:Stb}{G G':Gh}{w w':World}{s d:Nat}
mutual
theorem zEo(hs:∀p,G'.hd s p=G.hd s p):(t:T)→ ∀(p p':List Nat),(∀z,G'.hd d (z++p')=G.hd s (z++p))→(∀xs,t≠.tup xs)→yR (zAO G G') (cpT s t p)→R St G w s t p→R St G' w' d (cpT s t p) p'
 |.lit _,p,p',hd,_,_,h=>by simp only[cpT,R]at h ⊢;rw[show G'.hd d p'=_ from by simpa using hd []];exact h
 |.ro _,p,p',hd,_,_,h=>by simp only[cpT,R]at h ⊢;rw[show G'.hd d p'=_ from by simpa using hd []];exact h
 |.same r q,p,p',hd,_,hk,h=>by simp only[cpT,R,yR]at h hk ⊢;rw[show G'.hd d p'=_ from by simpa using hd [],hk.1];exact h
 |.addr r q,p,p',hd,_,hk,h=>by simp only[cpT,R,yR]at h hk ⊢;rw[show G'.hd d p'=_ from by simpa using hd [],hk.2];exact h
 |.sub r q k lo hi,p,p',hd,_,hk,h=>by simp only[cpT,R,yR]at h hk ⊢;rw[show G'.hd d p'=_ from by simpa using hd [],hk.1];exact h
 |.any,p,p',hd,_,_,_|.sl _ _,p,p',hd,_,_,_|.ptr _,p,p',hd,_,_,_=>by simp only[cpT,R];rw[show G'.hd d p'=_ from by simpa using hd [],hs]
 |.tup xs,_,_,_,h,_,_=>absurd rfl (h xs)
 |.agg xs,p,p',hd,_,hk,h=>by simp only[cpT,R,yR]at h hk ⊢;exact zKc hs xs p p' 0 hd hk h
theorem zKc(hs:∀p,G'.hd s p=G.hd s p):(xs:List T)→ ∀(p p':List Nat)(j:Nat),(∀z,G'.hd d (z++p')=G.hd s (z++p))→xH (zAO G G') (cpF s xs p j)→RF St G w s xs p j→RF St G' w' d (cpF s xs p j) p' j
 | [],_,_,_,_,_,_=>by simp only[cpF,RF]
 |x::xs,p,p',j,hd,hk,h=>by
  simp only[cpF,RF,xH]at h hk ⊢
  refine⟨?_,zKc hs xs p p' (j+1) hd hk.2 h.2⟩
  by_cases hx:∃ys,x=.tup ys
  ·obtain⟨ys,rfl⟩:=hx
   simp only[cpT,R];rw[show G'.hd d (j::p')=_ from by simpa using hd [j],hs]
  ·exact zEo hs x (j::p) (j::p') (fun z=>by have:=hd (z++[j]);simpa using this) (fun ys e=>hx ⟨ys,e⟩) hk.1 h.1
end
mutual
theorem zQ0:(t:T)→ ∀(p p':List Nat),(∀z,G'.hd d (z++p')=G.hd s (z++p))→vals G' d (cpT s t p) p'=vals G s t p
 |.agg xs,p,p',h=>by simp only[cpT,vals];exact zEp xs p p' 0 h
 |.any,p,p',h|.lit _,p,p',h|.ro _,p,p',h|.same _ _,p,p',h|.addr _ _,p,p',h|.sub _ _ _ _ _,p,p',h|.sl _ _,p,p',h|.ptr _,p,p',h|.tup _,p,p',h=>by simp only[cpT,vals];rw[show G'.hd d p'=G.hd s p from by simpa using h []]
theorem zEp:(xs:List T)→ ∀(p p':List Nat)(j:Nat),(∀z,G'.hd d (z++p')=G.hd s (z++p))→yD G' d (cpF s xs p j) p' j=yD G s xs p j
 | [],_,_,_,_=>by rfl
 |x::xs,p,p',j,h=>by simp only[cpF,yD];rw[zQ0 x (j::p) (j::p') (fun z=>by have:=h (z++[j]);grind),zEp xs p p' (j+1) h]
end
theorem zBh(t:T)(p p':List Nat)(ht:∀xs,t≠.tup xs)(h:∀z,G'.hd d (z++p')=G.hd s (z++p)):mkV G' d (cpT s t p) p'=sO G s t p:=by
 cases t with
 |agg xs=>grind[cpT,mkV,sO,zEp]
 |tup xs=>grind
 |_=>simpa[cpT,mkV,sO]using h []
end
theorem zA2(G:Gh)(s:Nat)(t:T)(p:List Nat)(ht:∀xs,t≠.tup xs):mkV G s t p=sO G s t p:=by
 cases t with
 |tup xs=>grind
 |_=>rfl
def Gh.put(G:Gh)(d:Nat)(f:List Nat→Value):Gh:={ G with hd:=fun s z=>if s=d then f z else G.hd s z }
theorem Gh.put_other(G:Gh){d s:Nat}(f:List Nat→Value)(p:List Nat)(h:s≠d):(G.put d f).hd s p=G.hd s p:=by simp[Gh.put,h]
theorem Gh.put_self(G:Gh)(d:Nat)(f:List Nat→Value)(p:List Nat):(G.put d f).hd d p=f p:=by simp[Gh.put]
theorem zZm{d s:Nat}{p:List Nat}(h:Off [(d,0)] s p):s≠d:=by
 rintro rfl
 exact absurd (h 0 (by simp)) (by simp)
theorem Gh.put_keep(G:Gh){w w':World}(hw:w'.heap=w.heap)(d:Nat)(f:List Nat→Value):kR [(d,0)] G w (G.put d f) w' where
 hd s p h:=G.put_other f p (zZm h)
 ad _ _ _:=rfl
 lb b o f' s p _ h _:=⟨h,by grind[yL,World.cell?]⟩
 ow b s p h _:=h
 blk b cs e h:=by grind
theorem Mem.put{Γ:Ctx}{G:Gh}{w w':World}(h:Mem Γ G w)(hw:w'.heap=w.heap)(d:Nat)(f:List Nat→Value)(hf:∀z,(f z).oneCell'=dL)(ho:w'.os=w.os:=by rfl)(hq:w'.output=w.output:=by rfl):Mem Γ (G.put d f) w' where
 one s p:=by unfold Gh.put;dsimp only;split;exact hf p;exact h.one s p
 lb b o l hl:=by have:=h.lb b o l hl;exact⟨by rw[hw];exact this.1,this.2⟩
 ow b l hl:=by have:=h.ow b l hl;exact⟨by rw[hw];exact this.1,this.2⟩
 st b x hx:=by rw[hw];exact h.st b x hx
 fr b h1 h2:=by rw[hw];exact h.fr b h1 h2
 sz:=by rw[hw];exact h.sz
 bk:=h.bk.trans (fun b cs e hb=>by grind) ho hq
theorem tV(d:Nat)(x:Option T)(s:Nat):Wr.find [(d,x)] s=if d=s then dJ x else dK:=by rfl
theorem vE{Γ:Ctx}{E:Env}{G:Gh}{tmps:Array Value}{w w':World}(h:Rep Γ E G tmps w)(hw:w'.heap=w.heap){d:Nat}(hd:d<Γ.N)
  (f:List Nat→Value)(hf:∀z,(f z).oneCell'=dL)(t:T)(v:Value)(hv:v=mkV (G.put d f) d t [])(hr:R Γ.St (G.put d f) w' d t [])(ht:Top t)(ho:w'.os=w.os:=by rfl)(hq:w'.output=w.output:=by rfl):
  Rep Γ (E.app [(d,dJ t)] [(d,0)]) (G.put d f) (tmps.setIfInBounds d v) w':=by
 refine vV h (by simp) (G.put_keep hw d f) (h.mem.put hw d f hf ho hq) ?_ ?_
 ·grind[tV]
 ·intro s t' hs
  rw[tV]at hs;split at hs
  ·rename_i he
   subst he;simp at hs;subst hs;refine⟨?_,hr,ht⟩;rw[Jj];simp[h.size,hd,hv]
  ·cases hs
def xT(P:Program)(Γ:Ctx)(o:Oper)(E E':Env):Prop:=
 ∀(a:Act)(w:World)(K:Act→World→Prop)(Q:Exit→Act→World→Prop),Sim Γ E a w→(∀a' w',kX Γ E' a' w'→K a' w')→o.wp P a w K Q
def opT(E:Env):Operand→Option T
 |.tmp s=>E s
 |.const v=>if v.oneCell' then dJ (.lit v)else dK
 |.func f=>dJ (.lit (.func (.func f) #[] #[]))
 |.global _=>dK
def tE(x:Operand)(t:T):T:=match x with
 |.tmp s=>cpT s t []
 |_=>t
section
variable {P:Program}{Γ:Ctx}{E E':Env}{o:Oper}{d:Nat}
theorem xP{a:Act}{s:Nat}{v:Value}(h:a.tmps[s]? =dJ v):a.eval (.tmp s)=v:=by simp[Act.eval,Kj,h]
theorem xT.value(ho:o.dst=dJ d)
  (h:∀(a:Act)(w:World)(G:Gh),Rep Γ E G a.tmps w→ ∃v w',(execOp a.eval o).run P w=.ok (.value v) w'∧ ∃G',Rep Γ E' G' (a.tmps.setIfInBounds d v) w'):xT P Γ o E E':=by
 intro a w K Q ⟨e6,G,g9⟩ hK;obtain⟨v,w',gw,G',fg⟩:=h a w G g9;unfold Oper.wp;rw[gw,Oper.upon_value];refine hK _ _ ?_;rw[ho];exact .of ⟨e6,G',fg⟩
theorem xT.skip(ho:o.dst=dK)
  (h:∀(a:Act)(w:World)(G:Gh),Rep Γ E G a.tmps w→ ∃w',(execOp a.eval o).run P w=.ok .skip w'∧ ∃G',Rep Γ E' G' a.tmps w'):xT P Γ o E E':=by
 intro a w K Q ⟨e6,G,g9⟩ hK;obtain⟨w',gw,G',fg⟩:=h a w G g9;unfold Oper.wp;rw[gw,Oper.upon_skip];refine hK _ _ ?_;rw[ho];exact .of ⟨e6,G',fg⟩
theorem opd{G:Gh}{a:Act}{w:World}(g9:Rep Γ E G a.tmps w){x:Operand}{t:T}(hx:opT E x=dJ t)(ht:∀xs,t≠.tup xs):
  ∃f:List Nat→Value,(∀z,(f z).oneCell'=dL)∧(∀d,(∀s,x=.tmp s→s≠d)→T.okB [(d,0)] (tE x t)=dL→
   a.eval x=mkV (G.put d f) d (tE x t) []∧R Γ.St (G.put d f) w d (tE x t) [])∧Top (tE x t):=by
 cases x with
 |tmp s=>
  obtain⟨h1,h2,h3⟩:=g9.ent s t hx;refine⟨fun z=>G.hd s z,fun z=>g9.mem.one s z,?_,qW s t []⟩;intro d gg gz;have eO:=gg s rfl;have hk:=G.put_keep (w:=w) (w':=w) rfl d (fun z=>G.hd s z);have hz:∀z,(G.put d (fun z=>G.hd s z)).hd d (z++[])=G.hd s (z++[]):=by grind[Gh.put_self]
  refine⟨?_,?_⟩
  ·grind[xP,tE,zBh,zA2]
  ·exact zEo (fun p=>G.put_other _ p eO) t [] [] hz ht (hk.keepR (zAT _ (qW s t []) gz)) h2
 |const v=>
  simp only[opT]at hx;split at hx
  ·rename_i gm
   simp at hx;subst hx;exact⟨fun _=>v,fun _=>gm,fun d _ _=>⟨by simp[Act.eval,tE,mkV,Gh.put],by simp[tE,R,Gh.put]⟩,by simp[tE,Top]⟩
  ·cases hx
 |func f=>
  simp only[opT]at hx;simp at hx;subst hx;exact⟨fun _=>.func (.func f) #[] #[],fun _=>rfl,fun d _ _=>⟨by simp[Act.eval,tE,mkV,Gh.put],by simp[tE,R,Gh.put]⟩,by simp[tE,Top]⟩
 |global g=>cases hx
theorem zOL(x:Operand)(t:T)(ho:o.op=.move x∨o.op=.assign x)(gc:o.dst=dJ d)(hd:d<Γ.N)(hx:opT E x=dJ t)(ht:∀xs,t≠.tup xs)
  (gg:∀s,x=.tmp s→s≠d)(gz:T.okB [(d,0)] (tE x t)=dL):xT P Γ o E (E.app [(d,dJ (tE x t))] [(d,0)]):=by
 refine xT.value gc fun a w G g9=>?_
 obtain⟨f,hf,h1,h2⟩:=opd g9 hx ht;obtain⟨h3,h4⟩:=h1 d gg gz;refine⟨a.eval x,w,?_,_,vE g9 rfl hd f hf _ _ h3 h4 h2⟩;rcases ho with ho|ho<;>simp[execOp,ho]
theorem yW{G:Gh}{a:Act}{w:World}(g9:Rep Γ E G a.tmps w){x:Operand}{v:Value}(hx:opT E x=dJ (.lit v)):a.eval x=v∧v.oneCell'=dL:=by
 cases x with
 |tmp s=>
  obtain⟨h1,h2,_⟩:=g9.ent s _ hx;simp only[R]at h2;refine⟨?_,by rw[←h2];exact g9.mem.one s []⟩
  grind[xP,mkV]
 |const u=>
  simp only[opT]at hx;split at hx
  ·simp at hx;subst hx;exact⟨rfl,by assumption⟩
  ·cases hx
 |func f=>simp only[opT]at hx;simp at hx;subst hx;exact⟨rfl,rfl⟩
 |global g=>cases hx
theorem tQ(v:Value)(hv:v.oneCell'=dL)(gc:o.dst=dJ d)(hd:d<Γ.N)
  (h:∀(a:Act)(w:World)(G:Gh),Rep Γ E G a.tmps w→(execOp a.eval o).run P w=.ok (.value v) w):xT P Γ o E (E.app [(d,dJ (.lit v))] [(d,0)]):=by
 refine xT.value gc fun a w G g9=>?_
 exact⟨v,w,h a w G g9,_,vE g9 rfl hd (fun _=>v) (fun _=>hv) (.lit v) v (by simp[mkV,Gh.put]) (by simp[R,Gh.put]) (by simp[Top])⟩
def zKd(op:BinOp)(k:IntKind)(a b:Int):Option Value:=
 match op with
 |.add=>dJ (.int k (k.wrap (a+b)))
 |.sub=>dJ (.int k (k.wrap (a-b)))
 |.mul=>dJ (.int k (k.wrap (a*b)))
 |.quo=>if b=0 then dK else dJ (.int k (k.wrap (a.tdiv b)))
 |.rem=>if b=0 then dK else dJ (.int k (a.tmod b))
 |.eql=>dJ (.bool (a==b))
 |.neq=>dJ (.bool (a != b))
 |.lss=>dJ (.bool (decide (a<b)))
 |.leq=>dJ (.bool (decide (a≤b)))
 |.gtr=>dJ (.bool (decide (a> b)))
 |.geq=>dJ (.bool (decide (a≥b)))
 |_=>dK
theorem zRS{op:BinOp}{k:IntKind}{a b:Int}{v:Value}(h:zKd op k a b=dJ v):v.oneCell'=dL:=by cases op<;>simp[zKd]at h<;>first|(subst h;rfl)|(obtain⟨_,rfl⟩:=h;rfl)
theorem uA(op:BinOp)(xt yt:TypeId)(x y:Operand)(k:IntKind)(m n:Int)(v:Value)(ho:o.op=.binOp op xt x y yt)(gc:o.dst=dJ d)(hd:d<Γ.N)
  (hx:opT E x=dJ (.lit (.int k m)))(hy:opT E y=dJ (.lit (.int k n)))(hv:zKd op k m n=dJ v):xT P Γ o E (E.app [(d,dJ (.lit v))] [(d,0)]):=by
 refine tQ v (zRS hv) gc hd fun a w G g9=>?_
 have h1:=(yW g9 hx).1;have h2:=(yW g9 hy).1;cases op<;>simp[zKd]at hv<;>
  first
   |(subst hv;simp[execOp,ho,h1,h2,eqGuard,binOp,Op.intArith,Op.intCmp];done)
   |(obtain⟨h0,rfl⟩:=hv;simp[execOp,ho,h1,h2,eqGuard,binOp,Op.intDiv,h0])
theorem zZn(xt:TypeId)(x:Operand)(b:Bool)(ho:o.op=.unOp .not xt x)(gc:o.dst=dJ d)(hd:d<Γ.N)
  (hx:opT E x=dJ (.lit (.bool b))):xT P Γ o E (E.app [(d,dJ (.lit (.bool !b)))] [(d,0)]):=by
 refine tQ _ rfl gc hd fun a w G g9=>?_
 have h1:=(yW g9 hx).1;simp[execOp,ho,h1,Op.unary]
theorem zZo(xt:TypeId)(x:Operand)(k:IntKind)(n:Int)(ho:o.op=.unOp .neg xt x)(gc:o.dst=dJ d)(hd:d<Γ.N)
  (hx:opT E x=dJ (.lit (.int k n))):xT P Γ o E (E.app [(d,dJ (.lit (.int k (k.wrap (0-n)))))] [(d,0)]):=by
 refine tQ _ rfl gc hd fun a w G g9=>?_
 have h1:=(yW g9 hx).1;simp[execOp,ho,h1,Op.unary,Op.intArith]
theorem zVV(src dst:TypeId)(ds:TypeDesc)(x:Operand)(k k':IntKind)(n:Int)(ho:o.op=.convert src dst x)(gc:o.dst=dJ d)(hd:d<Γ.N)
  (hs:P.underlying src=dJ ds)(ht:P.underlying dst=dJ (.int k'))(hx:opT E x=dJ (.lit (.int k n))):
  xT P Γ o E (E.app [(d,dJ (.lit (.int k' (k'.wrap n))))] [(d,0)]):=by
 refine tQ _ rfl gc hd fun a w G g9=>?_
 have h1:=(yW g9 hx).1;simp[execOp,ho,h1,convert,run_underlying hs,run_underlying ht,Conv.intToInt]
theorem zVW(c x y:Operand)(b:Bool)(t:T)(ho:o.op=.pick c x y)(gc:o.dst=dJ d)(hd:d<Γ.N)
  (hc:opT E c=dJ (.lit (.bool b)))(hx:opT E (if b then x else y)=dJ t)(ht:∀xs,t≠.tup xs)
  (gg:∀s,(if b then x else y)=.tmp s→s≠d)(gz:T.okB [(d,0)] (tE (if b then x else y) t)=dL):xT P Γ o E (E.app [(d,dJ (tE (if b then x else y) t))] [(d,0)]):=by
 refine xT.value gc fun a w G g9=>?_
 obtain⟨f,hf,h1,h2⟩:=opd g9 hx ht;obtain⟨h3,h4⟩:=h1 d gg gz;refine⟨a.eval (if b then x else y),w,?_,_,vE g9 rfl hd f hf _ _ h3 h4 h2⟩;have h5:=(yW g9 hc).1;cases b<;>simp[execOp,ho,h5,asBool]
end
end Go.Ab

namespace Go.Ab
open Go
def jP(E:Env):Nat→Nat→List Nat→Option (Nat×List Nat×T)
 |0,_,_=>dK
 |n+1,r,q=>match E r with
  |some t=>match t.get q.reverse with
   |some (.same r' q')=>jP E n r' q'
   |some u=>dJ (r,q,u)
   |none=>dK
  |none=>dK
def tW(E:Env):Operand→Option (Nat×List Nat×T)
 |.tmp s=>jP E 4 s []
 |_=>dK
def T.single:T→Bool
 |.agg _|.tup _=>dM
 |_=>dL
theorem xI{G:Gh}{s:Nat}{t:T}{p:List Nat}(h:t.single=dL):mkV G s t p=G.hd s p:=by cases t<;>simp[T.single]at h<;>rfl
section
variable {P:Program}{Γ:Ctx}{E:Env}{o:Oper}{d:Nat}
theorem zD6{G:Gh}{a:Act}{w:World}(g9:Rep Γ E G a.tmps w):∀(n s:Nat)(p:List Nat)(r:Nat)(q:List Nat)(u:T),jP E n s p=dJ (r,q,u)→
  R Γ.St G w r u q∧G.hd s p=G.hd r q∧(∃t,E r=dJ t∧t.get q.reverse=dJ u)
 |0,_,_,_,_,_,h=>by simp[jP]at h
 |n+1,s,p,r,q,u,h=>by
  simp only[jP]at h;split at h
  ·rename_i t ht
   obtain⟨_,h4,_⟩:=g9.ent _ _ ht;split at h
   ·rename_i r' q' hg
    obtain⟨h1,h2,h3⟩:=zD6 g9 n r' q' r q u h;have h5:=(zB1 p.reverse t _ [] h4 hg).1;simp only[rp,K5,Jb,R]at h5;exact⟨h1,h5.trans h2,h3⟩
   ·rename_i u' hns hg
    simp at h;obtain⟨rfl,rfl,rfl⟩:=h;have h5:=(zB1 p.reverse t _ [] h4 hg).1;simp only[rp,K5,Jb]at h5;exact⟨h5,rfl,t,ht,hg⟩
   ·cases h
  ·cases h
theorem jQ{G:Gh}{a:Act}{w:World}(g9:Rep Γ E G a.tmps w){x:Operand}{r:Nat}{q:List Nat}{u:T}(h:tW E x=dJ (r,q,u))(hu:u.single=dL):
  R Γ.St G w r u q∧a.eval x=G.hd r q:=by
 cases x with
 |tmp s=>
  obtain⟨h1,h2,_⟩:=zD6 g9 4 s [] r q u h;refine⟨h1,?_⟩;rw[←h2];simp only[tW,jP]at h;split at h
  ·rename_i t ht
   obtain⟨h3,_,_⟩:=g9.ent s _ ht;rw[xP h3];simp only[Gb,T.get]at h;have:t.single=dL:=by cases t<;>first|rfl|(simp at h;obtain⟨_,_,rfl⟩:=h;simp[T.single]at hu)
   exact xI this
  ·cases h
 |_=>simp[tW]at h
theorem zKe{St:Stb}{G:Gh}{w:World}{s:Nat}{k:Nat}{xs:List T}{p:List Nat}(h:R St G w s (.sl k xs) p):∃a c,G.hd s p=.slice a xs.length c:=by
 simp only[R]at h;rcases h with⟨rfl,a,h⟩|⟨b,_,cap,_,_,h,_⟩
 ·exact⟨a,0,h⟩
 ·exact⟨_,_,h⟩
theorem zD7{St:Stb}{G:Gh}{w:World}{s:Nat}{k:Nat}{xs:List T}{p:List Nat}(h:R St G w s (.ro (.sl k xs)) p):∃a c,G.hd s p=.slice a xs.length c∧xs.length≤c∧c≤maxLen∧
   (xs≠[]→ ∃b o' cs' e fr,a=dJ ⟨b,o',dK⟩∧St b=dJ (.cells cs' e fr)∧RoL St xs cs' o' k):=by
 simp only[R,RoC]at h;obtain⟨a,c,h1,h2,h3,h4⟩:=h;exact⟨a,c,by simpa using h1,h2,h3,h4⟩
def zLu:T→Option Nat
 |.sl _ xs|.ro (.sl _ xs)=>dJ xs.length
 |.lit (.slice _ n _)=>dJ n
 |.lit (.string s)=>dJ s.size
 |_=>dK
def zVX:T→TypeDesc→Bool
 |.lit (.string _),.string=>dL
 |.sl _ _,.slice _|.ro (.sl _ _),.slice _|.lit (.slice _ _ _),.slice _=>dL
 |_,_=>dM
theorem zRT(x:Operand)(t:TypeId)(ds:TypeDesc)(r:Nat)(q:List Nat)(u:T)(n:Nat)(ho:o.op=.call { callee:=.builtin .len,args:=#[x],argTypes:=#[t] })(gc:o.dst=dJ d)(hd:d<Γ.N)
  (ht:P.underlying t=dJ ds)(hx:tW E x=dJ (r,q,u))(hl:zLu u=dJ n)(po:zVX u ds=dL):
  xT P Γ o E (E.app [(d,dJ (.lit (.int .i64 n)))] [(d,0)]):=by
 refine tQ (.int .i64 n) rfl gc hd fun a w G g9=>?_
 have hu:u.single=dL:=by cases u<;>simp[zLu]at hl<;>rfl
 obtain⟨h1,h2⟩:=jQ g9 hx hu;have h3:(Builtin.len_ #[t] o.type #[G.hd r q]).run P w=.ok (.int .i64 n) w:=by
  cases u with
  |sl k xs=>
   obtain⟨a',c,h4⟩:=zKe h1;simp[zLu]at hl;subst hl;cases ds<;>simp[zVX]at po
   simp[Builtin.len_,run_underlying ht,h4,goInt]
  |ro t'=>
   cases t'<;>simp[zLu]at hl
   obtain⟨a',c,h4,_⟩:=zD7 h1;subst hl;cases ds<;>simp[zVX]at po
   simp[Builtin.len_,run_underlying ht,h4,goInt]
  |lit v=>
   simp only[R]at h1;cases v<;>simp[zLu]at hl<;>(subst hl;cases ds<;>simp[zVX]at po;simp[Builtin.len_,run_underlying ht,h1,goInt])
  |_=>simp[zLu]at hl
 simp[execOp,ho,resolve,invoke,builtin,h2,h3]
theorem zCm{G:Gh}{w:World}{s:Nat}{t:T}{p:List Nat}{b o:Nat}(h:Loc G w s t p b o):G.ad s p=⟨b,o,dK⟩:=by cases t<;>simp only[Loc]at h<;>first|exact h.1|exact h.elim
theorem uB(b o n:Nat):(⟨b,o,dK⟩:Addr).add n=⟨b,o+n,dK⟩:=by
 unfold Addr.add;split
 ·rename_i h;subst h;rfl
 ·rfl
theorem zVY{St:Stb}{G:Gh}{w:World}{s:Nat}{k:Nat}{xs:List T}{p:List Nat}(h:R St G w s (.sl k xs) p){i:Nat}(hi:i<xs.length):
  ∃b o0 cap,G.hd s p=.slice (dJ ⟨b,o0,dK⟩) xs.length cap∧G.ad s (i::p)=⟨b,o0+i*k,dK⟩:=by
 simp only[R]at h;rcases h with⟨rfl,_⟩|⟨b,o0,cap,cs,e,h1,h2,h3,h4,h5,h6,h7,h8⟩
 ·simp at hi
 ·have:=(kV xs p 0 b o0 k i xs[i] h8 (by simp[hi])).1
  simp only[Jd]at this;exact⟨b,o0,cap,h1,zCm this⟩
theorem yBi(x y:Operand)(t e:TypeId)(ti:TypeInfo)(r:Nat)(q:List Nat)(k:Nat)(xs:List T)(kd:IntKind)(i:Int)(ho:o.op=.indexAddr t x y)(gc:o.dst=dJ d)(hd:d<Γ.N)
  (ht:P.underlying t=dJ (.slice e))(he:P.info? e=dJ ti)(hk:ti.size=k)(hx:tW E x=dJ (r,q,.sl k xs))(hy:opT E y=dJ (.lit (.int kd i)))(h0:0≤i)(h1:i.toNat<xs.length):
  xT P Γ o E (E.app [(d,dJ (.addr r (i.toNat::q)))] [(d,0)]):=by
 refine xT.value gc fun a w G g9=>?_
 obtain⟨g1,g2⟩:=jQ g9 hx rfl;have g3:=(yW g9 hy).1;obtain⟨b,o0,cap,g4,g5⟩:=zVY g1 h1;refine⟨.pointer (dJ (G.ad r (i.toNat::q))),w,?_,_,vE g9 rfl hd (fun _=>.pointer (dJ (G.ad r (i.toNat::q)))) (fun _=>rfl) _ _ (by simp[mkV,Gh.put]) (by simp[R,Gh.put]) (by simp[Top])⟩;have gF:i<(xs.length:Int):=by omega
 simp[execOp,ho,Instr.indexAt,g3,g2,g4,asIntOf,run_underlying ht,h0,gF,sizeOf,typeInfo,he,hk,uB,g5]
theorem zGJ{St:Stb}:(xs:List T)→ ∀(cs:Array Value)(o k i:Nat)(x:T),RoL St xs cs o k→xs[i]? =dJ x→RoC St x cs (o+i*k)
 | [],_,_,_,_,_,_,h=>by simp at h
 |y::ys,cs,o,k,i,x,hr,h=>by
  simp only[RoL]at hr;cases i with
  |zero=>simp at h;subst h;simpa using hr.1
  |succ i=>
   have:=zGJ ys cs (o+k) k i x hr.2 (by simpa using h)
   rwa [show o+(i+1)*k=o+k+i*k from by rw[K7];omega]
theorem zOM{St:Stb}:(xs:List T)→ ∀(cs:Array Value)(o i:Nat)(x:T),RoF St xs cs o→xs[i]? =dJ x→RoC St x cs (o+T.sizes (xs.take i))
 | [],_,_,_,_,_,h=>by simp at h
 |y::ys,cs,o,i,x,hr,h=>by
  simp only[RoF]at hr;cases i with
  |zero=>simp at h;subst h;simpa[T.sizes]using hr.1
  |succ i=>
   have:=zOM ys cs (o+y.size) i x hr.2 (by simpa using h)
   rwa [L5,T.sizes,←H3]
theorem zRU(x y:Operand)(t e:TypeId)(ti:TypeInfo)(r:Nat)(q:List Nat)(k:Nat)(xs:List T)(kd:IntKind)(i:Int)(u:T)(ho:o.op=.indexAddr t x y)(gc:o.dst=dJ d)(hd:d<Γ.N)
  (ht:P.underlying t=dJ (.slice e))(he:P.info? e=dJ ti)(hk:ti.size=k)(hx:tW E x=dJ (r,q,.ro (.sl k xs)))(hy:opT E y=dJ (.lit (.int kd i)))(h0:0≤i)(h1:xs[i.toNat]? =dJ u):
  xT P Γ o E (E.app [(d,dJ (.ro (.ptr u)))] [(d,0)]):=by
 refine xT.value gc fun a w G g9=>?_
 obtain⟨g1,g2⟩:=jQ g9 hx rfl;have g3:=(yW g9 hy).1;have da:i.toNat<xs.length:=(Jo.1 h1).1;obtain⟨a',c,g4,_,_,g5⟩:=zD7 g1;obtain⟨b,o',cs',e',fr,rfl,g6,g7⟩:=g5 (by rintro rfl;simp at da);have g8:=zGJ xs cs' o' k i.toNat u g7 h1;refine⟨.pointer (dJ ⟨b,o'+i.toNat*k,dK⟩),w,?_,_,vE g9 rfl hd (fun _=>.pointer (dJ ⟨b,o'+i.toNat*k,dK⟩)) (fun _=>rfl) _ _ (by simp[mkV,Gh.put]) ?_ (by simp[Top])⟩
 ·have gF:i<(xs.length:Int):=by omega
  simp[execOp,ho,Instr.indexAt,g3,g2,g4,asIntOf,run_underlying ht,h0,gF,sizeOf,typeInfo,he,hk,uB]
 ·simp only[R,Gh.put_self,RoC]
  exact⟨b,_,cs',e',fr,by simp,g6,g8⟩
theorem zCO:(xs:List T)→ ∀{G:Gh}{w:World}{s:Nat}(p:List Nat)(j b o i:Nat)(x:T),vB G w s xs p j b o→xs[i]? =dJ x→
  Loc G w s x ((j+i)::p) b (o+T.sizes (xs.take i))
 | [],_,_,_,_,_,_,_,_,_,_,h=>by simp at h
 |y::ys,G,w,s,p,j,b,o,i,x,hr,h=>by
  simp only[vB]at hr;cases i with
  |zero=>simp at h;subst h;simpa[T.sizes]using hr.1
  |succ i=>
   have:=zCO ys p (j+1) b (o+y.size) i x hr.2 (by simpa using h)
   rwa [show j+(i+1)=j+1+i from by omega,L5,T.sizes,←H3]
theorem tZ{P:Program}{w:World}(a:Addr):(Instr.sureAddr (.pointer (dJ a))).run P w=.ok a w:=rfl
theorem zCP{P:Program}{w:World}{S:TypeId}{fs:Array Field}{f:Field}{fi:TypeInfo}{j:Nat}{b o':Nat}(hS:P.underlying S=dJ (.struct fs))(hf:fs[j]? =dJ f)(hi:P.info? f.type=dJ fi)(hz:fi.size≠0):
  (Instr.fieldAt S (.pointer (dJ ⟨b,o',dK⟩)) j).run P w=.ok (.pointer (dJ ⟨b,o'+f.offset,dK⟩)) w:=by
 simp[Instr.fieldAt,run_underlying hS,hf,tZ,fieldPlace,sizeOf,typeInfo,hi,hz,uB]
theorem yBj(x:Operand)(S:TypeId)(fs:Array Field)(f:Field)(fi:TypeInfo)(j:Nat)(r:Nat)(q:List Nat)(xs:List T)(u:T)(ho:o.op=.fieldAddr S x j)(gc:o.dst=dJ d)(hd:d<Γ.N)
  (hS:P.underlying S=dJ (.struct fs))(hf:fs[j]? =dJ f)(hi:P.info? f.type=dJ fi)(hz:fi.size≠0)(hx:tW E x=dJ (r,q,.ptr (.agg xs)))(hu:xs[j]? =dJ u)(gH:T.sizes (xs.take j)=f.offset):
  xT P Γ o E (E.app [(d,dJ (.addr r (j::0::q)))] [(d,0)]):=by
 refine xT.value gc fun a w G g9=>?_
 obtain⟨g1,g2⟩:=jQ g9 hx rfl;simp only[R]at g1;obtain⟨b,cs,e,g4,_,_,_,g5,_⟩:=g1;simp only[Loc]at g5;have g6:=zCO xs (0::q) 0 b 0 j u g5.2 hu;simp only[Jd]at g6;refine⟨.pointer (dJ (G.ad r (j::0::q))),w,?_,_,vE g9 rfl hd (fun _=>.pointer (dJ (G.ad r (j::0::q)))) (fun _=>rfl) _ _ (by simp[mkV,Gh.put]) (by simp[R,Gh.put]) (by simp[Top])⟩;have g7:=zCP (w:=w) (b:=b) (o':=0) hS hf hi hz;simp[execOp,ho,g2,g4,g7,zCm g6,gH]
theorem zN1(x:Operand)(S:TypeId)(fs:Array Field)(f:Field)(fi:TypeInfo)(j:Nat)(r:Nat)(q:List Nat)(t:T)(xs:List T)(u:T)(ho:o.op=.fieldAddr S x j)(gc:o.dst=dJ d)(hd:d<Γ.N)
  (hS:P.underlying S=dJ (.struct fs))(hf:fs[j]? =dJ f)(hi:P.info? f.type=dJ fi)(hz:fi.size≠0)(hx:opT E x=dJ (.addr r q))(hr:E r=dJ t)(hg:t.get q.reverse=dJ (.agg xs))(hl:t.locd q.reverse=dL)
  (hu:xs[j]? =dJ u)(gH:T.sizes (xs.take j)=f.offset):
  xT P Γ o E (E.app [(d,dJ (.addr r (j::q)))] [(d,0)]):=by
 refine xT.value gc fun a w G g9=>?_
 cases x with
 |tmp s=>
  obtain⟨h1,h2,_⟩:=g9.ent s _ hx;obtain⟨_,h4,_⟩:=g9.ent r _ hr;simp only[R]at h2;obtain⟨b,o',cs,e,h6,_,_⟩:=(zB1 q.reverse t _ [] h4 hg).2 hl;simp only[rp,K5,Jb]at h6;have h7:=zCm h6;simp only[Loc]at h6;have g6:=zCO xs q 0 b o' j u h6.2 hu;simp only[Jd]at g6;refine⟨.pointer (dJ (G.ad r (j::q))),w,?_,_,vE g9 rfl hd (fun _=>.pointer (dJ (G.ad r (j::q)))) (fun _=>rfl) _ _ (by simp[mkV,Gh.put]) (by simp[R,Gh.put]) (by simp[Top])⟩;have g7:=zCP (w:=w) (b:=b) (o':=o') hS hf hi hz;simp[execOp,ho,xP h1,mkV,h2,h7,g7,zCm g6,gH]
 |const v=>simp only[opT]at hx;split at hx<;>simp at hx
 |func f=>simp[opT]at hx
 |global g=>simp[opT]at hx
theorem zN2{G:Gh}{a:Act}{w:World}(g9:Rep Γ E G a.tmps w){x:Operand}{u:T}(hx:opT E x=dJ (.ro u)):RoC Γ.St u #[a.eval x] 0:=by
 cases x with
 |tmp s=>
  obtain⟨h1,h2,_⟩:=g9.ent s _ hx;simp only[R]at h2;rw[xP h1,xI rfl];exact h2
 |const v=>simp only[opT]at hx;split at hx<;>simp at hx
 |func f=>simp[opT]at hx
 |global g=>simp[opT]at hx
theorem zRV(x:Operand)(S:TypeId)(fs:Array Field)(f:Field)(fi:TypeInfo)(j:Nat)(xs:List T)(u:T)(ho:o.op=.fieldAddr S x j)(gc:o.dst=dJ d)(hd:d<Γ.N)
  (hS:P.underlying S=dJ (.struct fs))(hf:fs[j]? =dJ f)(hi:P.info? f.type=dJ fi)(hz:fi.size≠0)(hx:opT E x=dJ (.ro (.ptr (.agg xs))))(hu:xs[j]? =dJ u)(gH:T.sizes (xs.take j)=f.offset):
  xT P Γ o E (E.app [(d,dJ (.ro (.ptr u)))] [(d,0)]):=by
 refine xT.value gc fun a w G g9=>?_
 have h1:=zN2 g9 hx;simp only[RoC]at h1;obtain⟨b,o',cs',e,fr,h2,h3,h4⟩:=h1;have h5:=zOM xs cs' o' j u h4 hu;refine⟨.pointer (dJ ⟨b,o'+f.offset,dK⟩),w,?_,_,vE g9 rfl hd (fun _=>.pointer (dJ ⟨b,o'+f.offset,dK⟩)) (fun _=>rfl) _ _ (by simp[mkV,Gh.put]) ?_ (by simp[Top])⟩
 ·have g7:=zCP (w:=w) (b:=b) (o':=o') hS hf hi hz
  have h6:a.eval x=.pointer (dJ ⟨b,o',dK⟩):=by simpa using h2
  simp[execOp,ho,h6,g7]
 ·simp only[R,Gh.put_self,RoC]
  exact⟨b,o'+f.offset,cs',e,fr,by simp,h3,by rw[←gH];exact h5⟩
def zF8:TypeDesc→Bool
 |.struct _|.array _ _=>dL
 |_=>dM
theorem kY{P:Program}{w:World}{t:TypeId}{ds:TypeDesc}(ht:P.underlying t=dJ ds):(isAgg t).run P w=.ok (zF8 ds) w:=by cases ds<;>simp[isAgg,run_underlying ht,zF8]
theorem wT{G:Gh}{w:World}{s:Nat}{t:T}{p:List Nat}{b o:Nat}(ht:t.single=dL)(h:Loc G w s t p b o):G.ad s p=⟨b,o,dK⟩∧G.lb b o=dJ (dM,s,p)∧yL w b o=dJ (G.hd s p):=by cases t<;>simp[T.single]at ht<;>simpa only[Loc]using h
mutual
theorem zRW{G:Gh}{w:World}{s:Nat}:(t:T)→ ∀(p:List Nat)(b o:Nat),Loc G w s t p b o→ ∀(i:Nat)(v:Value),(vals G s t p)[i]? =dJ v→yL w b (o+i)=dJ v
 |.agg xs,p,b,o,h,i,v,hv=>by simp only[Loc,vals]at h hv;exact zBc xs p 0 b o h.2 i v hv
 |.any,p,b,o,h,i,v,hv|.lit _,p,b,o,h,i,v,hv|.ro _,p,b,o,h,i,v,hv|.same _ _,p,b,o,h,i,v,hv|.addr _ _,p,b,o,h,i,v,hv|.sub _ _ _ _ _,p,b,o,h,i,v,hv|.sl _ _,p,b,o,h,i,v,hv|.ptr _,p,b,o,h,i,v,hv=>by
  simp only[Loc,vals]at h hv;cases i with
  |zero=>simp at hv;rw[←hv];exact h.2.2
  |succ i=>simp at hv
 |.tup _,_,_,_,h,_,_,_=>by simp only[Loc]at h
theorem zBc{G:Gh}{w:World}{s:Nat}:(xs:List T)→ ∀(p:List Nat)(j b o:Nat),vB G w s xs p j b o→ ∀(i:Nat)(v:Value),(yD G s xs p j)[i]? =dJ v→yL w b (o+i)=dJ v
 | [],_,_,_,_,_,i,v,hv=>by simp[yD]at hv
 |x::xs,p,j,b,o,h,i,v,hv=>by
  simp only[vB,yD]at h hv;rw[Kn]at hv;split at hv
  ·exact zRW x (j::p) b o h.1 i v hv
  ·rename_i hge
   have gf:=wY (G:=G) (s:=s) x (j::p) (fun ys e=>by subst e;simp only[Loc]at h;exact h.1);have:=zBc xs p (j+1) b (o+x.size) h.2 _ v hv
   rwa [show o+x.size+(i-(vals G s x (j::p)).length)=o+i from by omega]at this
theorem wY{G:Gh}{s:Nat}:(t:T)→ ∀(p:List Nat),(∀xs,t≠.tup xs)→(vals G s t p).length=t.size
 |.agg xs,p,_=>by simp only[vals,T.size];exact xZ xs p 0
 |.any,_,_|.lit _,_,_|.ro _,_,_|.same _ _,_,_|.addr _ _,_,_|.sub _ _ _ _ _,_,_|.sl _ _,_,_|.ptr _,_,_|.tup _,_,_=>by simp[vals,T.size]
theorem xZ{G:Gh}{s:Nat}:(xs:List T)→ ∀(p:List Nat)(j:Nat),(yD G s xs p j).length=T.sizes xs
 | [],_,_=>by simp[yD,T.sizes]
 |x::xs,p,j=>by
  simp only[yD,J5,T.sizes,xZ xs p (j+1)]
  by_cases hx:∃ys,x=.tup ys
  ·obtain⟨ys,rfl⟩:=hx;simp[vals,T.size]
  ·rw[wY x (j::p) (fun ys e=>hx ⟨ys,e⟩)]
end
theorem zGp{P:Program}{G:Gh}{w:World}{s:Nat}{t:T}{p:List Nat}{b o':Nat}{T':TypeId}{ds:TypeDesc}{ti:TypeInfo}(hT:P.underlying T'=dJ ds)(hi:P.info? T'=dJ ti)(hl:Loc G w s t p b o')
  (ff:zF8 ds= !t.single)(gB:ti.size=t.size):(loadVar T' ⟨b,o',dK⟩).run P w=.ok (sO G s t p) w:=by
 cases t with
 |agg xs=>
  have h1:=run_loadCells_list (P:=P) (w:=w) ⟨b,o',dK⟩ (yD G s xs p 0) (fun j v hv=>by rw[uB];simp only[Loc]at hl;exact zBc xs p 0 b o' hl.2 j v hv)
  rw[xZ]at h1;simp only[T.size]at gB;simp[T.single]at ff;simp[loadVar,kY hT,ff,sizeOf,typeInfo,hi,gB,h1,sO]
 |tup xs=>simp only[Loc]at hl
 |_=>
  have h1:=(wT rfl hl).2.2;simp[T.single]at ff;simp only[yL]at h1;simp[loadVar,kY hT,ff,load,Sem.run,h1,sO]
def zCE(Γ:Ctx)(E:Env)(x:Operand)(r:Nat)(q:List Nat):Prop:=∀(a:Act)(w:World)(G:Gh),Rep Γ E G a.tmps w→a.eval x=.pointer (dJ (G.ad r q))
theorem zCE.addr{x:Operand}{r:Nat}{q:List Nat}(hx:opT E x=dJ (.addr r q)):zCE Γ E x r q:=fun a w G g9=>by
 cases x with
 |tmp s=>
  obtain⟨h1,h2,_⟩:=g9.ent s _ hx;simp only[R]at h2;rw[xP h1];exact h2
 |const v=>simp only[opT]at hx;split at hx<;>simp at hx
 |func f=>simp[opT]at hx
 |global g=>simp[opT]at hx
theorem zCE.ptr{x:Operand}{r:Nat}{q:List Nat}{t:T}(hx:tW E x=dJ (r,q,.ptr t)):zCE Γ E x r (0::q):=fun a w G g9=>by obtain⟨g1,g2⟩:=jQ g9 hx rfl;simp only[R]at g1;obtain⟨b,cs,e,g4,_,_,_,g5,_⟩:=g1;rw[g2,g4,zCm g5]
theorem zLv(x:Operand)(T':TypeId)(ds:TypeDesc)(ti:TypeInfo)(r:Nat)(q:List Nat)(t u:T)(ho:o.op=.load T' x)(gc:o.dst=dJ d)(hd:d<Γ.N)
  (hT:P.underlying T'=dJ ds)(hi:P.info? T'=dJ ti)(ff:zF8 ds= !u.single)(gB:ti.size=u.size)
  (hx:zCE Γ E x r q)(hr:E r=dJ t)(hg:t.get q.reverse=dJ u)(hl:t.locd q.reverse=dL)(gO:r≠d)(gz:T.okB [(d,0)] (cpT r u q)=dL):
  xT P Γ o E (E.app [(d,dJ (cpT r u q))] [(d,0)]):=by
 refine xT.value gc fun a w G g9=>?_
 have mC:=hx a w G g9;obtain⟨_,h4,_⟩:=g9.ent r _ hr;obtain⟨h5,h6⟩:=zB1 q.reverse t u [] h4 hg;obtain⟨b,o',cs,e,h6,_,_⟩:=h6 hl;simp only[rp,K5,Jb]at h5 h6;have gZ:∀xs,u≠.tup xs:=by rintro xs rfl;simp only[Loc]at h6
 have h7:=zCm h6;have hz:∀z,(G.put d (fun z=>G.hd r (z++q))).hd d (z++[])=G.hd r (z++q):=fun z=>by rw[Gh.put_self,Jb]
 have hk:=G.put_keep (w:=w) (w':=w) rfl d (fun z=>G.hd r (z++q));refine⟨sO G r u q,w,?_,_,vE g9 rfl hd (fun z=>G.hd r (z++q)) (fun z=>g9.mem.one _ _) _ _ (zBh u q [] gZ hz).symm
  (zEo (fun p=>G.put_other _ p gO) u q [] hz gZ (hk.keepR (zAT _ (qW r u q) gz)) h5) (qW r u q)⟩
 have h8:=zGp (T':=T') hT hi h6 ff gB;simp[execOp,ho,mC,h7,Instr.loadAt,tZ,h8]
theorem zVZ(x:Operand)(T':TypeId)(ds:TypeDesc)(ti:TypeInfo)(r:Nat)(q:List Nat)(t u:T)(ho:o.op=.load T' x)(gc:o.dst=dJ d)(hd:d<Γ.N)
  (hT:P.underlying T'=dJ ds)(hi:P.info? T'=dJ ti)(ff:zF8 ds= !u.single)(gB:ti.size=u.size)
  (hx:opT E x=dJ (.addr r q))(hr:E r=dJ t)(hg:t.get q.reverse=dJ u)(hl:t.locd q.reverse=dL)(gO:r≠d)(gz:T.okB [(d,0)] (cpT r u q)=dL):
  xT P Γ o E (E.app [(d,dJ (cpT r u q))] [(d,0)]):=zLv x T' ds ti r q t u ho gc hd hT hi ff gB (zCE.addr hx) hr hg hl gO gz
def roT:T→T
 |.lit v=>.lit v
 |.agg xs=>.agg (roTs xs)
 |.ro t=>.ro (.ro t)
 |.any=>.any
 |.same r q=>.ro (.same r q)
 |.addr r q=>.ro (.addr r q)
 |.sub r q k lo hi=>.ro (.sub r q k lo hi)
 |.sl k xs=>.ro (.sl k xs)
 |.ptr t=>.ro (.ptr t)
 |.tup xs=>.ro (.tup xs)
where roTs:List T→List T
 | []=>[]
 |x::xs=>roT x::roTs xs
end
end Go.Ab

namespace Go.Ab
open Go
def kZ(v:Value):Value:=if v.oneCell' then v else .bool dM
theorem zBP(v:Value):(kZ v).oneCell'=dL:=by
 unfold kZ;split
 ·assumption
 ·rfl
theorem zAU{v:Value}(h:v.oneCell'=dL):kZ v=v:=by simp[kZ,h]
def zEq:T→Array Value→Nat→List Nat→Value
 |.agg xs,cs,o,i::f=>match xs[i]? with
  |some x=>zEq x cs (o+T.sizes (xs.take i)) f
  |none=>.bool dM
 |_,cs,o,_=>cs.getD o (.bool dM)
termination_by structural _ _ _ f=>f
theorem zB3{t:T}(h:t.single=dL)(cs:Array Value)(o:Nat)(f:List Nat):zEq t cs o f=cs.getD o (.bool dM):=by cases t<;>simp[T.single]at h<;>cases f<;>rfl
mutual
theorem zEL:(u:T)→(∀xs,u≠.tup xs)→(roT u).size=u.size
 |.agg xs,_=>by simp only[roT,T.size];exact zF9 xs
 |.lit _,_|.any,_|.sl _ _,_|.ptr _,_|.ro _,_|.same _ _,_|.addr _ _,_|.sub _ _ _ _ _,_|.tup _,_=>by simp[roT,T.size]
theorem zF9:(xs:List T)→T.sizes (roT.roTs xs)=T.sizes xs
 | []=>by simp only[roT.roTs]
 |x::xs=>by
  simp only[roT.roTs,T.sizes,zF9 xs]
  by_cases hx:∃ys,x=.tup ys
  ·obtain⟨ys,rfl⟩:=hx;simp[roT,T.size]
  ·rw[zEL x (fun ys e=>hx ⟨ys,e⟩)]
end
section
variable {St:Stb}{G:Gh}{w:World}{d:Nat}
theorem zHe{u:T}{cs:Array Value}{o:Nat}(hu:u.single=dL)(h:RoC St u cs o):∃v,cs[o]? =dJ v∧v.oneCell'=dL∧RoC St u #[v] 0:=by
 cases u<;>simp[T.single]at hu<;>simp only[RoC]at h ⊢
 ·obtain⟨v,h1,h2⟩:=h;exact⟨v,h1,h2,v,by simp,h2⟩
 ·exact⟨_,h.1,h.2,by simp,h.2⟩
 ·obtain⟨f,vs,h1,h2⟩:=h;exact⟨_,h1,rfl,f,vs,by simp,h2⟩
 ·obtain⟨a,c,h1,h2⟩:=h;exact⟨_,h1,rfl,a,c,by simp,h2⟩
 ·obtain⟨b,o',cs',e,fr,h1,h2⟩:=h;exact⟨_,h1,rfl,b,o',cs',e,fr,by simp,h2⟩
mutual
theorem zRX:(u:T)→ ∀(cs:Array Value)(o:Nat)(p:List Nat),(∀z,G.hd d (z++p)=kZ (zEq u cs o z.reverse))→RoC St u cs o→R St G w d (roT u) p
 |.agg xs,cs,o,p,hd,h=>by
  simp only[roT,R,RoC]at h ⊢
  exact zRY xs cs o p 0 o (by simp) (fun z j x hx=>by have:=hd (z++[j]);simp only[Jg,Kd,Jq,Uy,Gt,Gb,zEq]at this;rw[Jd,this];simp[hx]) h
 |.lit v,cs,o,p,hd,h=>by
  simp only[roT,R,RoC]at h ⊢
  have:=hd [];rw[Jq,zB3 rfl]at this;rw[this];simp[Kj,h.1,zAU h.2]
 |.any,_,_,_,_,_=>by simp only[roT,R]
 |.ro _,cs,o,p,hd,h|.sl _ _,cs,o,p,hd,h|.ptr _,cs,o,p,hd,h=>by obtain⟨v,h1,h2,h3⟩:=zHe rfl h;have:=hd [];rw[Jq,zB3 rfl]at this;simp only[roT,R];rw[this];simpa[Kj,h1,zAU h2]using h3
 |.same _ _,_,_,_,_,h|.addr _ _,_,_,_,_,h|.sub _ _ _ _ _,_,_,_,_,h|.tup _,_,_,_,_,h=>by simp only[RoC]at h
theorem zRY:(xs:List T)→ ∀(cs:Array Value)(o0:Nat)(p:List Nat)(j o:Nat),o0≤o→(∀z i x,xs[i]? =dJ x→G.hd d (z++((j+i)::p))=kZ (zEq x cs (o+T.sizes (xs.take i)) z.reverse))→RoF St xs cs o→RF St G w d (roT.roTs xs) p j
 | [],_,_,_,_,_,_,_,_=>by simp only[roT.roTs,RF]
 |x::xs,cs,o0,p,j,o,ho,hd,h=>by
  simp only[roT.roTs,RF,RoF]at h ⊢
  refine⟨zRX x cs o (j::p) (fun z=>by simpa[T.sizes]using hd z 0 x (by simp)) h.1,zRY xs cs o0 p (j+1) (o+x.size) (by omega) (fun z i y hy=>?_) h.2⟩;have:=hd z (i+1) y (by simpa using hy);simp only[L5,T.sizes]at this;rw[show j+1+i=j+(i+1)from by omega,show o+x.size+T.sizes (xs.take i)=o+(x.size+T.sizes (xs.take i))from H3 ..];exact this
end
mutual
theorem zHf:(u:T)→ ∀(cs:Array Value)(o:Nat)(p:List Nat),(∀z,G.hd d (z++p)=kZ (zEq u cs o z.reverse))→RoC St u cs o→ ∀(i:Nat)(v:Value),(vals G d (roT u) p)[i]? =dJ v→cs[o+i]? =dJ v
 |.agg xs,cs,o,p,hd,h,i,v,hv=>by
  simp only[roT,vals,RoC]at h hv;exact zJc xs cs p 0 o (fun z j x hx=>by have:=hd (z++[j]);simp only[Jg,Kd,Jq,Uy,Gt,Gb,zEq]at this;rw[Jd,this];simp[hx]) h i v hv
 |.lit _,cs,o,p,hd,h,i,v,hv|.ro _,cs,o,p,hd,h,i,v,hv|.any,cs,o,p,hd,h,i,v,hv|.sl _ _,cs,o,p,hd,h,i,v,hv|.ptr _,cs,o,p,hd,h,i,v,hv=>by
  obtain⟨v',h1,h2,h3⟩:=zHe rfl h;have:=hd [];rw[Jq,zB3 rfl]at this;simp only[roT,vals]at hv;cases i with
  |zero=>
   simp at hv;rw[←hv,this];simp[Kj,h1,zAU h2]
  |succ i=>simp at hv
 |.same _ _,_,_,_,_,h,_,_,_|.addr _ _,_,_,_,_,h,_,_,_|.sub _ _ _ _ _,_,_,_,_,h,_,_,_|.tup _,_,_,_,_,h,_,_,_=>by simp only[RoC]at h
theorem zJc:(xs:List T)→ ∀(cs:Array Value)(p:List Nat)(j o:Nat),(∀z i x,xs[i]? =dJ x→G.hd d (z++((j+i)::p))=kZ (zEq x cs (o+T.sizes (xs.take i)) z.reverse))→RoF St xs cs o→ ∀(i:Nat)(v:Value),(yD G d (roT.roTs xs) p j)[i]? =dJ v→cs[o+i]? =dJ v
 | [],_,_,_,_,_,_,i,v,hv=>by simp[roT.roTs,yD]at hv
 |x::xs,cs,p,j,o,hd,h,i,v,hv=>by
  simp only[roT.roTs,yD,RoF]at h hv;have hx:∀z,G.hd d (z++(j::p))=kZ (zEq x cs o z.reverse):=fun z=>by simpa[T.sizes]using hd z 0 x (by simp)
  have gf:(vals G d (roT x) (j::p)).length=x.size:=by have hs:(roT x).size=x.size:=zEL x (fun ys e=>by subst e;simp only[RoC]at h;exact h.1);rw[wY (roT x) (j::p) (fun ys e=>by cases x<;>simp[roT]at e),hs]
  rw[Kn]at hv;split at hv
  ·exact zHf x cs o (j::p) hx h.1 i v hv
  ·have:=zJc xs cs p (j+1) (o+x.size) (fun z i y hy=>by
    have:=hd z (i+1) y (by simpa using hy);simp only[L5,T.sizes]at this;rw[show j+1+i=j+(i+1)from by omega,show o+x.size+T.sizes (xs.take i)=o+(x.size+T.sizes (xs.take i))from H3 ..];exact this) h.2 _ v hv
   rwa [gf,show o+x.size+(i-x.size)=o+i from by omega]at this
end
mutual
theorem zON:(u:T)→Top (roT u)
 |.agg xs=>by simp only[roT,Top];exact zLw xs
 |.lit _|.any|.sl _ _|.ptr _|.ro _|.same _ _|.addr _ _|.sub _ _ _ _ _|.tup _=>by simp[roT,Top]
theorem zLw:(xs:List T)→uF (roT.roTs xs)
 | []=>by simp only[roT.roTs,uF]
 |x::xs=>by simp only[roT.roTs,uF];exact⟨zON x,zLw xs⟩
end
end
section
variable {P:Program}{Γ:Ctx}{E:Env}{o:Oper}{d:Nat}
theorem zOO{G:Gh}{w:World}(hm:Mem Γ G w){b:Nat}{cs:Array Value}{e:TypeId}{fr:Nat×Nat}(h:Γ.St b=dJ (.cells cs e fr))(i:Nat):w.cell? ⟨b,i,dK⟩=cs[i]?:=by simp[World.cell?,hm.st b _ h]
theorem zN3(x:Operand)(T':TypeId)(ds:TypeDesc)(ti:TypeInfo)(u:T)(ho:o.op=.load T' x)(gc:o.dst=dJ d)(hd:d<Γ.N)
  (hT:P.underlying T'=dJ ds)(hi:P.info? T'=dJ ti)(ff:zF8 ds= !u.single)(gB:ti.size=u.size)
  (hx:opT E x=dJ (.ro (.ptr u))):xT P Γ o E (E.app [(d,dJ (roT u))] [(d,0)]):=by
 refine xT.value gc fun a w G g9=>?_
 have h1:=zN2 g9 hx;simp only[RoC]at h1;obtain⟨b,o',cs',e,fr,h2,h3,h4⟩:=h1;have fM:a.eval x=.pointer (dJ ⟨b,o',dK⟩):=by simpa using h2
 have gZ:∀xs,u≠.tup xs:=by rintro xs rfl;simp only[RoC]at h4
 let f:List Nat→Value:=fun z=>kZ (zEq u cs' o' z.reverse)
 have hz:∀z,(G.put d f).hd d (z++[])=kZ (zEq u cs' o' z.reverse):=fun z=>by rw[Gh.put_self,Jb]
 refine⟨mkV (G.put d f) d (roT u) [],w,?_,_,vE g9 rfl hd f (fun z=>zBP _) _ _ rfl (zRX u cs' o' [] hz h4) (zON u)⟩;cases u with
 |agg xs=>
  have h5:∀j v,(yD (G.put d f) d (roT.roTs xs) [] 0)[j]? =dJ v→w.cell? ((⟨b,o',dK⟩:Addr).add j)=dJ v:=by intro j v hv;rw[uB,zOO g9.mem h3];exact zHf (.agg xs) cs' o' [] hz h4 j v (by simpa only[roT,vals]using hv)
  have h6:=run_loadCells_list (P:=P) (w:=w) ⟨b,o',dK⟩ _ h5;rw[xZ,zF9]at h6;simp only[T.size]at gB;simp[T.single]at ff;simp[execOp,ho,fM,Instr.loadAt,tZ,loadVar,kY hT,ff,sizeOf,typeInfo,hi,gB,h6,mkV,roT]
 |tup xs=>exact absurd rfl (gZ xs)
 |_=>
  obtain⟨v,h5,h6,h7⟩:=zHe rfl h4;have h8:w.cell? ⟨b,o',dK⟩=dJ v:=by rw[zOO g9.mem h3];exact h5
  simp[T.single]at ff;have h9:f []=v:=by show kZ (zEq _ cs' o' _)=v;rw[zB3 rfl];simp[Kj,h5,zAU h6]
  simp[execOp,ho,fM,Instr.loadAt,tZ,loadVar,kY hT,ff,load,Sem.run,h8,mkV,roT,Gh.put_self,h9]
def zGq(E:Env)(x:Operand):Bool:=
 match opT E x with
 |some (.addr _ _)|some (.ro (.ptr _))=>dL
 |_=>match tW E x with
  |some (_,_,.ptr _)=>dL
  |some (_,_,.ro (.ptr _))=>dL
  |_=>dM
theorem zRZ{G:Gh}{a:Act}{w:World}(g9:Rep Γ E G a.tmps w){x:Operand}(h:zGq E x=dL):∃ad,a.eval x=.pointer (dJ ad):=by
 unfold zGq at h;split at h
 ·rename_i r q hx
  cases x with
  |tmp s=>
   obtain⟨h1,h2,_⟩:=g9.ent s _ hx;simp only[R]at h2;exact⟨_,by rw[xP h1,xI rfl,h2]⟩
  |const v=>simp only[opT]at hx;split at hx<;>simp at hx
  |func f=>simp[opT]at hx
  |global g=>simp[opT]at hx
 ·rename_i u hx
  have:=zN2 g9 hx;simp only[RoC]at this;obtain⟨b,o',_,_,_,h1,_⟩:=this;exact⟨_,by simpa using h1⟩
 ·split at h
  ·rename_i hl
   obtain⟨h1,h2⟩:=jQ g9 hl rfl;simp only[R]at h1;obtain⟨b,cs,e,h3,_⟩:=h1;exact⟨_,by rw[h2,h3]⟩
  ·rename_i hl
   obtain⟨h1,h2⟩:=jQ g9 hl rfl;simp only[R,RoC]at h1;obtain⟨b,o',_,_,_,h3,_⟩:=h1;exact⟨_,by rw[h2];simpa using h3⟩
  ·cases h
theorem zZp(x:Operand)(t:T)(ho:o.op=.nilCheck x)(gc:o.dst=dJ d)(hd:d<Γ.N)(hx:opT E x=dJ t)(hp:zGq E x=dL)(ht:∀xs,t≠.tup xs)
  (gg:∀s,x=.tmp s→s≠d)(gz:T.okB [(d,0)] (tE x t)=dL):xT P Γ o E (E.app [(d,dJ (tE x t))] [(d,0)]):=by
 refine xT.value gc fun a w G g9=>?_
 obtain⟨f,hf,h1,h2⟩:=opd g9 hx ht;obtain⟨h3,h4⟩:=h1 d gg gz;obtain⟨ad,h5⟩:=zRZ g9 hp;refine⟨a.eval x,w,?_,_,vE g9 rfl hd f hf _ _ h3 h4 h2⟩;simp[execOp,ho,h5]
theorem zLx{G:Gh}{s:Nat}:(xs:List T)→ ∀(p:List Nat)(j i:Nat)(x:T),xs[i]? =dJ x→(zA1 G s xs p j)[i]? =dJ (sO G s x ((j+i)::p))
 | [],_,_,_,_,h=>by simp at h
 |y::ys,p,j,i,x,h=>by
  cases i with
  |zero=>simp at h;subst h;simp[zA1]
  |succ i=>
   have:=zLx (G:=G) (s:=s) ys p (j+1) i x (by simpa using h);rw[show j+(i+1)=j+1+i from by omega];simpa[zA1]using this
theorem zN4(s i:Nat)(ts:List T)(t:T)(ho:o.op=.extract (.tmp s) i)(gc:o.dst=dJ d)(hd:d<Γ.N)(hs:E s=dJ (.tup ts))(hi:ts[i]? =dJ t)(ht:∀xs,t≠.tup xs)
  (gg:s≠d)(gz:T.okB [(d,0)] (cpT s t [i])=dL):xT P Γ o E (E.app [(d,dJ (cpT s t [i]))] [(d,0)]):=by
 refine xT.value gc fun a w G g9=>?_
 obtain⟨h1,h2,_⟩:=g9.ent s _ hs;simp only[R]at h2;have h3:=zBD ts [] 0 i t h2 hi;simp only[Jd]at h3;have h4:=zLx (G:=G) (s:=s) ts [] 0 i t hi;simp only[Jd]at h4;have hk:=G.put_keep (w:=w) (w':=w) rfl d (fun z=>G.hd s (z++[i]));have hz:∀z,(G.put d (fun z=>G.hd s (z++[i]))).hd d (z++[])=G.hd s (z++[i]):=fun z=>by rw[Gh.put_self,Jb]
 refine⟨sO G s t [i],w,?_,_,vE g9 rfl hd (fun z=>G.hd s (z++[i])) (fun z=>g9.mem.one _ _) _ _ (zBh t [i] [] ht hz).symm
  (zEo (fun p=>G.put_other _ p gg) t [i] [] hz ht (hk.keepR (zAT _ (qW s t [i]) gz)) h3) (qW s t [i])⟩
 simp[execOp,ho,xP h1,mkV,Instr.extract,h4]
def zA3(E:Env)(x:Option Operand)(dflt n:Nat):Prop:=
 match x with
 |none=>n=dflt
 |some y=> ∃kd,opT E y=dJ (.lit (.int kd n))
theorem zHg{St:Stb}:(xs:List T)→ ∀(cs:Array Value)(o k l:Nat),RoL St xs cs o k→RoL St (xs.drop l) cs (o+l*k) k
 | [],_,_,_,_,_=>by simp[RoL]
 |x::xs,cs,o,k,l,h=>by
  cases l with
  |zero=>simpa using h
  |succ l=>
   simp only[RoL]at h;have:=zHg xs cs (o+k) k l h.2
   rwa [List.drop_succ_cons,show o+(l+1)*k=o+k+l*k from by rw[K7];omega]
theorem zHh{St:Stb}:(xs:List T)→ ∀(cs:Array Value)(o k l:Nat),RoL St xs cs o k→RoL St (xs.take l) cs o k
 | [],_,_,_,_,_=>by simp[RoL]
 |x::xs,cs,o,k,l,h=>by
  cases l with
  |zero=>simp[RoL]
  |succ l=>simp only[RoL,L5]at h ⊢;exact⟨h.1,zHh xs cs _ k l h.2⟩
theorem kD{P:Program}{G:Gh}{a:Act}{w:World}(g9:Rep Γ E G a.tmps w){x:Operand}{kd:IntKind}{n y:Nat}{c:BoundsCode}(hx:opT E x=dJ (.lit (.int kd n)))(h:n≤y):
  (Instr.sliceBound (a.eval x) y c).run P w=.ok n w:=by
 rw[(yW g9 hx).1];have:(n:Int)≤(y:Int):=by omega
 simp[Instr.sliceBound,asIntOf,this]
theorem zHi{P:Program}{G:Gh}{a:Act}{w:World}(g9:Rep Γ E G a.tmps w){lo hi:Option Operand}{l h n c:Nat}(gT:zA3 E lo 0 l)(eh:zA3 E hi n h)(h1:l≤h)(h2:h≤c):
  (Instr.sliceBounds dL n c (lo.map a.eval) (hi.map a.eval) dK).run P w=.ok (l,h,c) w:=by
 cases lo with
 |none=>
  cases hi with
  |none=>simp only[zA3]at gT eh;subst gT;subst eh;simp[Instr.sliceBounds]
  |some y=>simp only[zA3]at gT eh;obtain⟨kd,hy⟩:=eh;subst gT;simp[Instr.sliceBounds,kD g9 hy h2]
 |some x=>
  obtain⟨kd,hx⟩:=gT;cases hi with
  |none=>simp only[zA3]at eh;subst eh;simp[Instr.sliceBounds,kD g9 hx h1]
  |some y=>obtain⟨kd',hy⟩:=eh;simp[Instr.sliceBounds,kD g9 hy h2,kD g9 hx h1]
theorem zLy(x:Operand)(lo hi:Option Operand)(t e:TypeId)(ti:TypeInfo)(r:Nat)(q:List Nat)(k:Nat)(xs:List T)(l h:Nat)(ho:o.op=.slice t x lo hi dK)(gc:o.dst=dJ d)(hd:d<Γ.N)
  (ht:P.underlying t=dJ (.slice e))(he:P.info? e=dJ ti)(hk:ti.size=k)(hx:tW E x=dJ (r,q,.ro (.sl k xs)))(gT:zA3 E lo 0 l)(eh:zA3 E hi xs.length h)(h1:l≤h)(h2:h≤xs.length):
  xT P Γ o E (E.app [(d,dJ (.ro (.sl k ((xs.drop l).take (h-l)))))] [(d,0)]):=by
 refine xT.value gc fun a w G g9=>?_
 obtain⟨g1,g2⟩:=jQ g9 hx rfl;obtain⟨a',c,g4,g5,g6,g7⟩:=zD7 g1;have g8:=zHi (P:=P) g9 gT eh h1 (Hl h2 g5);have gf:((xs.drop l).take (h-l)).length=h-l:=by simp;omega
 refine⟨.slice (if c=l then a' else a'.map (·.add (l*k))) (h-l) (c-l),w,?_,_,vE g9 rfl hd (fun _=>.slice (if c=l then a' else a'.map (·.add (l*k))) (h-l) (c-l)) (fun _=>rfl) _ _ (by simp[mkV,Gh.put]) ?_ (by simp[Top])⟩
 ·simp only[execOp,ho,Qv]
  simp[Instr.sliceAt,Instr.slice,run_underlying ht,g2,g4,g8,sizeOf,typeInfo,he,hk]
 ·simp only[R,Gh.put_self,RoC]
  refine⟨_,_,by rw[gf];rfl,by omega,by omega,?_⟩;intro gg;have eD:xs≠[]:=by rintro rfl;simp at gg
  obtain⟨b,o',cs',e',fr,rfl,h3,h4⟩:=g7 eD;have gA:c≠l:=by rintro rfl;apply gg;apply Kb;omega
  exact⟨b,o'+l*k,cs',e',fr,by simp[gA,uB],h3,zHh _ _ _ _ _ (zHg _ _ _ _ _ h4)⟩
theorem zKf(x:Operand)(lo hi:Option Operand)(t e:TypeId)(ti:TypeInfo)(r:Nat)(q:List Nat)(k:Nat)(xs:List T)(l h:Nat)(ho:o.op=.slice t x lo hi dK)(gc:o.dst=dJ d)(hd:d<Γ.N)
  (ht:P.underlying t=dJ (.slice e))(he:P.info? e=dJ ti)(hk:ti.size=k)(hx:tW E x=dJ (r,q,.sl k xs))(gT:zA3 E lo 0 l)(eh:zA3 E hi xs.length h)(h1:l≤h)(h2:h≤xs.length)(gO:r≠d):
  xT P Γ o E (E.app [(d,dJ (.sub r q k l h))] [(d,0)]):=by
 refine xT.value gc fun a w G g9=>?_
 obtain⟨g1,g2⟩:=jQ g9 hx rfl;obtain⟨a',c,g4⟩:=zKe g1;have g5:xs.length≤c:=by
  simp only[R]at g1;rcases g1 with⟨rfl,_⟩|⟨b,o0,cap,cs,e,g,_,g',_⟩
  ·simp
  ·rw[g4]at g;simp at g;omega
 have g8:=zHi (P:=P) g9 gT eh h1 (Hl h2 g5);refine⟨zBN (G.hd r q) k l h,w,?_,_,vE g9 rfl hd (fun _=>zBN (G.hd r q) k l h) (fun _=>by rw[g4];rfl) _ _ (by simp[mkV,Gh.put]) ?_ (by simp[Top])⟩
 ·simp only[execOp,ho,Qv]
  simp[Instr.sliceAt,Instr.slice,run_underlying ht,g2,g4,g8,sizeOf,typeInfo,he,hk,zBN]
 ·simp only[R,Gh.put_self]
  rw[Gh.put_other _ _ _ gO]
end
end Go.Ab

namespace Go.Ab
open Go
def T.inT:T→List Nat→Bool
 |_,[]=>dL
 |.agg xs,i::f=>match xs[i]? with
  |some x=>x.inT f
  |none=>dM
 |.any,_::_|.lit _,_::_|.ro _,_::_|.same _ _,_::_|.addr _ _,_::_|.sub _ _ _ _ _,_::_|.sl _ _,_::_|.ptr _,_::_|.tup _,_::_=>dM
termination_by structural _ f=>f
def T.offT:T→List Nat→Nat
 |_,[]=>0
 |.agg xs,i::f=>match xs[i]? with
  |some x=>T.sizes (xs.take i)+x.offT f
  |none=>0
 |.any,_::_|.lit _,_::_|.ro _,_::_|.same _ _,_::_|.addr _ _,_::_|.sub _ _ _ _ _,_::_|.sl _ _,_::_|.ptr _,_::_|.tup _,_::_=>0
termination_by structural _ f=>f
theorem zHj{t:T}(h:t.single=dL){f:List Nat}(hf:f≠[]):t.inT f=dM:=by
 cases f with
 |nil=>grind
 |cons i f=>cases t<;>simp[T.single]at h<;>rfl
mutual
def zSa:T→List Nat→Nat→Option (List Nat)
 |.agg xs,p,o=>zCQ xs p 0 o
 |.any,p,o|.lit _,p,o|.ro _,p,o|.same _ _,p,o|.addr _ _,p,o|.sub _ _ _ _ _,p,o|.sl _ _,p,o|.ptr _,p,o|.tup _,p,o=>if o=0 then dJ p else dK
def zCQ:List T→List Nat→Nat→Nat→Option (List Nat)
 | [],_,_,_=>dK
 |x::xs,p,j,o=>if o<x.size then zSa x (j::p) o else zCQ xs p (j+1) (o-x.size)
end
mutual
def T.okTup:T→Bool
 |.tup _=>dM
 |.agg xs=>yJ xs
 |.any|.lit _|.ro _|.same _ _|.addr _ _|.sub _ _ _ _ _|.sl _ _|.ptr _=>dL
def yJ:List T→Bool
 | []=>dL
 |x::xs=>x.okTup&&yJ xs
end
theorem zEr:(xs:List T)→ ∀(p:List Nat)(j o:Nat),T.sizes xs≤o→zCQ xs p j o=dK
 | [],_,_,_,_=>by rfl
 |x::xs,p,j,o,h=>by simp only[T.sizes]at h;simp only[zCQ];rw[if_neg (by omega)];exact zEr xs p (j+1) _ (by omega)
section
variable {G:Gh}{w:World}{d:Nat}
mutual
theorem zZq:(x:T)→ ∀(p:List Nat)(B o:Nat),(∀xs,x≠.tup xs)→x.okTup=dL→
  (∀f,x.inT f=dL→G.ad d (f.reverse++p)=⟨B,o+x.offT f,dK⟩)→(∀j p',j<x.size→zSa x p j=dJ p'→G.lb B (o+j)=dJ (dM,d,p'))→
  (∀j v,(vals G d x p)[j]? =dJ v→yL w B (o+j)=dJ v)→Loc G w d x p B o
 |.agg xs,p,B,o,_,hn,ha,hl,hc=>by
  simp only[Loc];refine⟨by simpa[T.offT]using ha [] rfl,zGK xs p 0 B o (by grind[T.okTup]) (fun i x hx f hf=>?_) (fun j p' hj hp=>?_) (by grind[vals])⟩
  ·have:=ha (i::f) (by grind[T.inT])
   grind[T.offT]
  grind[T.size,zSa]
 |.any,p,B,o,_,_,ha,hl,hc|.lit _,p,B,o,_,_,ha,hl,hc|.ro _,p,B,o,_,_,ha,hl,hc|.same _ _,p,B,o,_,_,ha,hl,hc|.addr _ _,p,B,o,_,_,ha,hl,hc|.sub _ _ _ _ _,p,B,o,_,_,ha,hl,hc|.sl _ _,p,B,o,_,_,ha,hl,hc|.ptr _,p,B,o,_,_,ha,hl,hc=>by simp only[Loc];exact⟨by simpa[T.offT]using ha [] rfl,by simpa using hl 0 p (by simp[T.size]) (by rfl),by simpa using hc 0 (G.hd d p) (by simp[vals])⟩
 |.tup xs,_,_,_,h,_,_,_,_=>absurd rfl (h xs)
theorem zGK:(xs:List T)→ ∀(p:List Nat)(j B o:Nat),yJ xs=dL→
  (∀i x,xs[i]? =dJ x→ ∀f,x.inT f=dL→G.ad d (f.reverse++((j+i)::p))=⟨B,o+(T.sizes (xs.take i)+x.offT f),dK⟩)→
  (∀i p',i<T.sizes xs→zCQ xs p j i=dJ p'→G.lb B (o+i)=dJ (dM,d,p'))→
  (∀i v,(yD G d xs p j)[i]? =dJ v→yL w B (o+i)=dJ v)→vB G w d xs p j B o
 | [],_,_,_,_,_,_,_,_=>by simp only[vB]
 |x::xs,p,j,B,o,hn,ha,hl,hc=>by
  simp only[yJ,J2]at hn;have gZ:∀ys,x≠.tup ys:=by rintro ys rfl;grind[T.okTup]
  simp only[vB];refine⟨zZq x (j::p) B o gZ hn.1 (fun f hf=>by simpa[T.sizes]using ha 0 x (by simp) f hf) (fun i p' hi hp=>hl i p' (by grind[T.sizes]) (by simp only[zCQ,hi,if_true];exact hp)) (fun i v hv=>hc i v ?_),
   zGK xs p (j+1) B (o+x.size) hn.2 (fun i y hy f hf=>?_) (fun i p' hi hp=>?_) (fun i v hv=>?_)⟩
  ·grind[yD]
  ·have:=ha (i+1) y (by grind) f hf
   grind[T.sizes]
  ·have:=hl (x.size+i) p' (by grind[T.sizes]) (by simp only[zCQ];grind)
   grind
  ·have:=hc (x.size+i) v (by
    grind[yD,wY])
   grind
end
end
structure MvC (G:Gh) (w:World) (G':Gh) (w':World) (s:Nat) (p:List Nat) (s':Nat) (p':List Nat) (t:T):Prop where
 hd:∀z,G'.hd s' (z++p')=G.hd s (z++p)
 ad:∀z,t.inT z.reverse=dM→G'.ad s' (z++p')=G.ad s (z++p)
 lb:∀b o f z,(f=dL∨t.inT z.reverse=dM)→G.lb b o=dJ (f,s,z++p)→G'.lb b o=dJ (f,s',z++p')∧yL w' b o=yL w b o
 ow:∀b z,G.ow b=dJ (s,z++p)→G'.ow b=dJ (s',z++p')
 blk:Blk w w'
section
variable {St:Stb}{G:Gh}{w:World}{G':Gh}{w':World}{s:Nat}{s':Nat}
theorem MvC.moves{p p':List Nat}{t:T}(h:MvC G w G' w' s p s' p' t)(ht:t.single=dL):zIZ G w G' w' s p s' p' where
 hd:=h.hd
 ad z hz:=h.ad z (zHj ht (by simp_all))
 lb b o f z hz _ hl:=h.lb b o f z (.inr (zHj ht (by simp_all))) hl
 ow b z _ hl:=h.ow b z hl
 blk:=h.blk
 sp b o _ hl:=by simpa using h.lb b o dL [] (.inl rfl) (by grind)
 ow0 b hl:=by simpa using h.ow b [] (by grind)
theorem MvC.field{p p':List Nat}{xs:List T}(h:MvC G w G' w' s p s' p' (.agg xs)){j:Nat}{x:T}(hx:xs[j]? =dJ x):MvC G w G' w' s (j::p) s' (j::p') x where
 hd z:=by have:=h.hd (z++[j]);grind
 ad z hz:=by
  have:=h.ad (z++[j]) (by grind[T.inT])
  grind
 lb b o f z hf hl:=by
  have:=h.lb b o f (z++[j]) (by grind[T.inT]) (by grind)
  grind
 ow b z hl:=by
  have:=h.ow b (z++[j]) (by grind)
  grind
 blk:=h.blk
mutual
theorem zLz:(t:T)→ ∀(p p':List Nat),t.okTup=dL→MvC G w G' w' s p s' p' t→yR (zAO G G') t→R St G w s t p→R St G' w' s' t p'
 |.agg xs,p,p',hn,h,hk,hr=>by
  simp only[R,yR,T.okTup]at hr hk hn ⊢
  exact zSb xs p p' 0 hn (fun j x hx=>by rw[Jd];exact h.field hx) hk hr
 |.any,p,p',_,h,hk,hr|.lit _,p,p',_,h,hk,hr|.ro _,p,p',_,h,hk,hr|.same _ _,p,p',_,h,hk,hr|.addr _ _,p,p',_,h,hk,hr|.sub _ _ _ _ _,p,p',_,h,hk,hr|.sl _ _,p,p',_,h,hk,hr|.ptr _,p,p',_,h,hk,hr=>
  zAS (h.moves rfl) _ hk hr
 |.tup _,_,_,hn,_,_,_=>by grind[T.okTup]
theorem zSb:(xs:List T)→ ∀(p p':List Nat)(j:Nat),yJ xs=dL→(∀i x,xs[i]? =dJ x→MvC G w G' w' s ((j+i)::p) s' ((j+i)::p') x)→xH (zAO G G') xs→RF St G w s xs p j→RF St G' w' s' xs p' j
 | [],_,_,_,_,_,_,_=>by simp only[RF]
 |x::xs,p,p',j,hn,h,hk,hr=>by
  simp only[RF,xH,yJ,J2]at hr hk hn ⊢
  exact⟨zLz x (j::p) (j::p') hn.1 (by simpa using h 0 x (by simp)) hk.1 hr.1,zSb xs p p' (j+1) hn.2 (fun i y hy=>by
   have:=h (i+1) y (by grind)
   grind) hk.2 hr.2⟩
end
end
theorem zOP{St:Stb}{G:Gh}{w:World}{s:Nat}:(xs:List T)→ ∀(p:List Nat)(j:Nat),(∀i x,xs[i]? =dJ x→R St G w s x ((j+i)::p))→RF St G w s xs p j
 | [],_,_,_=>by simp only[RF]
 |x::xs,p,j,h=>by
  simp only[RF];exact⟨by simpa using h 0 x (by simp),zOP xs p (j+1) (fun i y hy=>by
   have:=h (i+1) y (by grind)
   grind)⟩
theorem zSc{St:Stb}{G:Gh}{w:World}{s:Nat}{k:Nat}:(xs:List T)→ ∀(p:List Nat)(j b o:Nat),(∀x∈xs,x.size=k)→vB G w s xs p j b o→RF St G w s xs p j→RL St G w s xs p j b o k
 | [],_,_,_,_,_,_,_=>by simp only[RL]
 |x::xs,p,j,b,o,hk,hl,hr=>by
  simp only[RL,vB,RF]at hl hr ⊢
  have h1:=hk x (by simp);exact⟨⟨hl.1,h1⟩,hr.1,zSc xs p (j+1) b (o+k) (by grind) (by grind) hr.2⟩
theorem wF{k:Nat}:(xs:List T)→(∀x∈xs,x.size=k)→T.sizes xs=xs.length*k
 | [],_=>by simp[T.sizes]
 |x::xs,h=>by simp[T.sizes,wF xs (fun y hy=>h y (by simp[hy])),h x (by simp),K7];omega
def Gh.nb(G:Gh)(d B:Nat)(xs:List T)(src:Nat→Option (Nat×List Nat))(φ:Nat→List Nat→Option (List Nat))(f:Nat→List Nat→Value)(gW:Value):Gh where
 hd s z:=if s=d then(match z.getLast? with
  |some i=>f i z.dropLast
  |none=>gW)else G.hd s z
 ad s z:=if s=d then(if(T.agg xs).inT z.reverse then⟨B,(T.agg xs).offT z.reverse,dK⟩else match z.getLast? with
  |some i=>(match src i with
   |some (x,q)=>G.ad x (z.dropLast++q)
   |none=>default)
  |none=>default)else G.ad s z
 lb b o:=if b=B then dJ (match zCQ xs [] 0 o with
  |some p=>(dM,d,p)
  |none=>(dL,d,[]))else match G.lb b o with
  |some (fl,s,z)=>(match φ s z with
   |some z'=>dJ (fl,d,z')
   |none=>dJ (fl,s,z))
  |none=>dK
 ow b:=if b=B then dJ (d,[])else match G.ow b with
  |some (s,z)=>(match φ s z with
   |some z'=>dJ (d,z')
   |none=>dJ (s,z))
  |none=>dK
theorem zD8{Γ:Ctx}{G:Gh}{w w':World}(hm:Mem Γ G w){cells:Array Value}{e:TypeId}(hw:w'.heap=w.heap.push (.cells cells e))(d:Nat)(xs:List T)
  (src:Nat→Option (Nat×List Nat))(φ:Nat→List Nat→Option (List Nat))(f:Nat→List Nat→Value)(gW:Value)(chg:Chg)
  (gz:yJ xs=dL)(hf:∀(i:Nat)(z:List Nat),(f i z).oneCell'=dL)(hh:gW.oneCell'=dL)
  (hφ:∀(i:Nat) u x q(z:List Nat),xs[i]? =dJ u→src i=dJ (x,q)→φ x (z++q)=dJ (z++[i]))
  (aA:∀(i:Nat) u x q,xs[i]? =dJ u→src i=dJ (x,q)→(∀z,f i z=G.hd x (z++q))∧R Γ.St G w x u q∧zW u∧x≠d)
  (bH:∀(i:Nat) u,xs[i]? =dJ u→src i=dK→ ∀(G2:Gh)(w2:World),(∀z,G2.hd d (z++[i])=f i z)→R Γ.St G2 w2 d u [i])
  (fK:∀(G2:Gh),(∀i z,G2.hd d (z++[i])=f i z)→ ∀(o:Nat)(v:Value),(yD G2 d xs [] 0)[o]? =dJ v→cells[o]? =dJ v)
  (t7:∀s p,(∀n,(s,n)∉(d,0)::chg)→φ s p=dK)(ho:w'.os=w.os:=by rfl)(hq:w'.output=w.output:=by rfl):
  kR ((d,0)::chg) G w (G.nb d w.heap.size xs src φ f gW) w'∧Mem Γ (G.nb d w.heap.size xs src φ f gW) w'∧
  vB (G.nb d w.heap.size xs src φ f gW) w' d xs [] 0 w.heap.size 0∧RF Γ.St (G.nb d w.heap.size xs src φ f gW) w' d xs [] 0∧
  w'.heap[w.heap.size]? =dJ (.cells cells e):=by
 have er:w'.heap[w.heap.size]? =dJ (.cells cells e):=by grind
 have gE:∀b,b<w.heap.size→w'.heap[b]? =w.heap[b]?:=fun b hb=>by rw[hw,Array.getElem?_push];grind
 have gB:w'.heap.size=w.heap.size+1:=by grind
 have eV:∀b o,b<w.heap.size→yL w' b o=yL w b o:=fun b o hb=>by simp[yL,World.cell?,gE b hb]
 have gK:Blk w w':=fun b cs e' h=>⟨cs,by rw[gE b (by grind)];exact h,rfl⟩
 have gm:=hm.one
 generalize gk:G.nb d w.heap.size xs src φ f gW=G'
 have ghd:∀i z,G'.hd d (z++[i])=f i z:=fun i z=>by rw[←gk];simp[Gh.nb]
 have gad:∀g,(T.agg xs).inT g=dL→G'.ad d g.reverse=⟨w.heap.size,(T.agg xs).offT g,dK⟩:=fun g hg=>by rw[←gk];simp[Gh.nb,hg]
 have gadm:∀i x q z,src i=dJ (x,q)→(T.agg xs).inT (i::z.reverse)=dM→G'.ad d (z++[i])=G.ad x (z++q):=fun i x q z hs gJ=>by rw[←gk];simp[Gh.nb,gJ,hs]
 have glb:∀o p,zCQ xs [] 0 o=dJ p→G'.lb w.heap.size o=dJ (dM,d,p):=fun o p h=>by rw[←gk];simp[Gh.nb,h]
 have glbm:∀b o fl x z z',G.lb b o=dJ (fl,x,z)→φ x z=dJ z'→G'.lb b o=dJ (fl,d,z'):=fun b o fl x z z' h1 h2=>by have:=(hm.lb b o _ h1).1;rw[←gk];simp[Gh.nb,h1,h2,show b≠w.heap.size from by omega]
 have gowm:∀b x z z',G.ow b=dJ (x,z)→φ x z=dJ z'→G'.ow b=dJ (d,z'):=fun b x z z' h1 h2=>by have:=(hm.ow b _ h1).1;rw[←gk];simp[Gh.nb,h1,h2,show b≠w.heap.size from by omega]
 have gg:∀s p,Off ((d,0)::chg) s p→s≠d:=fun s p h e=>absurd (h 0 (by simp[e])) (by simp)
 have gu:kR ((d,0)::chg) G w G' w':=by
  refine⟨fun s p h=>?_,fun s p h=>?_,fun b o fl s p _ hl h=>⟨?_,eV b o (hm.lb b o _ hl).1⟩,fun b s p hl h=>?_,gK⟩
  ·rw[←gk];simp[Gh.nb,gg s p h]
  ·rw[←gk];simp[Gh.nb,gg s p h]
  ·have:=(hm.lb b o _ hl).1
   rw[←gk];simp[Gh.nb,hl,t7 s p h,show b≠w.heap.size from by omega]
  ·have:=(hm.ow b _ hl).1
   rw[←gk];simp[Gh.nb,hl,t7 s p h,show b≠w.heap.size from by omega]
 refine⟨gu,?_,?_,?_,er⟩
 ·
  have hB:zCN Γ w' w.heap.size:=⟨by omega,.inl hm.sz,by
   cases gG:Γ.St w.heap.size with
   |none=>rfl
   |some x=>have:=hm.st _ x gG;simp at this⟩
  have fd:∀b,zCN Γ w b→zCN Γ w' b:=fun b h=>⟨by have:=h.1;omega,h.2⟩
  refine⟨fun s p=>?_,fun b o l hl=>?_,fun b l hl=>?_,fun b x hx=>?_,fun b h1 h2=>?_,by have:=hm.sz;omega,hm.bk.trans gK ho hq⟩
  ·rw[←gk]
   simp only[Gh.nb];split
   ·split
    ·exact hf _ _
    ·exact hh
   ·exact gm s p
  ·rw[←gk]at hl
   simp only[Gh.nb]at hl;split at hl
   ·grind
   ·split at hl
    ·rename_i hg;exact fd b (hm.lb b o _ hg)
    ·cases hl
  ·rw[←gk]at hl
   simp only[Gh.nb]at hl;split at hl
   ·grind
   ·split at hl
    ·rename_i hg;exact fd b (hm.ow b _ hg)
    ·cases hl
  ·have:=hm.st b x hx
   rw[gE b (Ht.1 this).1];exact this
  ·rw[gE b (Qe h1 hm.sz)]
   exact hm.fr b h1 h2
 ·
  refine zGK xs [] 0 w.heap.size 0 gz (fun i x hx g hg=>?_) (fun i p' _ hp=>by simpa using glb i p' hp) (fun i v hv=>?_)
  ·have:=gad (i::g) (by simp only[T.inT,hx];exact hg)
   simpa[T.offT,hx]using this
  ·have:=fK G' ghd i v hv
   rw[Jd];simp[yL,World.cell?,er,this]
 ·
  refine zOP xs [] 0 (fun i u hu=>?_);rw[Jd];cases hs:src i with
  |none=>exact bH i u hu hs G' w' (fun z=>ghd i z)
  |some xq=>
   obtain⟨x,q⟩:=xq;obtain⟨h1,h2,h3,h4⟩:=aA i u x q hu hs;have gJ:∀g,(T.agg xs).inT (i::g)=u.inT g:=fun g=>by simp only[T.inT,hu]
   refine zLz u q [i] (okTups_get xs gz i u hu) ⟨fun z=>by rw[ghd,h1],fun z hz=>gadm i x q z hs (by rw[gJ];exact hz),fun b o fl z hz hl=>⟨glbm b o fl x _ _ hl (hφ i u x q z hu hs),eV b o (hm.lb b o _ hl).1⟩,
    fun b z hl=>gowm b x _ _ hl (hφ i u x q z hu hs),gK⟩ (yR.mono (by simp) u h3) h2
where okTups_get:(xs:List T)→yJ xs=dL→ ∀(i:Nat)(x:T),xs[i]? =dJ x→x.okTup=dL
 | [],_,_,_,h=>by simp at h
 |y::ys,hk,i,x,h=>by
  simp only[yJ,J2]at hk;cases i with
  |zero=>grind
  |succ i=>exact okTups_get ys hk.2 i x (by grind)
end Go.Ab

namespace Go.Ab
open Go
inductive yM where
 |slot (s:Nat) (t:T)
 |zero (u:T)
def yM.tree:yM→T
 |.slot _ t=>t
 |.zero u=>u
def sP:T→Bool
 |.lit _|.ro _=>dM
 |_=>dL
mutual
def T.zOk:T→Bool
 |.lit v=>v.oneCell'
 |.sl _ xs=>xs.isEmpty
 |.agg xs=>zAV xs
 |.any|.ro _|.same _ _|.addr _ _|.sub _ _ _ _ _|.ptr _|.tup _=>dM
def zAV:List T→Bool
 | []=>dL
 |x::xs=>x.zOk&&zAV xs
end
def zhd:T→List Nat→Value
 |.agg xs,i::f=>match xs[i]? with
  |some x=>zhd x f
  |none=>.bool dM
 |.lit v,_=>v
 |.sl _ _,_=>.slice dK 0 0
 |.agg _,[] |.any,_|.ro _,_|.same _ _,_|.addr _ _,_|.sub _ _ _ _ _,_|.ptr _,_|.tup _,_=>.bool dM
termination_by structural _ f=>f
mutual
def sE:T→List Value
 |.lit v=>[v]
 |.sl _ _=>[.slice dK 0 0]
 |.agg xs=>qH xs
 |.any|.ro _|.same _ _|.addr _ _|.sub _ _ _ _ _|.ptr _|.tup _=>[]
def qH:List T→List Value
 | []=>[]
 |x::xs=>sE x++qH xs
end
section
variable {St:Stb}{G:Gh}{w:World}{d:Nat}
mutual
theorem zKg:(u:T)→ ∀(p:List Nat),u.zOk=dL→(∀z,G.hd d (z++p)=kZ (zhd u z.reverse))→R St G w d u p
 |.lit v,p,h,hd=>by
  simp only[T.zOk,R]at h ⊢
  have:=hd [];rw[Jq]at this;rw[this];exact zAU h
 |.sl k xs,p,h,hd=>by simp only[T.zOk,Qr]at h;subst h;have:=hd [];rw[Jq]at this;simp only[R];exact .inl ⟨trivial,dK,by rw[this];rfl⟩
 |.agg xs,p,h,hd=>by
  simp only[T.zOk,R]at h ⊢
  exact zOQ xs p 0 h (fun i x hx z=>by
   rw[Jd];have:=hd (z++[i])
   grind[zhd])
 |.any,_,h,_|.ro _,_,h,_|.same _ _,_,h,_|.addr _ _,_,h,_|.sub _ _ _ _ _,_,h,_|.ptr _,_,h,_|.tup _,_,h,_=>by grind[T.zOk]
theorem zOQ:(xs:List T)→ ∀(p:List Nat)(j:Nat),zAV xs=dL→(∀i x,xs[i]? =dJ x→ ∀z,G.hd d (z++((j+i)::p))=kZ (zhd x z.reverse))→RF St G w d xs p j
 | [],_,_,_,_=>by simp only[RF]
 |x::xs,p,j,h,hd=>by
  simp only[zAV,J2,RF]at h ⊢
  exact⟨zKg x (j::p) h.1 (by simpa using hd 0 x (by simp)),zOQ xs p (j+1) h.2 (fun i y hy z=>by
   have:=hd (i+1) y (by grind) z
   grind)⟩
end
end
section
variable {G:Gh}{d:Nat}
mutual
theorem zFA:(u:T)→ ∀(p:List Nat),u.zOk=dL→(∀z,G.hd d (z++p)=kZ (zhd u z.reverse))→vals G d u p=sE u
 |.lit v,p,h,hd=>by
  simp only[T.zOk,vals,sE]at h ⊢
  have:=hd []
  grind[zhd,zAU]
 |.sl k xs,p,h,hd=>by
  have:=hd []
  grind[vals,sE,zhd,kZ,Value.oneCell']
 |.agg xs,p,h,hd=>by
  simp only[T.zOk,vals,sE]at h ⊢
  exact zEs xs p 0 h (fun i x hx z=>by
   rw[Jd];have:=hd (z++[i])
   grind[zhd])
 |.any,_,h,_|.ro _,_,h,_|.same _ _,_,h,_|.addr _ _,_,h,_|.sub _ _ _ _ _,_,h,_|.ptr _,_,h,_|.tup _,_,h,_=>by grind[T.zOk]
theorem zEs:(xs:List T)→ ∀(p:List Nat)(j:Nat),zAV xs=dL→(∀i x,xs[i]? =dJ x→ ∀z,G.hd d (z++((j+i)::p))=kZ (zhd x z.reverse))→yD G d xs p j=qH xs
 | [],_,_,_,_=>by rfl
 |x::xs,p,j,h,hd=>by
  simp only[zAV,J2,yD,qH]at h ⊢
  rw[zFA x (j::p) h.1 (by simpa using hd 0 x (by simp)),zEs xs p (j+1) h.2 (fun i y hy z=>by
   have:=hd (i+1) y (by grind) z
   grind)]
end
end
mutual
theorem zBQ:(u:T)→u.zOk=dL→zW u∧u.okTup=dL
 |.lit _,_=>by simp[zW,yR,T.okTup]
 |.sl _ xs,h=>by simp only[T.zOk,Qr]at h;subst h;simp[zW,yR,xH,T.okTup]
 |.agg xs,h=>by simp only[T.zOk]at h;simpa only[zW,yR,T.okTup]using zCn xs h
 |.any,h|.ro _,h|.same _ _,h|.addr _ _,h|.sub _ _ _ _ _,h|.ptr _,h|.tup _,h=>by grind[T.zOk]
theorem zCn:(xs:List T)→zAV xs=dL→yT xs∧yJ xs=dL
 | [],_=>by simp[yT,xH,yJ]
 |x::xs,h=>by simp only[zAV,J2]at h;simp only[yT,xH,yJ,J2];exact⟨⟨(zBQ x h.1).1,(zCn xs h.2).1⟩,(zBQ x h.1).2,(zCn xs h.2).2⟩
end
mutual
theorem vF:(u:T)→u.zOk=dL→(sE u).length=u.size
 |.lit _,_|.sl _ _,_=>by rfl
 |.agg xs,h=>by simp only[T.zOk]at h;simp only[sE,T.size];exact zBE xs h
 |.any,h|.ro _,h|.same _ _,h|.addr _ _,h|.sub _ _ _ _ _,h|.ptr _,h|.tup _,h=>by grind[T.zOk]
theorem zBE:(xs:List T)→zAV xs=dL→(qH xs).length=T.sizes xs
 | [],_=>by rfl
 |x::xs,h=>by simp only[zAV,J2]at h;simp only[qH,J5,T.sizes,vF x h.1,zBE xs h.2]
end
def zHk(ps:List yM)(i:Nat):Option (Nat×List Nat):=
 match ps[i]? with
 |some (.slot s t)=>if sP t then dJ (s,[])else dK
 |_=>dK
def zID:List yM→Nat→Nat→Option Nat
 | [],_,_=>dK
 |.slot x t::r,i,s=>if sP t&&x==s then dJ i else zID r (i+1) s
 |.zero _::r,i,s=>zID r (i+1) s
def zIE(ps:List yM)(s:Nat)(z:List Nat):Option (List Nat):=
 match zID ps 0 s with
 |some i=>dJ (z++[i])
 |none=>dK
def pWr(d:Nat):List yM→Nat→Wr
 | [],_=>[]
 |.slot s t::r,i=>if sP t then(s,dJ (cpT d t [i]))::pWr d r (i+1)else pWr d r (i+1)
 |.zero _::r,i=>pWr d r (i+1)
def xF:List yM→List Nat
 | []=>[]
 |.slot s t::r=>if sP t then s::xF r else xF r
 |.zero _::r=>xF r
def sQ(ps:List yM):Chg:=(xF ps).map fun s=>(s,1)
def qG(G:Gh):yM→List Value
 |.slot s t=>vals G s t []
 |.zero u=>sE u
def pHd(G:Gh)(ps:List yM)(i:Nat)(z:List Nat):Value:=
 match ps[i]? with
 |some (.slot s _)=>G.hd s z
 |some (.zero u)=>kZ (zhd u z.reverse)
 |none=>.bool dM
structure tR (E:Env) (d:Nat) (ps:List yM):Prop where
 slot:∀s t,yM.slot s t∈ps→E s=dJ t∧zW t∧t.okTup=dL
 zero:∀u,yM.zero u∈ps→u.zOk=dL
 dist:(d::xF ps).Nodup
theorem zBR:(ps:List yM)→ ∀(i0 i s:Nat)(t:T),ps[i]? =dJ (.slot s t)→sP t=dL→(xF ps).Nodup→zID ps i0 s=dJ (i0+i)
 | [],_,_,_,_,h,_,_=>by simp at h
 |.slot x u::r,i0,i,s,t,h,hm,hn=>by
  cases i with
  |zero=>simp at h;obtain⟨rfl,rfl⟩:=h;simp[zID,hm]
  |succ i=>
   simp only[Qy]at h;have gJ:s∈xF r:=pSlots_mem r i s t h hm;simp only[zID]
   by_cases hu:sP u=dL
   ·simp only[xF,hu,if_true,Kx]at hn
    have:x≠s:=by grind
    simp only[hu,Jao,beq_iff_eq,this,if_false];rw[zBR r (i0+1) i s t h hm hn.2]
    grind
   ·simp only[xF,hu]at hn
    simp only[hu,Ja4,Hg,if_false];rw[zBR r (i0+1) i s t h hm (by grind)]
    grind
 |.zero u::r,i0,i,s,t,h,hm,hn=>by
  cases i with
  |zero=>simp at h
  |succ i=>
   simp only[Qy]at h;simp only[zID];rw[zBR r (i0+1) i s t h hm (by grind[xF])]
   grind
where pSlots_mem:(ps:List yM)→ ∀(i s:Nat)(t:T),ps[i]? =dJ (.slot s t)→sP t=dL→s∈xF ps
 | [],_,_,_,h,_=>by simp at h
 |.slot x u::r,i,s,t,h,hm=>by
  cases i with
  |zero=>simp at h;obtain⟨rfl,rfl⟩:=h;simp[xF,hm]
  |succ i=>
   have:=pSlots_mem r i s t (by grind) hm
   grind[xF]
 |.zero u::r,i,s,t,h,hm=>by
  cases i with
  |zero=>simp at h
  |succ i=>simpa only[xF]using pSlots_mem r i s t (by grind) hm
theorem zD9:(ps:List yM)→ ∀(i0 s:Nat),s∉xF ps→zID ps i0 s=dK
 | [],_,_,_=>by rfl
 |.slot x u::r,i0,s,h=>by
  simp only[zID]
  by_cases hu:sP u=dL
  ·simp only[xF,hu,if_true,J9,not_or]at h
   simp only[hu,Jao,beq_iff_eq,Ne.symm h.1,if_false];exact zD9 r _ s h.2
  ·simp only[xF,hu]at h
   simp only[hu,Ja4,Hg,if_false];exact zD9 r _ s (by grind)
 |.zero u::r,i0,s,h=>by simp only[zID];exact zD9 r _ s (by grind[xF])
theorem zCR:(ps:List yM)→ ∀(d i0 s:Nat)(x:Option T),(pWr d ps i0).find s=dJ x→ ∃i t,ps[i]? =dJ (.slot s t)∧sP t=dL∧x=dJ (cpT d t [i0+i])
 | [],_,_,_,_,h=>by grind[pWr,Wr.find]
 |.slot y u::r,d,i0,s,x,h=>by
  simp only[pWr]at h;split at h
  ·rename_i hu
   simp only[Wr.find]at h;split at h
   ·rename_i he;subst he;simp at h;exact⟨0,u,by simp,hu,by grind⟩
   ·obtain⟨i,t,h1,h2,h3⟩:=zCR r d (i0+1) s x h
    exact⟨i+1,t,by grind,h2,by grind⟩
  ·obtain⟨i,t,h1,h2,h3⟩:=zCR r d (i0+1) s x h
   exact⟨i+1,t,by grind,h2,by grind⟩
 |.zero u::r,d,i0,s,x,h=>by simp only[pWr]at h;obtain⟨i,t,h1,h2,h3⟩:=zCR r d (i0+1) s x h;exact⟨i+1,t,by grind,h2,by grind⟩
theorem zCS:(ps:List yM)→ ∀(d i0 s:Nat),(pWr d ps i0).find s=dK→s∉xF ps
 | [],_,_,_,_=>by simp[xF]
 |.slot y u::r,d,i0,s,h=>by
  simp only[pWr]at h;simp only[xF];split at h
  ·rename_i hu
   simp only[Wr.find]at h;split at h
   ·cases h
   ·rename_i gg
    simp only[hu,if_true,J9,not_or];exact⟨fun e=>gg e.symm,zCS r d _ s h⟩
  ·rename_i hu
   simp only[hu];simpa using zCS r d _ s h
 |.zero u::r,d,i0,s,h=>by simp only[pWr]at h;simpa only[xF]using zCS r d _ s h
section
variable {Γ:Ctx}{E:Env}{G:Gh}{tmps:Array Value}{w:World}{d:Nat}{ps:List yM}
theorem zGr(g9:Rep Γ E G tmps w)(h:tR E d ps):
  yJ (ps.map yM.tree)=dL∧yT (ps.map yM.tree)∧(∀i z,(pHd G ps i z).oneCell'=dL)∧
  (∀(i:Nat) u x q(z:List Nat),(ps.map yM.tree)[i]? =dJ u→zHk ps i=dJ (x,q)→zIE ps x (z++q)=dJ (z++[i]))∧
  (∀(i:Nat) u x q,(ps.map yM.tree)[i]? =dJ u→zHk ps i=dJ (x,q)→(∀z,pHd G ps i z=G.hd x (z++q))∧R Γ.St G w x u q∧zW u∧x≠d)∧
  (∀(i:Nat) u,(ps.map yM.tree)[i]? =dJ u→zHk ps i=dK→ ∀(G2:Gh)(w2:World),(∀z,G2.hd d (z++[i])=pHd G ps i z)→R Γ.St G2 w2 d u [i])∧
  (∀s p,(∀n,(s,n)∉(d,0)::sQ ps)→zIE ps s p=dK):=by
 have pR:=Kx.1 h.dist;refine⟨?_,?_,?_,?_,?_,?_,?_⟩
 ·have:∀qs:List yM,(∀p∈qs,p∈ps)→yJ (qs.map yM.tree)=dL:=by
   intro qs
   induction qs with
   |nil=>intro _;rfl
   |cons q qs ih=>
    intro hq;simp only[Jt,yJ,J2];refine⟨?_,by grind⟩;cases q with
    |slot s t=>exact(h.slot s t (hq _ (by simp))).2.2
    |zero u=>exact(zBQ u (h.zero u (hq _ (by simp)))).2
  grind
 ·have:∀qs:List yM,(∀p∈qs,p∈ps)→yT (qs.map yM.tree):=by
   intro qs
   induction qs with
   |nil=>intro _;trivial
   |cons q qs ih=>
    intro hq;simp only[Jt,yT,xH];refine⟨?_,by grind⟩;cases q with
    |slot s t=>exact(h.slot s t (hq _ (by simp))).2.1
    |zero u=>exact(zBQ u (h.zero u (hq _ (by simp)))).1
  grind
 ·intro i z
  unfold pHd;split
  ·exact g9.mem.one _ _
  ·exact zBP _
  ·rfl
 ·intro i u x q z hu hs
  rw[K4]at hu;unfold zHk at hs;cases hp:ps[i]? with
  |none=>grind
  |some p=>
   cases p with
   |zero v=>grind
   |slot s t=>
    simp only[hp]at hs;split at hs
    ·rename_i hm
     simp at hs;obtain⟨rfl,rfl⟩:=hs;simp[zIE,zBR ps 0 i s t hp hm pR.2]
    ·cases hs
 ·intro i u x q hu hs
  rw[K4]at hu;unfold zHk at hs;cases hp:ps[i]? with
  |none=>grind
  |some p=>
   cases p with
   |zero v=>grind
   |slot s t=>
    simp only[hp]at hs;split at hs
    ·rename_i hm
     simp at hs;obtain⟨rfl,rfl⟩:=hs;simp[hp,yM.tree]at hu;subst hu;obtain⟨h1,h2,h3⟩:=h.slot s t (by grind);refine⟨by grind[pHd],(g9.ent s t h1).2.1,h2,fun e=>pR.1 ?_⟩
     grind[zBR.pSlots_mem]
    ·cases hs
 ·intro i u hu hs G2 w2 eJ
  rw[K4]at hu;unfold zHk at hs;cases hp:ps[i]? with
  |none=>grind
  |some p=>
   cases p with
   |zero v=>
    simp[hp,yM.tree]at hu;subst hu;exact zKg v [i] (h.zero v (by grind)) (by grind[pHd])
   |slot s t=>
    simp only[hp]at hs;split at hs
    ·cases hs
    ·rename_i hm
     simp[hp,yM.tree]at hu;subst hu;have h1:=(g9.ent s t (h.slot s t (by grind)).1).2.1;have h2:G2.hd d [i]=G.hd s []:=by have:=eJ [];grind[pHd]
     cases t<;>simp[sP]at hm<;>simp only[R]at h1 ⊢ <;>rw[h2]<;>exact h1
 ·intro s p gH
  have:s∉xF ps:=fun gJ=>gH 1 (by grind[sQ])
  grind[zIE,zD9]
theorem zEt(g9:Rep Γ E G tmps w)(h:tR E d ps)(G2:Gh):∀(qs:List yM)(i0:Nat),(∀i q,qs[i]? =dJ q→ps[i0+i]? =dJ q)→(∀i z,G2.hd d (z++[i])=pHd G ps i z)→
  yD G2 d (qs.map yM.tree) [] i0=qs.flatMap (qG G)
 | [],_,_,_=>by rfl
 |q::qs,i0,hq,eJ=>by
  have h0:ps[i0]? =dJ q:=by simpa using hq 0 q (by simp)
  have ih:=zEt g9 h G2 qs (i0+1) (fun i p hp=>by rw[show i0+1+i=i0+(i+1)from by omega];simp_all) eJ;simp only[Jt,yD,Lq,ih]
  congr 1
  cases q with
  |slot s t=>exact zB2 t [] [i0] (by grind[pHd])
  |zero u=>exact zFA u [i0] (h.zero u (by grind)) (by grind[pHd])
end
end Go.Ab

namespace Go.Ab
open Go
section
variable {P:Program}{Γ:Ctx}{E:Env}{o:Oper}{d:Nat}
theorem zJd{G G':Gh}{w':World}{s i:Nat}{t:T}{v:Option Value}(hv:v=dJ (mkV G s t []))(gZ:∀xs,t≠.tup xs)(hs:∀p,G'.hd s p=G.hd s p)(pS:∀z,G'.hd d (z++[i])=G.hd s z)
  (hr:R Γ.St G' w' d t [i]):Ent Γ G' w' v s (cpT d t [i]):=by
 have hz:∀z,G'.hd s (z++[])=G'.hd d (z++[i]):=fun z=>by rw[Jb,hs,pS]
 refine⟨?_,?_,qW d t [i]⟩
 ·rw[hv,zBh (G:=G') (G':=G') t [i] [] gZ hz,zA2 G s t [] gZ,zCl t [] [i] (fun z=>by rw[pS,Jb])]
 ·exact zEo (G:=G') (G':=G') (fun _=>rfl) t [i] [] hz gZ (yR.triv (fun _ _=>⟨rfl,rfl⟩) _) hr
theorem zBS{G:Gh}{a:Act}{w w':World}{ps:List yM}(g9:Rep Γ E G a.tmps w)(h:tR E d ps)(hd:d<Γ.N){cells:Array Value}{e:TypeId}(hw:w'.heap=w.heap.push (.cells cells e))
  (fK:∀(o:Nat)(v:Value),(ps.flatMap (qG G))[o]? =dJ v→cells[o]? =dJ v)
  (rt:T)(gW:Value)
  (eT:(∃k cap,rt=.sl k (ps.map yM.tree)∧(∀p∈ps,p.tree.size=k)∧gW=.slice (dJ ⟨w.heap.size,0,dK⟩) ps.length cap∧ps.length≤cap∧cap≤maxLen∧cells.size=cap*k)∨
   ∃p,ps=[p]∧rt=.ptr p.tree∧gW=.pointer (dJ ⟨w.heap.size,0,dK⟩)∧cells.size=p.tree.size)
  (ho:w'.os=w.os:=by rfl)(hq:w'.output=w.output:=by rfl):
  ∃G',Rep Γ (E.app ((d,dJ rt)::pWr d ps 0) ((d,0)::sQ ps)) G' (a.tmps.setIfInBounds d gW) w':=by
 obtain⟨f1,f0,f2,f3,f4,f5,f6⟩:=zGr g9 h;have hh:gW.oneCell'=dL:=by rcases eT with⟨k,cap,_,_,rfl,_⟩|⟨p,_,_,rfl,_⟩<;>rfl
 have pR:=Kx.1 h.dist;obtain⟨g1,g2,g3,g4,g5⟩:=zD8 g9.mem hw d (ps.map yM.tree) (zHk ps) (zIE ps) (pHd G ps) gW (sQ ps) f1 f2 hh f3 f4 f5
  (fun G2 eJ o v hv=>fK o v (by rw[zEt g9 h G2 ps 0 (fun i q hq=>by simpa using hq) eJ]at hv;exact hv)) f6 (ho:=ho) (hq:=hq)
 refine⟨_,vV g9 (by simp) g1 g2 ?_ ?_⟩
 ·intro s hs
  simp only[Wr.find]at hs;split at hs
  ·cases hs
  ·rename_i gg
   have hns:=zCS ps d 0 s hs;refine⟨fun n hn=>?_,by rw[Jj];simp[gg]⟩;simp only[J9,Ja1.injEq,sQ,Ji]at hn;rcases hn with⟨e1,_⟩|⟨y,hy,e1,_⟩
   ·exact gg e1.symm
   ·exact hns (e1▸hy)
 ·intro s t hs
  simp only[Wr.find]at hs;split at hs
  ·rename_i he
   subst he;simp at hs;subst hs;have cx:(G.nb d w.heap.size (ps.map yM.tree) (zHk ps) (zIE ps) (pHd G ps) gW).hd d []=gW:=by simp[Gh.nb]
   have how:(G.nb d w.heap.size (ps.map yM.tree) (zHk ps) (zIE ps) (pHd G ps) gW).ow w.heap.size=dJ (d,[]):=by simp[Gh.nb]
   refine⟨?_,?_,?_⟩
   ·rw[Jj]
    rcases eT with⟨k,cap,rfl,_⟩|⟨p,_,rfl,_⟩<;>simp[g9.size,hd,mkV,cx]
   ·rcases eT with⟨k,cap,rfl,hk,h1,h2,h3,h4⟩|⟨p,rfl,rfl,h1,h4⟩
    ·simp only[R]
     rw[cx];refine .inr ⟨w.heap.size,0,cap,cells,e,by simpa using h1,g5,by simpa using h2,h3,by omega,how,?_,zSc _ _ _ _ _ (fun x hx=>?_) g3 g4⟩
     ·intro o ho _
      have gB:T.sizes (ps.map yM.tree)=(ps.map yM.tree).length*k:=wF _ (fun x hx=>by obtain⟨p,hp,rfl⟩:=Ji.1 hx;exact hk p hp)
      simp[Gh.nb,zEr (ps.map yM.tree) [] 0 o (by omega)]
     ·obtain⟨p,hp,rfl⟩:=Ji.1 hx
      exact hk p hp
    ·simp only[R]
     rw[cx];simp only[Jt,Gp,vB,RF]at g3 g4;exact⟨w.heap.size,cells,e,h1,g5,h4,how,g3.1,g4.1⟩
   ·rcases eT with⟨k,cap,rfl,_⟩|⟨p,rfl,rfl,_⟩
    ·simp only[Top];exact f0
    ·simp only[Top];exact f0.1
  ·rename_i gg
   obtain⟨i,u,h1,h2,h3⟩:=zCR ps d 0 s _ hs;simp only[Jd]at h3;simp at h3;subst h3;obtain⟨h4,h5,h6⟩:=h.slot s u (Lj h1);have gZ:∀xs,u≠.tup xs:=by rintro xs rfl;simp[T.okTup]at h6
   have hi:(ps.map yM.tree)[i]? =dJ u:=by simp[h1,yM.tree]
   have hr:=zBD _ [] 0 i u g4 hi;simp only[Jd]at hr;refine zJd (G:=G) (by rw[Jj];simp only[gg,if_false];exact(g9.ent s u h4).1) gZ (fun p=>?_) (fun z=>?_) hr
   ·simp[Gh.nb,show s≠d from fun e=>gg e.symm]
   ·simp[Gh.nb,pHd,h1]
inductive zAF (E:Env):Operand→yM→Prop where
 |slot (s:Nat) (t:T):zAF E (.tmp s) (.slot s t)
 |zero (v:Value) (u:T) (h:sE u=v.cells.toList):zAF E (.const v) (.zero u)
theorem zBi{G:Gh}{a:Act}{w:World}{ps:List yM}(g9:Rep Γ E G a.tmps w)(h:tR E d ps){x:Operand}{p:yM}(hp:p∈ps)(hx:zAF E x p):
  (a.eval x).cells.toList=qG G p:=by
 cases hx with
 |slot s t=>
  obtain⟨h1,h2,h3⟩:=h.slot s t hp;obtain⟨h4,_,_⟩:=g9.ent s t h1;rw[xP h4];cases t with
  |agg xs=>simp[mkV,Value.cells,vals,qG]
  |tup xs=>simp[T.okTup]at h3
  |_=>
   have:=g9.mem.one s [];simp only[mkV,vals,qG]
   generalize G.hd s []=v at this
   cases v<;>simp[Value.oneCell',Value.cells]at this ⊢
 |zero v u h=>simp[Act.eval,h,qG]
def uC(E:Env):List Operand→List yM→Prop
 | [],[]=>True
 |x::xs,p::ps=>zAF E x p∧uC E xs ps
 |_,_=>False
theorem uC.length:(xs:List Operand)→(ps:List yM)→uC E xs ps→xs.length=ps.length
 | [],[],_=>rfl
 |_::xs,_::ps,h=>by simp[uC.length xs ps h.2]
 | [],_::_,h=>by simp[uC]at h
 |_::_,[],h=>by simp[uC]at h
theorem uC.mem:(xs:List Operand)→(ps:List yM)→uC E xs ps→ ∀x∈xs,∃p,p∈ps∧zAF E x p
 | [],_,_,x,hx=>by simp at hx
 |y::xs,p::ps,h,x,hx=>by
  rcases J9.1 hx with rfl|hx
  ·exact⟨p,by simp,h.1⟩
  ·obtain⟨q,hq,hxq⟩:=uC.mem xs ps h.2 x hx;exact⟨q,by simp[hq],hxq⟩
 |_::_,[],h,_,_=>by simp[uC]at h
theorem zHl{G:Gh}{a:Act}{w:World}{ps:List yM}(g9:Rep Γ E G a.tmps w)(h:tR E d ps):∀(xs:List Operand)(qs:List yM),(∀q∈qs,q∈ps)→uC E xs qs→
  ((xs.map a.eval).flatMap fun v=>v.cells.toList)=qs.flatMap (qG G)
 | [],[],_,_=>rfl
 |x::xs,q::qs,hq,hx=>by simp only[Jt,Lq,zBi g9 h (hq q (by simp)) hx.1,zHl g9 h xs qs (fun p hp=>hq p (by simp[hp])) hx.2]
 | [],_::_,_,hx=>by simp[uC]at hx
 |_::_,[],_,hx=>by simp[uC]at hx
theorem zSd(T':TypeId)(ti:TypeInfo)(z:Value)(u:T)(ho:o.op=.alloc T')(gc:o.dst=dJ d)(hd:d<Γ.N)
  (hi:P.info? T'=dJ ti)(hz:ti.zero=dJ z)(hu:u.zOk=dL)(hv:sE u=z.cells.toList)(gB:z.cells.size=u.size):
  xT P Γ o E (E.app [(d,dJ (.ptr u))] [(d,0)]):=by
 refine xT.value gc fun a w G g9=>?_
 have gU:tR E d [.zero u]:=⟨fun s t h=>by simp at h,fun v h=>by simp at h;subst h;exact hu,by simp[xF]⟩;obtain⟨G',gk⟩:=zBS (w':=w.alloc (.cells z.cells T')) g9 gU hd (cells:=z.cells) (e:=T') rfl (fun o v h=>by simpa[hv,qG]using h) (.ptr u) (.pointer (dJ ⟨w.heap.size,0,dK⟩)) (.inr ⟨.zero u,rfl,rfl,rfl,gB⟩);refine⟨_,_,?_,G',by simpa[pWr,sQ,xF]using gk⟩;simp[execOp,ho,Instr.alloc,zeroValue,typeInfo,hi,hz,newVar,newRow]
theorem zZr(T':TypeId)(x:Operand)(p:yM)(ho:o.op=.box T' x)(gc:o.dst=dJ d)(hd:d<Γ.N)(hx:zAF E x p)(gU:tR E d [p]):
  xT P Γ o E (E.app ((d,dJ (.ptr p.tree))::pWr d [p] 0) ((d,0)::sQ [p])):=by
 refine xT.value gc fun a w G g9=>?_
 have hc:=zBi g9 gU (by simp) hx;have gB:(a.eval x).cells.size=p.tree.size:=by
  rw[←Kh,hc];cases p with
  |slot s t=>
   obtain⟨_,_,h3⟩:=gU.slot s t (by simp);show(vals G s t []).length=t.size;exact wY t [] (by rintro xs rfl;simp[T.okTup]at h3)
  |zero u=>exact vF u (gU.zero u (by simp))
 obtain⟨G',gk⟩:=zBS (w':=w.alloc (.cells (a.eval x).cells T')) g9 gU hd (cells:=(a.eval x).cells) (e:=T') rfl (fun o v h=>by rw[←Ks,hc];simpa using h) (.ptr p.tree) (.pointer (dJ ⟨w.heap.size,0,dK⟩)) (.inr ⟨p,rfl,rfl,rfl,gB⟩)
 refine⟨_,_,?_,G',gk⟩;simp[execOp,ho,Instr.box,newVar,newRow]
theorem zIF(t e:TypeId)(ti:TypeInfo)(z:Value)(k n:Nat)(xs:List Operand)(ps:List yM)(ho:o.op=.buildSlice t n ((xs.zipIdx 0).map fun x=>(x.2,x.1)).toArray)(gc:o.dst=dJ d)(hd:d<Γ.N)
  (ht:P.underlying t=dJ (.slice e))(hi:P.info? e=dJ ti)(hz:ti.zero=dJ z)(hk:ti.size=k)(eA:0<k)(hn:xs.length=n)(bI:0<n)(hsm:n*k≤2 ^ 24)
  (hx:uC E xs ps)(gU:tR E d ps)(gB:∀p∈ps,p.tree.size=k):
  xT P Γ o E (E.app ((d,dJ (.sl k (ps.map yM.tree)))::pWr d ps 0) ((d,0)::sQ ps)):=by
 refine xT.value gc fun a w G g9=>?_
 subst hk;have gf:xs.length=ps.length:=uC.length xs ps hx;have hc:=zHl g9 gU xs ps (fun _ h=>h) hx;have p5:∀v∈xs.map a.eval,v.cells.size=ti.size:=by
  intro v hv;obtain⟨x,mJ,rfl⟩:=Ji.1 hv;obtain⟨p,hp,hxp⟩:=uC.mem xs ps hx x mJ;rw[←Kh,zBi g9 gU hp hxp,←gB p hp];cases p with
  |slot s t=>
   obtain⟨_,_,h3⟩:=gU.slot s t hp;show(vals G s t []).length=t.size;exact wY t [] (by rintro xs rfl;simp[T.okTup]at h3)
  |zero u=>exact vF u (gU.zero u hp)
 have bV:=Great.fill_whole eA (xs.map a.eval) ((Jab (n*ti.size)).map (z.cells[· %z.cells.size]!)) p5 (by simp[hn]);have mb:((((xs.zipIdx 0).map fun x=>(x.2,x.1)).toArray).map fun(i,x)=>(i,a.eval x)).toList=((xs.map a.eval).zipIdx 0).map fun x=>(x.2,x.1):=by simp[List.zipIdx_map,Function.comp_def]
 have gw:=run_buildSlice (P:=P) w t e n _ _ ti z ht hi hz (by omega) (by have:=Nat.mul_pos bI eA;omega) (by rw[mb];exact bV);have gN:((xs.map a.eval).flatMap fun v=>v.cells.toList).toArray.size=n*ti.size:=by rw[Qg,flat_len (k:=ti.size) _ (fun v hv=>by rw[Kh];exact p5 v hv)];simp[hn]
 obtain⟨G',gk⟩:=zBS (w':=w.alloc (.cells ((xs.map a.eval).flatMap fun v=>v.cells.toList).toArray e)) g9 gU hd rfl (fun o v h=>by rw[hc];simpa using h) (.sl ti.size (ps.map yM.tree)) (.slice (dJ ⟨w.heap.size,0,dK⟩) n n) (.inl ⟨ti.size,n,rfl,gB,by rw[←gf,hn],by omega,by have:n≤n*ti.size:=Nat.le_mul_of_pos_right n eA;simp only[maxLen];omega,gN⟩)
 refine⟨_,_,?_,G',gk⟩;simp only[execOp,ho,Sem.run_bind,gw,Result.andThen_ok];rfl
where
 flat_len {k:Nat} (vs:List Value) (h:∀v∈vs,v.cells.toList.length=k):(vs.flatMap fun v=>v.cells.toList).length=vs.length*k:=by
  induction vs with
  |nil=>simp
  |cons v vs ih=>simp[Lq,ih (fun u hu=>h u (by simp[hu])),K7];have:=h v (by simp);simp at this;omega
end
end Go.Ab

namespace Go.Ab
open Go
theorem zKh{α β:Type}(f:α→List β)(x:α)(k:Nat)(hk:(f x).length=k)(eA:0<k):∀(n o:Nat)(v:β),((J1 n x).flatMap f)[o]? =dJ v→o<n*k∧(f x)[o%k]? =dJ v
 |0,o,v,h=>by simp at h
 |n+1,o,v,h=>by
  rw[Ju,Lq,Kn]at h;split at h
  ·grind[Nat.mod_eq_of_lt]
  ·rename_i hge
   rw[hk]at h hge;obtain⟨h1,h2⟩:=zKh f x k hk eA n (o-k) v h
   grind[Nat.mod_eq_sub_mod]
section
variable {P:Program}{Γ:Ctx}{E:Env}{o:Oper}{d:Nat}
theorem zWa(t e:TypeId)(ti:TypeInfo)(z:Value)(u:T)(k:Nat)(x y:Operand)(n c:Nat)(kl kc:IntKind)(ho:o.op=.makeSlice t x y)(gc:o.dst=dJ d)(hd:d<Γ.N)
  (ht:P.underlying t=dJ (.slice e))(hi:P.info? e=dJ ti)(hz:ti.zero=dJ z)(hk:ti.size=k)(eA:0<k)(hu:u.zOk=dL)(hv:sE u=z.cells.toList)(fw:u.size=k)(hb:ti.bytes≤4096)
  (hx:opT E x=dJ (.lit (.int kl n)))(hy:opT E y=dJ (.lit (.int kc c)))(ck:n≤c)(hc:c≤68719476736):
  xT P Γ o E (E.app [(d,dJ (.sl k (J1 n u)))] [(d,0)]):=by
 refine xT.value gc fun a w G g9=>?_
 have h1:=(yW g9 hx).1;have h2:=(yW g9 hy).1;subst hk;have gU:tR E d (J1 n (.zero u)):=⟨by simp,by grind,by
  have:∀m,xF (J1 m (.zero u))=[]:=by intro m;induction m with|zero=>rfl|succ m ih=>grind[xF]
  simp[this]⟩
 have hzs:z.cells.size=ti.size:=by grind[vF]
 have mz:(ti.bytes:Int)*(c:Int)≤281474976710656:=by have:ti.bytes*c≤4096*68719476736:=Ka hb hc;omega
 have gw:=run_make (P:=P) w t e ti z ht hi hz kl kc n c (by omega) (by omega) mz (by omega);simp only[J8]at gw;obtain⟨G',gk⟩:=zBS (w':=w.alloc (.cells (madeCells z.cells (c*ti.size)) e)) g9 gU hd rfl (fun i v h=>by
  obtain⟨h3,h4⟩:=zKh (qG G) (.zero u) ti.size (by grind[qG]) eA n i v h
  grind[Qe,Jw,qG,madeCells]) (.sl ti.size (J1 n u)) (.slice (dJ ⟨w.heap.size,0,dK⟩) n c)
  (.inl ⟨ti.size,c,by simp[yM.tree],fun p hp=>by simp at hp;obtain⟨_,rfl⟩:=hp;exact fw,by simp,by grind,by grind[maxLen],by simp[madeCells]⟩)
 refine⟨.slice (dJ ⟨w.heap.size,0,dK⟩) n c,w.alloc (.cells (madeCells z.cells (c*ti.size)) e),?_,G',?_⟩
 ·simp only[execOp,ho,h1,h2,Sem.run_bind,gw,Result.andThen_ok]
  rfl
 ·have h6:∀m i,pWr d (J1 m (.zero u)) i=[]:=by intro m;induction m with|zero=>intro i;rfl|succ m ih=>grind[pWr]
  have h7:sQ (J1 n (.zero u))=[]:=by
   have:∀m,xF (J1 m (.zero u))=[]:=by intro m;induction m with|zero=>rfl|succ m ih=>grind[xF]
   grind[sQ]
  grind
theorem zHm(t e:TypeId)(ti:TypeInfo)(k:Nat)(ho:o.op=.buildSlice t 0 #[])(gc:o.dst=dJ d)(hd:d<Γ.N)
  (ht:P.underlying t=dJ (.slice e))(hi:P.info? e=dJ ti):xT P Γ o E (E.app [(d,dJ (.sl k []))] [(d,0)]):=by
 refine xT.value gc fun a w G g9=>?_
 have gU:tR E d []:=⟨by simp,by simp,by simp[xF]⟩;obtain⟨G',gk⟩:=zBS (w':=w.alloc (.cells #[] e)) g9 gU hd (cells:=#[]) rfl (by simp) (.sl k []) (.slice (dJ ⟨w.heap.size,0,dK⟩) 0 0)
  (by simp)
 refine⟨_,_,?_,G',gk⟩;have h0:(Jab 0:Array Nat)= #[]:=by rfl
 simp[execOp,ho,Instr.buildSlice,run_underlying ht,sizeOf,typeInfo,hi,Instr.fill,newRow,h0]
theorem zL0(k:Nat)(x:Operand)(ho:o.op=.move x∨o.op=.assign x)(hx:x=.const (.slice dK 0 0))(gc:o.dst=dJ d)(hd:d<Γ.N):xT P Γ o E (E.app [(d,dJ (.sl k []))] [(d,0)]):=by
 refine xT.value gc fun a w G g9=>?_
 refine⟨.slice dK 0 0,w,?_,_,vE g9 rfl hd (fun _=>.slice dK 0 0) (fun _=>rfl) (.sl k []) (.slice dK 0 0) (by simp[mkV,Gh.put]) (by simp[R,Gh.put]) (by simp[Top,yT,xH])⟩;subst hx;rcases ho with ho|ho<;>simp[execOp,ho,Act.eval]
def Gh.nv(G:Gh)(d:Nat)(src:Nat→Option (Nat×List Nat))(φ:Nat→List Nat→Option (List Nat))(f:Nat→List Nat→Value):Gh where
 hd s z:=if s=d then(match z.getLast? with
  |some i=>f i z.dropLast
  |none=>.bool dM)else G.hd s z
 ad s z:=if s=d then(match z.getLast? with
  |some i=>(match src i with
   |some (x,q)=>G.ad x (z.dropLast++q)
   |none=>default)
  |none=>default)else G.ad s z
 lb b o:=match G.lb b o with
  |some (fl,s,z)=>(match φ s z with
   |some z'=>dJ (fl,d,z')
   |none=>dJ (fl,s,z))
  |none=>dK
 ow b:=match G.ow b with
  |some (s,z)=>(match φ s z with
   |some z'=>dJ (d,z')
   |none=>dJ (s,z))
  |none=>dK
theorem zWb{G:Gh}{a:Act}{w:World}{ps:List yM}(g9:Rep Γ E G a.tmps w)(h:tR E d ps)(hd:d<Γ.N):
  ∃G',Rep Γ (E.app ((d,dJ (.agg (ps.map yM.tree)))::pWr d ps 0) ((d,0)::sQ ps)) G' (a.tmps.setIfInBounds d (.agg (ps.flatMap (qG G)).toArray)) w:=by
 obtain⟨f1,f0,f2,f3,f4,f5,f6⟩:=zGr g9 h;have hm:=g9.mem;have gK:Blk w w:=fun b cs e' h=>⟨cs,h,rfl⟩
 generalize gk:G.nv d (zHk ps) (zIE ps) (pHd G ps)=G'
 have ghd:∀i z,G'.hd d (z++[i])=pHd G ps i z:=by grind[Gh.nv]
 have ghd':∀s z,s≠d→G'.hd s z=G.hd s z:=by grind[Gh.nv]
 have glbm:∀b o fl x z z',G.lb b o=dJ (fl,x,z)→zIE ps x z=dJ z'→G'.lb b o=dJ (fl,d,z'):=by grind[Gh.nv]
 have gowm:∀b x z z',G.ow b=dJ (x,z)→zIE ps x z=dJ z'→G'.ow b=dJ (d,z'):=by grind[Gh.nv]
 have gg:∀s p,Off ((d,0)::sQ ps) s p→s≠d:=fun s p h e=>absurd (h 0 (by simp[e])) (by simp)
 have gu:kR ((d,0)::sQ ps) G w G' w:=by
  refine⟨by grind,fun s p h=>?_,fun b o fl s p _ hl h=>⟨?_,rfl⟩,fun b s p hl h=>?_,gK⟩
  ·grind[Gh.nv]
  all_goals grind[Gh.nv]
 have gn:Mem Γ G' w:=by
  refine⟨fun s p=>?_,fun b o l hl=>?_,fun b l hl=>?_,hm.st,hm.fr,hm.sz,hm.bk⟩
  ·rw[←gk]
   simp only[Gh.nv];split
   ·split
    ·grind
    ·rfl
   ·exact hm.one s p
  ·rw[←gk]at hl
   simp only[Gh.nv]at hl;split at hl
   ·rename_i hg;exact hm.lb b o _ hg
   ·cases hl
  ·rw[←gk]at hl
   simp only[Gh.nv]at hl;split at hl
   ·rename_i hg;exact hm.ow b _ hg
   ·cases hl
 have g4:RF Γ.St G' w d (ps.map yM.tree) [] 0:=by
  refine zOP _ [] 0 (fun i u hu=>?_);rw[Jd];cases hs:zHk ps i with
  |none=>grind
  |some xq=>
   obtain⟨x,q⟩:=xq;obtain⟨h1,h2,h3,h4⟩:=f4 i u x q hu hs;refine zLz u q [i] (zD8.okTups_get _ f1 i u hu) ⟨by grind,by grind[Gh.nv],by grind,
    by grind,gK⟩ (by grind[yR.mono]) h2
 refine⟨G',vV g9 (by simp) gu gn ?_ ?_⟩
 ·grind[Wr.find,zCS,sQ]
 ·intro s t hs
  simp only[Wr.find]at hs;split at hs
  ·rename_i he
   subst he;simp at hs;subst hs;refine⟨?_,by simpa only[R]using g4,by simp only[Top];exact uF.of_clean _ f0⟩;rw[Jj];simp only[g9.size,hd,mkV,if_true];rw[zEt g9 h G' ps 0 (by simp) ghd]
  ·rename_i gg
   obtain⟨i,u,h1,h2,h3⟩:=zCR ps d 0 s _ hs;simp only[Jd]at h3;simp at h3;subst h3;obtain⟨h4,h5,h6⟩:=h.slot s u (by grind);have gZ:∀xs,u≠.tup xs:=by rintro xs rfl;grind[T.okTup]
   have hi:(ps.map yM.tree)[i]? =dJ u:=by simp[h1,yM.tree]
   have hr:=zBD _ [] 0 i u g4 hi;simp only[Jd]at hr;refine zJd (G:=G) (by rw[Jj];simp only[gg,if_false];exact(g9.ent s u h4).1) gZ (by grind) (fun z=>?_) hr
   grind[pHd]
theorem zOR(off:Nat):∀(vs:List Value)(i:Nat)(cs:Array Value)(k:Nat),off+i+vs.length≤cs.size→
  ((vs.zipIdx i).foldl (fun cs(x:Value×Nat)=>cs.setIfInBounds (off+x.2) x.1) cs)[k]? =if off+i≤k∧k<off+i+vs.length then vs[k-(off+i)]? else cs[k]?
 | [],i,cs,k,_=>by simp;omega
 |v::vs,i,cs,k,h=>by
  simp only[Jc]at h;simp only[List.zipIdx_cons,G1];rw[zOR off vs (i+1) _ k (by simp;omega)]
  grind
theorem zHn{pv:yM→List Value}(place:Nat→Option (Nat×Nat)):∀(vs:List (Nat×Value))(qs:List (Nat×yM))(ps:List yM)(cs:Array Value),cs.toList=ps.flatMap pv→
  (∀i p,ps[i]? =dJ p→place i=dJ (((ps.take i).flatMap pv).length,(pv p).length))→
  vs.map (·.1)=qs.map (·.1)→(∀(j:Nat)(v:Nat×Value)(q:Nat×yM),vs[j]? =dJ v→qs[j]? =dJ q→v.2.cells.toList=pv q.2∧ ∃p,ps[q.1]? =dJ p∧(pv p).length=(pv q.2).length)→
  ∃cs',Instr.fill place cs vs=dJ cs'∧cs'.toList=(qs.foldl (fun ps q=>ps.set q.1 q.2) ps).flatMap pv
 | [],[],ps,cs,gP,_,_,_=>⟨cs,rfl,gP⟩
 | [],_::_,_,_,_,_,h,_=>by simp at h
 |_::_,[],_,_,_,_,h,_=>by simp at h
 |(i,v)::vs,(i',q)::qs,ps,cs,gP,fW,hi,hq=>by
  simp only[Jt,Ja0.injEq]at hi;obtain⟨dc,hi⟩:=hi;subst dc;obtain⟨h1,p,h2,h3⟩:=hq 0 (i,v) (i,q) rfl rfl;dsimp only at h1 h2 h3;have aV:=fW i p h2;have gF:=(Jo.1 h2).1;have m8:ps=ps.take i++p::ps.drop (i+1):=by grind[Gs,List.take_append_drop]
  have gv:ps.set i q=ps.take i++q::ps.drop (i+1):=by grind
  have co:v.cells.size=(pv p).length:=by grind
  have gA:cs.size=((ps.take i).flatMap pv).length+((pv p).length+((ps.drop (i+1)).flatMap pv).length):=by grind[Kh]
  have er:(v.cells.zipIdx.foldl (fun cs(x:Value×Nat)=>cs.setIfInBounds (((ps.take i).flatMap pv).length+x.2) x.1) cs).toList=(ps.set i q).flatMap pv:=by
   rw[gv];simp only[Jb1,Lq,←h1];apply Kl;intro k;rw[←Array.foldl_toList,Ks,show v.cells.zipIdx.toList=v.cells.toList.zipIdx 0 from by simp,zOR _ _ 0 cs k (by grind)];have dq:cs.toList=((ps.take i).flatMap pv)++(pv p++(ps.drop (i+1)).flatMap pv):=by grind
   have ap:v.cells.toList.length=(pv p).length:=by rw[h1,h3]
   rw[←Ks,dq]
   grind
  have aW:∀j p',(ps.set i q)[j]? =dJ p'→place j=dJ ((((ps.set i q).take j).flatMap pv).length,(pv p').length):=by
   intro j p' fX;have ex:(((ps.set i q).take j).flatMap pv).length=((ps.take j).flatMap pv).length:=by
    rw[gv]
    conv=>rhs;rw[m8]
    by_cases hj:j≤i
    ·grind
    ·rw[Qp,Qp]
     simp only[Jb1,J5]
     congr 1
     have:j-(ps.take i).length=(j-(ps.take i).length-1)+1:=by simp;omega
     grind
   grind
  have hq':∀(j:Nat)(x:Nat×Value)(y:Nat×yM),vs[j]? =dJ x→qs[j]? =dJ y→x.2.cells.toList=pv y.2∧ ∃p,(ps.set i q)[y.1]? =dJ p∧(pv p).length=(pv y.2).length:=by
   intro j x y hx hy;obtain⟨h6,p',h7,h8⟩:=hq (j+1) x y (by grind) (by grind)
   grind
  obtain⟨cs',h4,h5⟩:=zHn place vs qs (ps.set i q) _ er aW hi hq'
  grind[Instr.fill]
theorem uN{t:TypeId}{it:TypeInfo}{fields:Array Field}{z:Value}{places:List (Nat×Nat)}(hi:P.info? t=dJ it)(hu:P.underlying t=dJ (.struct fields))(hz:it.zero=dJ z)
  (hp:fields.toList.mapM (fun f=>(P.info? f.type).map fun i=>(f.offset,i.size))=dJ places)(parts:List (Nat×Value)):P.built t parts=Instr.fill (places.toArray[·]?) z.cells parts:=by
 grind[Program.built]
theorem zL1{t e:TypeId}{n:Nat}{it ie:TypeInfo}{z:Value}(hi:P.info? t=dJ it)(hu:P.underlying t=dJ (.array n e))(hz:it.zero=dJ z)
  (he:P.info? e=dJ ie)(parts:List (Nat×Value)):P.built t parts=Instr.fill (fun i=>dJ (i*ie.size,ie.size)) z.cells parts:=by
 grind[Program.built]
theorem zFB{G:Gh}:(zs:List T)→(zs.map yM.zero).flatMap (qG G)=qH zs
 | []=>rfl
 |z::zs=>by simp[qG,qH,←zFB (G:=G) zs]
theorem zSe(t:TypeId)(place:Nat→Option (Nat×Nat))(z:Value)(zs:List T)(pl:List (Nat×Operand))(qs:List (Nat×yM))(ps:List yM)(ho:o.op=.build t pl.toArray)(gc:o.dst=dJ d)(hd:d<Γ.N)
  (hb:∀parts,P.built t parts=Instr.fill place z.cells parts)(hzv:qH zs=z.cells.toList)(hz:zAV zs=dL)(fW:∀i u,zs[i]? =dJ u→place i=dJ (T.sizes (zs.take i),u.size))
  (gU:qs.foldl (fun ps q=>ps.set q.1 q.2) (zs.map yM.zero)=ps)(gz:tR E d ps)(hix:pl.map (·.1)=qs.map (·.1))
  (hq:∀(j:Nat)(x:Nat×Operand)(q:Nat×yM),pl[j]? =dJ x→qs[j]? =dJ q→zAF E x.2 q.2∧q.2∈ps∧ ∃u,zs[q.1]? =dJ u∧u.size=q.2.tree.size):
  xT P Γ o E (E.app ((d,dJ (.agg (ps.map yM.tree)))::pWr d ps 0) ((d,0)::sQ ps)):=by
 refine xT.value gc fun a w G g9=>?_
 obtain⟨G',gk⟩:=zWb g9 gz hd;have gB:∀(us:List T),zAV us=dL→((us.map yM.zero).flatMap (qG G)).length=T.sizes us:=by grind[zFB,zBE]
 obtain⟨cs',h1,h2⟩:=zHn (pv:=qG G) place (pl.map fun x=>(x.1,a.eval x.2)) qs (zs.map yM.zero) z.cells (by rw[zFB,hzv]) (fun i p hp=>by
   rw[K4]at hp;cases hu:zs[i]? with
   |none=>grind
   |some u=>
    simp[hu]at hp;subst hp;rw[fW i u hu,←U5,gB _ (zOks_take zs i hz),qG,vF u (zOks_get zs hz i u hu)])
  (by grind[Function.comp_def]) (fun j v q hv hqj=>by
   rw[K4]at hv;cases hx:pl[j]? with
   |none=>grind
   |some x=>
    simp[hx]at hv;subst hv;obtain⟨h3,h4,u,h5,h6⟩:=hq j x q hx hqj;refine⟨zBi g9 gz h4 h3,.zero u,by simp[h5],?_⟩;rw[qG,vF u (zOks_get zs hz _ u h5),h6];cases bB:q.2 with
    |slot s t=>
     rw[bB]at h4;obtain⟨_,_,h7⟩:=gz.slot s t h4;exact(wY t [] (by rintro xs rfl;grind[T.okTup])).symm
    |zero u'=>
     rw[bB]at h4;exact(vF u' (gz.zero u' h4)).symm)
 rw[gU]at h2;have h3:cs'=(ps.flatMap (qG G)).toArray:=by rw[←h2]
 refine⟨_,w,?_,G',gk⟩;have gw:=run_build (P:=P) w t (pl.map fun x=>(x.1,a.eval x.2)).toArray cs' (by grind);simp only[List.map_toArray,execOp,ho,Sem.run_bind]at gw ⊢
 simp_all
where
 zOks_get:(xs:List T)→zAV xs=dL→ ∀(i:Nat)(x:T),xs[i]? =dJ x→x.zOk=dL
  | [],_,_,_,h=>by simp at h
  |y::ys,hk,i,x,h=>by
   simp only[zAV,J2]at hk;cases i with
   |zero=>grind
   |succ i=>exact zOks_get ys hk.2 i x (by grind)
 zOks_take:(xs:List T)→ ∀i,zAV xs=dL→zAV (xs.take i)=dL
  | [],i,_=>by simp[zAV]
  |y::ys,0,_=>by simp[zAV]
  |y::ys,i+1,hk=>by
   simp only[zAV,J2,L5]at hk ⊢
   exact⟨hk.1,zOks_take ys i hk.2⟩
end
end Go.Ab

namespace Go.Ab
open Go
mutual
def uG:T→T→Bool
 |.agg xs,.agg ys=>zAv xs ys
 |.agg _,_=>dM
 |.tup _,_=>dM
 |_,.agg _=>dM
 |_,.tup _=>dM
 |.any,_|.lit _,_|.ro _,_|.same _ _,_|.addr _ _,_|.sub _ _ _ _ _,_|.sl _ _,_|.ptr _,_=>dL
def zAv:List T→List T→Bool
 | [],[]=>dL
 |x::xs,y::ys=>uG x y&&zAv xs ys
 | [],_::_=>dM
 |_::_,[]=>dM
end
mutual
theorem zCT:(x y:T)→uG x y=dL→x.size=y.size
 |.agg xs,.agg ys,h=>by simp only[uG]at h;simp only[T.size];exact zEM xs ys h
 |.agg _,.any,h|.agg _,.lit _,h|.agg _,.ro _,h|.agg _,.same _ _,h|.agg _,.addr _ _,h|.agg _,.sub _ _ _ _ _,h|.agg _,.sl _ _,h|.agg _,.ptr _,h|.agg _,.tup _,h=>by grind[uG]
 |.tup _,_,h=>by grind[uG]
 |.any,y,h|.lit _,y,h|.ro _,y,h|.same _ _,y,h|.addr _ _,y,h|.sub _ _ _ _ _,y,h|.sl _ _,y,h|.ptr _,y,h=>by cases y<;>simp[uG]at h<;>simp[T.size]
theorem zEM:(xs ys:List T)→zAv xs ys=dL→T.sizes xs=T.sizes ys
 | [],[],_=>rfl
 |x::xs,y::ys,h=>by simp only[zAv,J2]at h;simp only[T.sizes,zCT x y h.1,zEM xs ys h.2]
 | [],_::_,h=>by grind[zAv]
 |_::_,[],h=>by grind[zAv]
end
section
variable {G:Gh}{w:World}{s:Nat}
mutual
theorem zKi:(t:T)→ ∀(p:List Nat)(b o j:Nat),Loc G w s t p b o→j<t.size→ ∃y,G.lb b (o+j)=dJ (dM,s,y++p)
 |.agg xs,p,b,o,j,h,hj=>by simp only[Loc,T.size]at h hj;exact zOS xs p 0 b o j h.2 hj
 |.any,p,b,o,j,h,hj|.lit _,p,b,o,j,h,hj|.ro _,p,b,o,j,h,hj|.same _ _,p,b,o,j,h,hj|.addr _ _,p,b,o,j,h,hj|.sub _ _ _ _ _,p,b,o,j,h,hj|.sl _ _,p,b,o,j,h,hj|.ptr _,p,b,o,j,h,hj=>by
  simp only[Loc,T.size]at h hj
  simp_all
 |.tup _,_,_,_,_,h,_=>by simp only[Loc]at h
theorem zOS:(xs:List T)→ ∀(p:List Nat)(i b o j:Nat),vB G w s xs p i b o→j<T.sizes xs→ ∃y,G.lb b (o+j)=dJ (dM,s,y++p)
 | [],_,_,_,_,_,_,hj=>by grind[T.sizes]
 |x::xs,p,i,b,o,j,h,hj=>by
  simp only[vB,T.sizes]at h hj
  by_cases gF:j<x.size
  ·obtain⟨y,hy⟩:=zKi x (i::p) b o j h.1 gF
   exact⟨y++[i],by grind⟩
  ·obtain⟨y,hy⟩:=zOS xs p (i+1) b (o+x.size) (j-x.size) h.2 (by omega)
   grind
end
mutual
theorem zSf{G':Gh}{w':World}:(u u0:T)→ ∀(p:List Nat)(b o:Nat),uG u u0=dL→(∀y,u.inT y.reverse=dL→G'.ad s (y++p)=G.ad s (y++p))→
  (∀b o y,G.lb b o=dJ (dM,s,y++p)→G'.lb b o=dJ (dM,s,y++p))→(∀j v,(vals G' s u p)[j]? =dJ v→yL w' b (o+j)=dJ v)→Loc G w s u0 p b o→Loc G' w' s u p b o
 |.agg xs,.agg ys,p,b,o,h,ha,hl,hc,h0=>by
  simp only[Loc,uG]at h h0 ⊢
  refine⟨by have:=ha [] rfl;grind,zOT xs ys p 0 b o h (fun i x hx y hy=>?_) (by omega) (by grind[vals]) h0.2⟩
  grind[Gt,T.inT]
 |.agg _,.any,_,_,_,h,_,_,_,_|.agg _,.lit _,_,_,_,h,_,_,_,_|.agg _,.ro _,_,_,_,h,_,_,_,_|.agg _,.same _ _,_,_,_,h,_,_,_,_|.agg _,.addr _ _,_,_,_,h,_,_,_,_|.agg _,.sub _ _ _ _ _,_,_,_,h,_,_,_,_|.agg _,.sl _ _,_,_,_,h,_,_,_,_|.agg _,.ptr _,_,_,_,h,_,_,_,_|.agg _,.tup _,_,_,_,h,_,_,_,_=>by grind[uG]
 |.tup _,_,_,_,_,h,_,_,_,_=>by grind[uG]
 |.any,u0,p,b,o,h,ha,hl,hc,h0|.lit _,u0,p,b,o,h,ha,hl,hc,h0|.ro _,u0,p,b,o,h,ha,hl,hc,h0|.same _ _,u0,p,b,o,h,ha,hl,hc,h0|.addr _ _,u0,p,b,o,h,ha,hl,hc,h0|.sub _ _ _ _ _,u0,p,b,o,h,ha,hl,hc,h0|.sl _ _,u0,p,b,o,h,ha,hl,hc,h0|.ptr _,u0,p,b,o,h,ha,hl,hc,h0=>by have h1:=wT (by cases u0<;>simp[uG]at h<;>rfl) h0;have h2:=ha [] rfl;rw[Jq]at h2;simp only[Loc];exact⟨h2.trans h1.1,by simp_all,by simpa using hc 0 (G'.hd s p) (by simp[vals])⟩
theorem zOT{G':Gh}{w':World}:(xs ys:List T)→ ∀(p:List Nat)(j b o:Nat),zAv xs ys=dL→(∀i x,xs[i]? =dJ x→ ∀y,x.inT y.reverse=dL→G'.ad s (y++((j+i)::p))=G.ad s (y++((j+i)::p)))→
  (∀b o y,G.lb b o=dJ (dM,s,y++p)→G'.lb b o=dJ (dM,s,y++p))→(∀i v,(yD G' s xs p j)[i]? =dJ v→yL w' b (o+i)=dJ v)→vB G w s ys p j b o→vB G' w' s xs p j b o
 | [],[],_,_,_,_,_,_,_,_,_=>by simp only[vB]
 |x::xs,y::ys,p,j,b,o,h,ha,hl,hc,h0=>by
  simp only[zAv,J2,vB]at h h0 ⊢
  have hs:=zCT x y h.1;have gZ:∀zs,x≠.tup zs:=by rintro zs rfl;grind[uG]
  refine⟨zSf x y (j::p) b o h.1 (fun z hz=>by simpa using ha 0 x (by simp) z hz) (fun b o z hz=>by have:=hl b o (z++[j]) (by grind);grind) (fun i v hv=>hc i v ?_) h0.1,
   zOT xs ys p (j+1) b (o+x.size) h.2 (fun i z hz=>by have:=ha (i+1) z (by grind);grind) hl (fun i v hv=>?_) (by grind)⟩
  ·grind[yD]
  ·have:=hc (x.size+i) v (by
    grind[yD,wY])
   grind
 | [],_::_,_,_,_,_,h,_,_,_,_=>by grind[zAv]
 |_::_,[],_,_,_,_,h,_,_,_,_=>by grind[zAv]
end
end
def zGB(p:yM)(q:List Nat)(s:Nat)(z:List Nat):Option (List Nat):=
 match p with
 |.slot s0 t=>if sP t&&s0==s then dJ (z++q)else dK
 |.zero _=>dK
def sHd(G:Gh)(p:yM)(y:List Nat):Value:=
 match p with
 |.slot s _=>G.hd s y
 |.zero u=>kZ (zhd u y.reverse)
def sWr(r:Nat)(q:List Nat):yM→Wr
 |.slot s t=>if sP t then[(s,dJ (cpT r t q))]else[]
 |.zero _=>[]
def Gh.st(G:Gh)(r:Nat)(q:List Nat)(p:yM):Gh where
 hd s z:=if s=r∧q<:+z then sHd G p (z.take (z.length-q.length))else G.hd s z
 ad s z:=if s=r∧q<:+z∧p.tree.inT (z.take (z.length-q.length)).reverse=dM then(match p with
  |.slot s0 _=>G.ad s0 (z.take (z.length-q.length))
  |.zero _=>default)else G.ad s z
 lb b o:=match G.lb b o with
  |some (fl,s,z)=>(match zGB p q s z with
   |some z'=>dJ (fl,r,z')
   |none=>dJ (fl,s,z))
  |none=>dK
 ow b:=match G.ow b with
  |some (s,z)=>(match zGB p q s z with
   |some z'=>dJ (r,z')
   |none=>dJ (s,z))
  |none=>dK
mutual
theorem zL2{Γ:Ctx}{G:Gh}{w:World}(hm:Mem Γ G w){s:Nat}:(t:T)→ ∀(p:List Nat)(v:Value),v∈vals G s t p→v.oneCell'=dL
 |.agg xs,p,v,h=>by simp only[vals]at h;exact zDA hm xs p 0 v h
 |.any,p,v,h|.lit _,p,v,h|.ro _,p,v,h|.same _ _,p,v,h|.addr _ _,p,v,h|.sub _ _ _ _ _,p,v,h|.sl _ _,p,v,h|.ptr _,p,v,h|.tup _,p,v,h=>by simp only[vals,List.mem_singleton]at h;rw[h];exact hm.one s p
theorem zDA{Γ:Ctx}{G:Gh}{w:World}(hm:Mem Γ G w){s:Nat}:(xs:List T)→ ∀(p:List Nat)(j:Nat)(v:Value),v∈yD G s xs p j→v.oneCell'=dL
 | [],_,_,_,h=>by grind[yD]
 |x::xs,p,j,v,h=>by
  simp only[yD,Jf]at h;rcases h with h|h
  ·exact zL2 hm x _ v h
  ·exact zDA hm xs p _ v h
end
mutual
theorem zFC:(u:T)→u.zOk=dL→ ∀v∈sE u,v.oneCell'=dL
 |.lit v,h,x,hx=>by simp only[sE,List.mem_singleton]at hx;rw[hx];exact h
 |.sl _ _,_,x,hx=>by simp only[sE,List.mem_singleton]at hx;rw[hx];rfl
 |.agg xs,h,x,hx=>by simp only[T.zOk]at h;simp only[sE]at hx;exact zHo xs h x hx
 |.any,h,_,_|.ro _,h,_,_|.same _ _,h,_,_|.addr _ _,h,_,_|.sub _ _ _ _ _,h,_,_|.ptr _,h,_,_|.tup _,h,_,_=>by grind[T.zOk]
theorem zHo:(xs:List T)→zAV xs=dL→ ∀v∈qH xs,v.oneCell'=dL
 | [],_,_,h=>by grind[qH]
 |x::xs,h,v,hv=>by
  simp only[zAV,J2]at h;simp only[qH,Jf]at hv;rcases hv with hv|hv
  ·exact zFC x h.1 v hv
  ·exact zHo xs h.2 v hv
end
theorem zL3(y q:List Nat):(y++q).take ((y++q).length-q.length)=y:=by simp
theorem zN5{Γ:Ctx}{G G':Gh}{w':World}{s d:Nat}{q:List Nat}{t:T}{v:Option Value}(hv:v=dJ (mkV G s t []))(gZ:∀xs,t≠.tup xs)(hs:∀p,G'.hd s p=G.hd s p)(pS:∀z,G'.hd d (z++q)=G.hd s z)
  (hr:R Γ.St G' w' d t q):Ent Γ G' w' v s (cpT d t q):=by
 have hz:∀z,G'.hd s (z++[])=G'.hd d (z++q):=by grind
 refine⟨?_,?_,qW d t q⟩
 ·rw[hv,zBh (G:=G') (G':=G') t q [] gZ hz,zA2 G s t [] gZ,zCl t [] q (fun z=>by rw[pS,Jb])]
 ·exact zEo (G:=G') (G':=G') (fun _=>rfl) t q [] hz gZ (yR.triv (fun _ _=>⟨rfl,rfl⟩) _) hr
section
variable {P:Program}{Γ:Ctx}{E:Env}{o:Oper}
theorem zAa:(f:List Nat)→ ∀(t u:T),zW t→zW u→zW (t.set f u)
 | [],t,u,_,hu=>by grind[T.set]
 |i::f,t,u,ht,hu=>by
  cases t with
  |sl k xs=>
   simp only[T.set];split
   ·rename_i x hx
    simp only[zW,yR]at ht ⊢
    exact sets_clean xs i _ ht (zAa f x u (uJ xs ht i x hx) hu)
   ·exact ht
  |agg xs=>
   simp only[T.set];split
   ·rename_i x hx
    simp only[zW,yR]at ht ⊢
    exact sets_clean xs i _ ht (zAa f x u (uJ xs ht i x hx) hu)
   ·exact ht
  |tup xs=>
   simp only[T.set];split
   ·rename_i x hx
    simp only[zW,yR]at ht ⊢
    exact sets_clean xs i _ ht (zAa f x u (uJ xs ht i x hx) hu)
   ·exact ht
  |ptr t=>
   simp only[T.set];split
   ·simp only[zW,yR]at ht ⊢
    exact zAa f t u ht hu
   ·exact ht
  |_=>grind[T.set]
where sets_clean:(xs:List T)→ ∀(i:Nat)(y:T),yT xs→zW y→yT (xs.set i y)
 | [],_,_,_,_=>by grind
 |x::xs,0,y,h,hy=>by simp only[Lx,yT,xH]at h ⊢;grind
 |x::xs,i+1,y,h,hy=>by simp only[Kz,yT,xH]at h ⊢;exact⟨h.1,sets_clean xs i y h.2 hy⟩
theorem zJe(T':TypeId)(ti:TypeInfo)(x y:Operand)(r:Nat)(q:List Nat)(tr u0:T)(p:yM)(ho:o.op=.store T' x y)(gc:o.dst=dK)
  (hi:P.info? T'=dJ ti)(gB:ti.size=p.tree.size)(cz:0<ti.size)(hx:zCE Γ E x r q)(hr:E r=dJ tr)(tu:tr.single=dL)(hg:tr.get q.reverse=dJ u0)(hl:tr.locd q.reverse=dL)
  (ff:uG p.tree u0=dL)(hy:zAF E y p)(gU:tR E r [p]):
  xT P Γ o E (E.app ((r,dJ (tr.set q.reverse p.tree))::sWr r q p) ((r,q.length)::sQ [p])):=by
 refine xT.skip gc fun a w G g9=>?_
 have hm:=g9.mem;have mC:=hx a w G g9;obtain⟨e3,e4,e5⟩:=g9.ent r _ hr;have mR:q≠[]:=by rintro rfl;simp[T.locd]at hl
 obtain⟨i0,f0,aP⟩:∃i f,q.reverse=i::f:=by
  cases h:q.reverse with
  |nil=>exact absurd (by simpa using h) mR
  |cons i f=>exact⟨i,f,rfl⟩
 have bm:∀v:T,(tr.set q.reverse v).single=dL∧zW tr:=by
  intro v;rw[aP]at hg ⊢
  cases tr with
  |sl k xs=>exact⟨by simp only[T.set];split<;>rfl,by simpa only[Top,zW,yR]using e5⟩
  |ptr t=>exact⟨by simp only[T.set];split<;>rfl,by simpa only[Top,zW,yR]using e5⟩
  |agg xs=>simp[T.single]at tu
  |tup xs=>simp[T.single]at tu
  |_=>simp[T.get]at hg
 obtain⟨b,ob,cs,et,pj,gK,dj⟩:=(zB1 q.reverse tr u0 [] e4 hg).2 hl;simp only[rp,K5,Jb]at pj;have hru0:=(zB1 q.reverse tr u0 [] e4 hg).1;have eW:=zCm pj;have br:=zCT _ _ ff;have hc:=zBi g9 gU (by simp) hy;have p5:(a.eval y).cells.size=p.tree.size:=by
  rw[←Kh,hc];cases p with
  |slot s t=>obtain⟨_,_,h3⟩:=gU.slot s t (by simp);exact wY t [] (by rintro xs rfl;simp[T.okTup]at h3)
  |zero u=>exact vF u (gU.zero u (by simp))
 have gm:∀v∈(a.eval y).cells.toList,v.oneCell'=dL:=by
  rw[hc];intro v hv;cases p with
  |slot s t=>exact zL2 hm t [] v hv
  |zero u=>exact zFC u (gU.zero u (by simp)) v hv
 generalize ew:w.setRow b (cs.toList.take ob++(a.eval y).cells.toList++cs.toList.drop (ob+(a.eval y).cells.toList.length)).toArray=w'
 have er:w'.heap[b]? =dJ (.cells (cs.toList.take ob++(a.eval y).cells.toList++cs.toList.drop (ob+(a.eval y).cells.toList.length)).toArray et (0,0)):=by rw[←ew];exact setRow_heap w b cs _ et _ gK
 have gE:∀b',b'≠b→w'.heap[b']? =w.heap[b']?:=fun b' h=>by rw[←ew];exact setRow_other w b b' _ h
 have gN:w'.heap.size=w.heap.size:=by rw[←ew];exact size_setRow w b _
 have gA:(a.eval y).cells.toList.length=u0.size:=by rw[Kh,p5,br]
 have eL:∀k,yL w' b k=if ob≤k∧k<ob+u0.size then(qG G p)[k-ob]? else yL w b k:=by
  intro k;simp only[yL,World.cell?,er,gK,Gy,Hg,if_false];rw[←hc,←gA]at*
  rw[←Ks,←Ks (xs:=cs)];simp only[];have gP:cs.toList.length=cs.size:=Kh ..
  generalize (a.eval y).cells.toList=V at*
  by_cases h1:k<ob
  ·rw[if_neg (by omega),Jg,K3 (by simp;omega),G8 h1]
  ·by_cases h2:k<ob+V.length
   ·rw[if_pos ⟨by omega,h2⟩,Jg,Je (by simp;omega),K3 (by simp;omega)]
    congr 1;simp;omega
   ·rw[if_neg (by omega),Jg,Je (by simp;omega),Je (by simp;omega),Lm]
    congr 1;simp;omega
 have fL:∀b' o' fl s z,G.lb b' o'=dJ (fl,s,z)→ ¬(s=r∧q<:+z)→yL w' b' o'=yL w b' o':=by
  intro b' o' fl s z h1 h2
  by_cases hb:b'=b
  ·subst hb
   rw[eL];split
   ·rename_i h3
    obtain⟨y',h4⟩:=zKi u0 q b' ob (o'-ob) pj (by omega);rw[show ob+(o'-ob)=o' from by omega,h1]at h4;simp at h4;exact absurd ⟨h4.2.1,y',h4.2.2.symm⟩ h2
   ·rfl
  ·simp[yL,World.cell?,gE b' hb]
 have eu:Blk w w':=by
  intro b' cs' e' h1
  by_cases hb:b'=b
  ·subst hb
   rw[gK]at h1;simp at h1;obtain⟨rfl,rfl⟩:=h1;exact⟨_,er,by simp;have:cs.toList.length=cs.size:=Kh ..;omega⟩
  ·exact⟨cs',by rw[gE b' hb];exact h1,rfl⟩
 generalize gk:G.st r q p=G'
 have ghd:∀y',G'.hd r (y'++q)=sHd G p y':=fun y'=>by rw[←gk];simp[Gh.st]
 have ghd':∀s z,¬(s=r∧q<:+z)→G'.hd s z=G.hd s z:=fun s z h=>by rw[←gk];simp only[Gh.st];rw[if_neg h]
 have gad:∀s z,¬(s=r∧q<:+z)→G'.ad s z=G.ad s z:=fun s z h=>by rw[←gk];simp only[Gh.st];rw[if_neg (fun h2=>h ⟨h2.1,h2.2.1⟩)]
 have gadf:∀y',p.tree.inT y'.reverse=dL→G'.ad r (y'++q)=G.ad r (y'++q):=fun y' h=>by rw[←gk];simp only[Gh.st,zL3];rw[if_neg (by simp[h])]
 have gadm:∀s0 t y',p=.slot s0 t→t.inT y'.reverse=dM→G'.ad r (y'++q)=G.ad s0 y':=fun s0 t y' h1 h2=>by subst h1;rw[←gk];simp only[Gh.st,zL3,yM.tree];rw[if_pos];simp[h2]
 have glb:∀b' o' fl s z,G.lb b' o'=dJ (fl,s,z)→zGB p q s z=dK→G'.lb b' o'=dJ (fl,s,z):=fun b' o' fl s z h1 h2=>by rw[←gk];simp[Gh.st,h1,h2]
 have glbm:∀b' o' fl s z z',G.lb b' o'=dJ (fl,s,z)→zGB p q s z=dJ z'→G'.lb b' o'=dJ (fl,r,z'):=fun b' o' fl s z z' h1 h2=>by rw[←gk];simp[Gh.st,h1,h2]
 have gow:∀b' s z,G.ow b'=dJ (s,z)→zGB p q s z=dK→G'.ow b'=dJ (s,z):=fun b' s z h1 h2=>by rw[←gk];simp[Gh.st,h1,h2]
 have gowm:∀b' s z z',G.ow b'=dJ (s,z)→zGB p q s z=dJ z'→G'.ow b'=dJ (r,z'):=fun b' s z z' h1 h2=>by rw[←gk];simp[Gh.st,h1,h2]
 have bD:∀s z,(∀n,(s,n)∉(r,q.length)::sQ [p])→zGB p q s z=dK:=by
  intro s z h;cases p with
  |zero u=>rfl
  |slot s0 t=>
   simp only[zGB];rw[if_neg];intro h2;simp only[J2,beq_iff_eq]at h2;obtain⟨h3,rfl⟩:=h2;exact h 1 (by simp[sQ,xF,h3])
 have cB:∀z,zGB p q r z=dK:=by
  intro z;cases p with
  |zero u=>rfl
  |slot s0 t=>
   simp only[zGB];rw[if_neg];intro h2;simp only[J2,beq_iff_eq]at h2;obtain⟨h3,rfl⟩:=h2;have:=(Kx.1 gU.dist).1;simp[xF,h3]at this
 have pN:∀s z,Off ((r,q.length)::sQ [p]) s z→ ¬(s=r∧q<:+z):=by
  rintro s z h ⟨rfl,h2⟩
  have:=h q.length (by simp);have:=h2.length_le;omega
 have gu:kR ((r,q.length)::sQ [p]) G w G' w':=by
  refine⟨fun s z h=>ghd' s z (pN s z h),fun s z h=>gad s z (pN s z h),fun b' o' fl s z _ h1 h2=>⟨glb b' o' fl s z h1 (bD s z h2),fL b' o' fl s z h1 ?_⟩,fun b' s z h1 h2=>gow b' s z h1 (bD s z h2),eu⟩
  rintro⟨rfl,_⟩
  exact h2 q.length (by simp)
 have b6:zCN Γ w b:=by obtain⟨y',h4⟩:=zKi u0 q b ob 0 pj (by omega);exact hm.lb _ _ _ h4
 have gn:Mem Γ G' w':=by
  refine⟨fun s z=>?_,fun b' o' l hl=>?_,fun b' l hl=>?_,fun b' x' ek=>?_,fun b' h1 h2=>?_,by rw[gN];exact hm.sz,hm.bk.trans eu (by rw[←ew];rfl) (by rw[←ew];rfl)⟩
  ·by_cases h:s=r∧q<:+z
   ·obtain⟨rfl,y',rfl⟩:=h
    rw[ghd];unfold sHd;split
    ·exact hm.one _ _
    ·exact zBP _
   ·rw[ghd' s z h];exact hm.one s z
  ·have:∃l',G.lb b' o'=dJ l':=by
    rw[←gk]at hl;simp only[Gh.st]at hl;split at hl
    ·exact⟨_,by assumption⟩
    ·cases hl
   obtain⟨l',mj⟩:=this;have:=hm.lb b' o' l' mj;exact⟨by rw[gN];exact this.1,this.2⟩
  ·have:∃l',G.ow b'=dJ l':=by
    rw[←gk]at hl;simp only[Gh.st]at hl;split at hl
    ·exact⟨_,by assumption⟩
    ·cases hl
   obtain⟨l',mj⟩:=this;have:=hm.ow b' l' mj;exact⟨by rw[gN];exact this.1,this.2⟩
  ·have hb:b'≠b:=by rintro rfl;rw[b6.2.2]at ek;cases ek
   rw[gE b' hb];exact hm.st b' x' ek
  ·have hb:b'≠b:=by
    rintro rfl
    rcases b6.2.1 with h3|h3
    ·omega
    ·exact h2 h3
   rw[gE b' hb];exact hm.fr b' h1 h2
 have av:Upd G w G' w' r q:=by refine⟨fun z h=>ghd' r z (fun h2=>h h2.2),fun z h=>gad r z (fun h2=>h h2.2),fun b' o' fl z h1 h=>⟨glb b' o' fl r z h1 (cB z),fL b' o' fl r z h1 (fun h2=>h h2.2)⟩,fun b' z h1 _=>gow b' r z h1 (cB z),eu⟩
 have mP:R Γ.St G' w' r p.tree q:=by
  cases hp:p with
  |zero u=>
   refine zKg u q (gU.zero u (by simp[hp])) (fun z=>by rw[ghd];simp[sHd,hp])
  |slot s0 t=>
   obtain⟨h1,h2,h3⟩:=gU.slot s0 t (by simp[hp]);have eT:=(g9.ent s0 t h1).2.1
   by_cases cJ:sP t=dL
   ·have aD:s0≠r:=by
     rintro rfl
     have:=(Kx.1 gU.dist).1;simp[hp,xF,cJ]at this
    refine zLz t [] q h3 ⟨fun z=>by rw[ghd,Jb];simp[sHd,hp],fun z hz=>by rw[Jb];exact gadm s0 t z hp hz,fun b' o' fl z _ h4=>?_,fun b' z h4=>?_,eu⟩ (yR.mono (fun _ _=>False.elim) t h2) eT
    ·rw[Jb]at h4
     exact⟨glbm b' o' fl s0 z _ h4 (by simp[zGB,hp,cJ]),fL b' o' fl s0 z h4 (fun h5=>aD h5.1)⟩
    ·rw[Jb]at h4
     exact gowm b' s0 z _ h4 (by simp[zGB,hp,cJ])
   ·have hh:G'.hd r q=G.hd s0 []:=by have:=ghd [];rw[Jq]at this;rw[this];simp[sHd,hp]
    cases t<;>simp[sP]at cJ<;>simp only[R,yM.tree]at eT ⊢ <;>rw[hh]<;>exact eT
 have ct:vals G' r p.tree q=qG G p:=by
  cases hp:p with
  |zero u=>exact zFA u q (gU.zero u (by simp[hp])) (fun z=>by rw[ghd];simp[sHd,hp])
  |slot s0 t=>exact zB2 t [] q (fun z=>by rw[ghd];simp[sHd,hp])
 have bL:∀b' o',Loc G w r u0 q b' o'→Loc G' w' r p.tree q b' o':=by
  intro b' o' h1;have h2:b'=b∧o'=ob:=by have:=(zCm h1).symm.trans eW;simp at this;exact this
  obtain⟨rfl,rfl⟩:=h2;refine zSf p.tree u0 q b' o' ff (fun y' h=>gadf y' h) (fun b2 o2 y' h=>glb b2 o2 dM r _ h (cB _)) (fun j v hv=>?_) h1;rw[ct]at hv;have hj:=(Jo.1 hv).1;have fW:(qG G p).length=u0.size:=by rw[←hc,gA]
  rw[eL,if_pos ⟨by omega,by omega⟩,show o'+j-o'=j from by omega];exact hv
 have bx:R Γ.St G' w' r (tr.set q.reverse p.tree) []:=by
  have fV:rp q.reverse []=q:=by simp[rp]
  refine zGo q.reverse tr p.tree u0 [] (by rw[fV];exact av) e4 hg br (yR.mono (fun _ _=>False.elim) tr (bm .any).2) (by rw[fV];exact bL) (by rw[fV];exact mP)
 have gG:=run_storeCells_at P b ob et (a.eval y).cells.toList 0 cs w gK (by omega) gm;simp only[Jad]at gG;rw[ew]at gG;refine⟨w',?_,G',vV g9 rfl gu gn ?_ ?_⟩
 ·have ay:(a.eval y).cells.size=ti.size:=by rw[p5,gB]
  simp[execOp,ho,mC,eW,Instr.storeAt,tZ,storeVar,sizeOf,typeInfo,hi,ay,gG]
 ·intro s hs
  simp only[Wr.find]at hs;split at hs
  ·cases hs
  ·rename_i gg
   refine⟨fun n hn=>?_,rfl⟩;simp only[J9,Ja1.injEq]at hn;rcases hn with⟨h1,_⟩|hn
   ·exact gg h1.symm
   ·cases p with
    |zero u=>simp[sQ,xF]at hn
    |slot s0 t=>
     by_cases cJ:sP t=dL
     ·simp[sQ,xF,cJ]at hn
      simp[sWr,cJ,Wr.find,hn.1.symm]at hs
     ·simp[sQ,xF,cJ]at hn
 ·intro s t hs
  simp only[Wr.find]at hs;split at hs
  ·rename_i he
   subst he;simp at hs;subst hs;refine⟨?_,bx,Top.of_clean _ (zAa _ _ _ (bm .any).2 ?_)⟩
   ·rw[e3,xI (bm p.tree).1,xI tu]
    congr 1
    exact(ghd' r [] (fun h=>mR (by simpa using h.2))).symm
   ·cases p with
    |zero u=>exact(zBQ u (gU.zero u (by simp))).1
    |slot s0 t=>exact(gU.slot s0 t (by simp)).2.1
  ·rename_i gg
   cases hp:p with
   |zero u=>simp[sWr,hp,Wr.find]at hs
   |slot s0 t0=>
    by_cases cJ:sP t0=dL
    ·simp only[sWr,hp,cJ,if_true,Wr.find]at hs
     split at hs
     ·rename_i he
      subst he;simp at hs;subst hs;obtain⟨h1,h2,h3⟩:=gU.slot s0 t0 (by simp[hp]);refine zN5 (G:=G) (g9.ent s0 t0 h1).1 (by rintro xs rfl;simp[T.okTup]at h3) (fun z=>ghd' s0 z (fun h=>gg h.1.symm)) (fun z=>by rw[ghd];simp[sHd,hp]) (by rw[hp]at mP;exact mP)
     ·cases hs
    ·simp[sWr,hp,cJ,Wr.find]at hs
theorem zL4(T':TypeId)(ti:TypeInfo)(x y:Operand)(r:Nat)(q:List Nat)(tr u0:T)(p:yM)(ho:o.op=.store T' x y)(gc:o.dst=dK)
  (hi:P.info? T'=dJ ti)(gB:ti.size=p.tree.size)(cz:0<ti.size)(hx:opT E x=dJ (.addr r q))(hr:E r=dJ tr)(tu:tr.single=dL)(hg:tr.get q.reverse=dJ u0)(hl:tr.locd q.reverse=dL)
  (ff:uG p.tree u0=dL)(hy:zAF E y p)(gU:tR E r [p]):
  xT P Γ o E (E.app ((r,dJ (tr.set q.reverse p.tree))::sWr r q p) ((r,q.length)::sQ [p])):=
 by grind[zJe,zCE.addr]
end
end Go.Ab

namespace Go.Ab
open Go
section
variable {G G':Gh}{s:Nat}
theorem zN6(xs:List T):∀(p:List Nat)(j:Nat),(∀k,j≤k→ ∀z,G'.hd s (z++(k::p))=G.hd s (z++(k::p)))→yD G' s xs p j=yD G s xs p j:=by
 induction xs with
 |nil=>grind[yD]
 |cons z zs ih=>
  intro p j h;simp only[yD];rw[zB2 z (j::p) (j::p) (h j (Jk _)),ih p (j+1) (by grind)]
theorem zQ1(xs:List T):∀(p:List Nat)(j i:Nat)(x y:T),xs[i]? =dJ x→(∀k,k≠j+i→ ∀z,G'.hd s (z++(k::p))=G.hd s (z++(k::p)))→
  vals G' s y ((j+i)::p)=vals G s x ((j+i)::p)→yD G' s (xs.set i y) p j=yD G s xs p j:=by
 induction xs with
 |nil=>simp
 |cons z zs ih=>
  intro p j i x y h hz hy;cases i with
  |zero=>
   grind[yD,zN6]
  |succ i=>
   simp only[Kz,yD];rw[zB2 z (j::p) (j::p) (hz j (by omega)),ih p (j+1) i x y (by grind) (by grind) (by grind)]
theorem zL5:(f:List Nat)→ ∀(t u u0:T)(p:List Nat),t.get f=dJ u0→u0.single=dL→u.single=dL→(∀z,(rp f p<:+z→z=rp f p)→G'.hd s z=G.hd s z)→vals G' s (t.set f u) p=vals G s t p
 | [],t,u,u0,p,hg,h0,h1,hh=>by simp[T.get]at hg;subst hg;have:G'.hd s p=G.hd s p:=hh p (by simp[rp]);simp only[T.set];cases t<;>simp[T.single]at h0<;>cases u<;>simp[T.single]at h1<;>simp[vals,this]
 |i::f,t,u,u0,p,hg,h0,h1,hh=>by
  rw[zB0]at hh;have hp:G'.hd s p=G.hd s p:=by grind[zAu]
  cases t with
  |agg xs=>
   simp only[T.get]at hg;cases hx:xs[i]? with
   |none=>grind
   |some x=>
    rw[hx]at hg;simp only[T.set,hx,vals];refine zQ1 xs p 0 i x _ hx (by grind[kW]) ?_;rw[Jd];exact zL5 f x u u0 (i::p) hg h0 h1 hh
  |tup xs=>
   grind[T.set,vals]
  |sl k xs=>grind[T.set,vals]
  |ptr t=>grind[T.set,vals]
  |_=>grind[T.get]
theorem zL6(f:List Nat)(t u u0:T)(p:List Nat)(hg:t.get f=dJ u0)(h0:u0.single=dL)(h1:u.single=dL)(hh:∀z,(rp f p<:+z→z=rp f p)→G'.hd s z=G.hd s z)(gZ:∀xs,t≠.tup xs):
  sO G' s (t.set f u) p=sO G s t p:=by
 have h:=zL5 f t u u0 p hg h0 h1 hh;cases f with
 |nil=>
  simp[T.get]at hg;subst hg;have:G'.hd s p=G.hd s p:=hh p (by simp[rp]);simp only[T.set];cases t<;>simp[T.single]at h0<;>cases u<;>simp[T.single]at h1<;>simp[sO,this]
 |cons i f=>
  rw[zB0]at hh;have hp:G'.hd s p=G.hd s p:=by grind[zAu]
  cases t with
  |agg xs=>
   grind[T.set,vals,sO]
  |tup xs=>grind
  |sl k xs=>grind[T.set,sO]
  |ptr t=>grind[T.set,sO]
  |_=>grind[T.get]
theorem zQ2(xs:List T):∀(p:List Nat)(j:Nat),(∀k,j≤k→ ∀z,G'.hd s (z++(k::p))=G.hd s (z++(k::p)))→zA1 G' s xs p j=zA1 G s xs p j:=by
 induction xs with
 |nil=>grind[zA1]
 |cons z zs ih=>
  intro p j h;simp only[zA1];rw[zCl z (j::p) (j::p) (h j (Jk _)),ih p (j+1) (by grind)]
theorem zSg(xs:List T):∀(p:List Nat)(j i:Nat)(x y:T),xs[i]? =dJ x→(∀k,k≠j+i→ ∀z,G'.hd s (z++(k::p))=G.hd s (z++(k::p)))→
  sO G' s y ((j+i)::p)=sO G s x ((j+i)::p)→zA1 G' s (xs.set i y) p j=zA1 G s xs p j:=by
 induction xs with
 |nil=>simp
 |cons z zs ih=>
  intro p j i x y h hz hy;cases i with
  |zero=>
   grind[zA1,zQ2]
  |succ i=>
   simp only[Kz,zA1];rw[zCl z (j::p) (j::p) (hz j (by omega)),ih p (j+1) i x y (by grind) (by grind) (by grind)]
def wJ:T→Bool
 |.tup xs=>xs.all fun x=>match x with
  |.tup _=>dM
  |_=>dL
 |_=>dL
theorem zKj(f:List Nat)(t u u0:T)(p:List Nat)(hg:t.get f=dJ u0)(h0:u0.single=dL)(h1:u.single=dL)(hh:∀z,(rp f p<:+z→z=rp f p)→G'.hd s z=G.hd s z)(pT:wJ t=dL):
  mkV G' s (t.set f u) p=mkV G s t p:=by
 by_cases ht:∃xs,t=.tup xs
 ·obtain⟨xs,rfl⟩:=ht
  cases f with
  |nil=>grind[T.get,T.single]
  |cons i f=>
   rw[zB0]at hh;simp only[T.get]at hg;cases hx:xs[i]? with
   |none=>grind
   |some x=>
    rw[hx]at hg;simp only[T.set,hx,mkV];rw[zSg xs p 0 i x _ hx (fun k hk z=>hh _ (fun h=>absurd h (kW (by omega) z)))];rw[Jd];refine zL6 f x u u0 (i::p) hg h0 h1 hh ?_
    rintro ys rfl
    simp only[wJ]at pT;have:=K8.1 pT _ (Lj hx)
    grind
 ·have gZ:∀xs,t≠.tup xs:=by grind
  rw[zA2 G s t p gZ,←zL6 f t u u0 p hg h0 h1 hh gZ];refine zA2 G' s _ p ?_
  rintro xs eZ
  cases f with
  |nil=>grind[T.set,T.single]
  |cons i f=>cases t<;>simp only[T.set]at eZ<;>first|grind|grind|cases eZ
end
theorem zEN:(f:List Nat)→ ∀(t u:T),Top t→zW u→Top (t.set f u)
 | [],t,u,_,hu=>by grind[T.set,Top.of_clean]
 |i::f,t,u,ht,hu=>by
  cases t with
  |sl k xs=>
   refine Top.of_clean _ (zAa (i::f) _ u (by simpa only[Top,zW,yR]using ht) hu)
  |ptr t=>exact Top.of_clean _ (zAa (i::f) _ u (by simpa only[Top,zW,yR]using ht) hu)
  |agg xs=>
   simp only[T.set];split
   ·rename_i x hx
    simp only[Top]at ht ⊢
    exact tops_set xs i _ ht (zEN f x u (tops_get xs ht i x hx) hu)
   ·exact ht
  |tup xs=>
   simp only[T.set];split
   ·rename_i x hx
    simp only[Top]at ht ⊢
    exact tops_set xs i _ ht (zEN f x u (tops_get xs ht i x hx) hu)
   ·exact ht
  |_=>grind[T.set]
where
 tops_set:(xs:List T)→ ∀(i:Nat)(y:T),uF xs→Top y→uF (xs.set i y)
  | [],_,_,_,_=>by simp[uF]
  |x::xs,0,y,h,hy=>by simp only[Lx,uF]at h ⊢;grind
  |x::xs,i+1,y,h,hy=>by simp only[Kz,uF]at h ⊢;exact⟨h.1,tops_set xs i y h.2 hy⟩
 tops_get:(xs:List T)→uF xs→ ∀(i:Nat)(x:T),xs[i]? =dJ x→Top x
  | [],_,_,_,h=>by simp at h
  |y::ys,hk,i,x,h=>by
   simp only[uF]at hk;cases i with
   |zero=>grind
   |succ i=>exact tops_get ys hk.2 i x (by grind)
def Gh.tr(G:Gh)(d:Nat)(g:List Nat)(r:Nat)(p:List Nat):Gh where
 hd s z:=if s=d∧g<:+z then G.hd r (z.take (z.length-g.length)++p)else G.hd s z
 ad s z:=if s=d∧g<:+z∧z≠g then G.ad r (z.take (z.length-g.length)++p)else G.ad s z
 lb b o:=match G.lb b o with
  |some (fl,s,z)=>if s=r∧p<:+z∧(fl=dL∨z≠p)then dJ (fl,d,z.take (z.length-p.length)++g)else dJ (fl,s,z)
  |none=>dK
 ow b:=match G.ow b with
  |some (s,z)=>if s=r∧p<:+z then dJ (d,z.take (z.length-p.length)++g)else dJ (s,z)
  |none=>dK
theorem zGs{t:T}(h:t.single=dL):t.size=1:=by cases t<;>simp[T.single]at h<;>simp[T.size]
theorem zHp{Γ:Ctx}{E:Env}{G:Gh}{tmps:Array Value}{w:World}(g9:Rep Γ E G tmps w)(d:Nat)(g:List Nat)(r:Nat)(p:List Nat)(td tr u v0:T)(hd:E d=dJ td)(hg:td.get g.reverse=dJ v0)(bh:v0.single=dL)(ee:G.hd d g=G.hd r p)(hr:E r=dJ tr)
  (hp:tr.get p.reverse=dJ u)(hu:u.single=dL)(eP:zW u)(gW:d≠r)(mc:td.okB [(d,g.length+1),(r,p.length+1)]=dL)(pg:tr.okB [(d,g.length+1),(r,p.length+1)]=dL)(fc:wJ td=dL)(fb:wJ tr=dL):
  Rep Γ (E.app [(d,dJ (td.set g.reverse u)),(r,dJ (if p=[]then .same d g else tr.set p.reverse .any))] [(d,g.length+1),(r,p.length+1)]) (G.tr d g r p) tmps w∧ ∀s z,¬(s=d∧g<:+z∧z≠g)→(G.tr d g r p).hd s z=G.hd s z:=by
 obtain⟨d1,d2,d3⟩:=g9.ent d td hd;obtain⟨r1,r2,r3⟩:=g9.ent r tr hr;have hm:=g9.mem;have mP:=(zB1 p.reverse tr u [] r2 hp).1;simp only[rp,K5,Jb]at mP;have gK:Blk w w:=fun b cs e' h=>⟨cs,h,rfl⟩
 generalize gk:G.tr d g r p=G'
 have ghd:∀z,G'.hd d (z++g)=G.hd r (z++p):=fun z=>by rw[←gk];simp[Gh.tr]
 have ghd0:∀s z,¬(s=d∧g<:+z∧z≠g)→G'.hd s z=G.hd s z:=by
  intro s z h;rw[←gk];simp only[Gh.tr]
  by_cases h2:s=d∧g<:+z
  ·have h3:z=g:=by
    rcases Decidable.em (z=g)with e|e
    ·exact e
    ·exact absurd ⟨h2.1,h2.2,e⟩ h
   subst h3;rw[if_pos h2,h2.1];simpa using ee.symm
  ·rw[if_neg h2]
 have gad0:∀s z,¬(s=d∧g<:+z∧z≠g)→G'.ad s z=G.ad s z:=fun s z h=>by rw[←gk];simp only[Gh.tr];rw[if_neg h]
 have gad:∀z,z≠[]→G'.ad d (z++g)=G.ad r (z++p):=fun z h=>by rw[←gk];simp only[Gh.tr];rw[if_pos (by simpa using h)];simp
 have glb0:∀b o fl s z,G.lb b o=dJ (fl,s,z)→ ¬(s=r∧p<:+z∧(fl=dL∨z≠p))→G'.lb b o=dJ (fl,s,z):=fun b o fl s z h1 h2=>by rw[←gk];simp only[Gh.tr,h1];rw[if_neg h2]
 have glb:∀b o fl z,G.lb b o=dJ (fl,r,z++p)→(fl=dL∨z≠[])→G'.lb b o=dJ (fl,d,z++g):=fun b o fl z h1 h2=>by rw[←gk];simp only[Gh.tr,h1];rw[if_pos (by simpa using h2)];simp
 have gow0:∀b s z,G.ow b=dJ (s,z)→ ¬(s=r∧p<:+z)→G'.ow b=dJ (s,z):=fun b s z h1 h2=>by rw[←gk];simp only[Gh.tr,h1];rw[if_neg h2]
 have gow:∀b z,G.ow b=dJ (r,z++p)→G'.ow b=dJ (d,z++g):=fun b z h1=>by rw[←gk];simp only[Gh.tr,h1];rw[if_pos (by simp)];simp
 have gH:∀s z,Off [(d,g.length+1),(r,p.length+1)] s z→ ¬(s=d∧g<:+z∧z≠g):=by
  rintro s z h ⟨rfl,⟨y,rfl⟩,h3⟩
  have:=h (g.length+1) (by simp);have:y=[]:=Kb (by simp at this;omega);exact h3 (by simp[this])
 have gu:kR [(d,g.length+1),(r,p.length+1)] G w G' w:=by
  refine⟨fun s z h=>ghd0 s z (gH s z h),fun s z h=>gad0 s z (gH s z h),fun b o fl s z _ h1 h2=>⟨glb0 b o fl s z h1 ?_,rfl⟩,fun b s z h1 h2=>gow0 b s z h1 ?_,gK⟩
  ·rintro⟨rfl,_⟩;exact h2 (p.length+1) (by simp)
  ·rintro⟨rfl,_⟩;exact h2 (p.length+1) (by simp)
 have gn:Mem Γ G' w:=by
  refine⟨fun s z=>?_,fun b o l hl=>?_,fun b l hl=>?_,hm.st,hm.fr,hm.sz,hm.bk⟩
  ·rw[←gk]
   simp only[Gh.tr];split
   ·exact hm.one _ _
   ·exact hm.one _ _
  ·have:∃l',G.lb b o=dJ l':=by
    rw[←gk]at hl;simp only[Gh.tr]at hl;split at hl
    ·exact⟨_,by assumption⟩
    ·cases hl
   obtain⟨l',mj⟩:=this;exact hm.lb b o l' mj
  ·have:∃l',G.ow b=dJ l':=by
    rw[←gk]at hl;simp only[Gh.tr]at hl;split at hl
    ·exact⟨_,by assumption⟩
    ·cases hl
   obtain⟨l',mj⟩:=this;exact hm.ow b l' mj
 have fV:∀q:List Nat,rp q.reverse []=q:=fun q=>by simp[rp]
 have hud:R Γ.St G' w d u g:=by
  refine zAS (G:=G) (w:=w) (s:=r) (p:=p) ⟨⟨ghd,gad,fun b o f z hz _ hl=>⟨glb b o f z hl (.inr hz),rfl⟩,fun b z _ hl=>gow b z hl,gK⟩,fun b o _ hl=>⟨by simpa using glb b o dL [] (by simpa using hl) (.inl rfl),rfl⟩,fun b hl=>by simpa using gow b [] (by simpa using hl)⟩ u
   (yR.mono (fun _ _=>False.elim) u eP) mP
 have bi:Upd G w G' w d g:=⟨fun z h=>ghd0 d z (fun h2=>h h2.2.1),fun z h=>gad0 d z (fun h2=>h h2.2.1),fun b o f z h1 _=>⟨glb0 b o f d z h1 (fun h2=>gW h2.1),rfl⟩,fun b z h1 _=>gow0 b d z h1 (fun h2=>gW h2.1),gK⟩;have bM:∀b o,Loc G w d v0 g b o→Loc G' w d u g b o:=by intro b o h1;obtain⟨h2,h3,h4⟩:=wT bh h1;have h5:G'.ad d g=⟨b,o,dK⟩∧G'.lb b o=dJ (dM,d,g)∧yL w b o=dJ (G'.hd d g):=⟨(gad0 d g (fun h=>h.2.2 rfl)).trans h2,glb0 b o dM d g h3 (fun h=>gW h.1),by rw[h4,ghd0 d g (fun h=>h.2.2 rfl)]⟩;cases u<;>simp[T.single]at hu<;>simpa only[Loc]using h5
 have tf:R Γ.St G' w d (td.set g.reverse u) []:=
  zGo g.reverse td u v0 [] (by rw[fV];exact bi) d2 hg (by rw[zGs bh,zGs hu]) (gu.keepR (zAT td d3 mc)) (by rw[fV];exact bM) (by rw[fV];exact hud)
 have hVd:mkV G' d (td.set g.reverse u) []=mkV G d td []:=
  zKj g.reverse td u v0 [] hg bh hu (fun z hz=>ghd0 d z (fun h2=>h2.2.2 (by rw[fV]at hz;exact hz h2.2.1))) fc
 have hRr:p≠[]→R Γ.St G' w r (tr.set p.reverse .any) []:=by intro mT;refine zGo p.reverse tr .any u [] (by rw[fV];exact⟨fun z _=>ghd0 r z (fun h2=>gW h2.1.symm),fun z _=>gad0 r z (fun h2=>gW h2.1.symm),fun b o f z h1 h=>⟨glb0 b o f r z h1 (fun h2=>h h2.2.1),rfl⟩,fun b z h1 h=>gow0 b r z h1 (fun h2=>h h2.2),gK⟩) r2 hp (by cases u<;>simp[T.single]at hu<;>simp[T.size]) (gu.keepR (zAT tr r3 pg)) ?_ (by simp only[R]);rw[fV];intro b o h1;obtain⟨h2,h3,h4⟩:=wT hu h1;simp only[Loc];exact⟨(gad0 r p (fun h=>gW h.1.symm)).trans h2,glb0 b o dM r p h3 (by simp),by rw[h4,ghd0 r p (fun h=>gW h.1.symm)]⟩
 have hVr:p≠[]→mkV G' r (tr.set p.reverse .any) []=mkV G r tr []:=fun _=>
  zKj p.reverse tr .any u [] hp hu rfl (fun z _=>ghd0 r z (fun h2=>gW h2.1.symm)) fb
 refine⟨vV g9 rfl gu gn ?_ ?_,ghd0⟩
 ·intro s hs
  simp only[Wr.find]at hs;split at hs
  ·cases hs
  ·rename_i h1
   split at hs
   ·cases hs
   ·rename_i h2
    refine⟨fun n hn=>?_,rfl⟩;simp only[J9,Ja1.injEq,Q8,or_false]at hn;rcases hn with⟨e,_⟩|⟨e,_⟩
    ·exact h1 e.symm
    ·exact h2 e.symm
 ·intro s t hs
  simp only[Wr.find]at hs;split at hs
  ·rename_i he
   subst he;simp at hs;subst hs;exact⟨by rw[d1,hVd],tf,zEN _ _ _ d3 eP⟩
  ·split at hs
   ·rename_i he
    subst he;simp at hs
    by_cases mT:p=[]
    ·rw[if_pos mT]at hs
     subst hs;subst mT;simp[T.get]at hp;subst hp;refine⟨?_,?_,by simp[Top]⟩
     ·rw[r1,xI hu,xI rfl,ghd0 r [] (fun h=>gW h.1.symm)]
     ·simp only[R]
      rw[ghd0 r [] (fun h=>gW h.1.symm)];have:=ghd [];simpa using this.symm
    ·rw[if_neg mT]at hs
     subst hs;exact⟨by rw[r1,hVr mT],hRr mT,zEN _ _ _ r3 (by simp[zW,yR])⟩
   ·cases hs
theorem zN7{Γ:Ctx}{E:Env}{a:Act}{w:World}(h:Sim Γ E a w)(d:Nat)(g:List Nat)(r:Nat)(p:List Nat)(td tr u:T)(hd:E d=dJ td)(hg:td.get g.reverse=dJ (.same r p))(hr:E r=dJ tr)
  (hp:tr.get p.reverse=dJ u)(hu:u.single=dL)(eP:zW u)(gW:d≠r)(mc:td.okB [(d,g.length+1),(r,p.length+1)]=dL)(pg:tr.okB [(d,g.length+1),(r,p.length+1)]=dL)(fc:wJ td=dL)(fb:wJ tr=dL):
  Sim Γ (E.app [(d,dJ (td.set g.reverse u)),(r,dJ (if p=[]then .same d g else tr.set p.reverse .any))] [(d,g.length+1),(r,p.length+1)]) a w:=by
 obtain⟨e6,G,g9⟩:=h;have ee:=(zB1 g.reverse td _ [] (g9.ent d td hd).2.1 hg).1;simp only[rp,K5,Jb,R]at ee;exact⟨e6,_,(zHp g9 d g r p td tr u _ hd hg rfl ee hr hp hu eP gW mc pg fc fb).1⟩
end Go.Ab

namespace Go.Ab
open Go
theorem zKk{St:Stb}{G:Gh}{w:World}{s:Nat}{k:Nat}:(xs:List T)→ ∀(p:List Nat)(j b o:Nat),(∀i x,xs[i]? =dJ x→Loc G w s x ((j+i)::p) b (o+i*k)∧x.size=k∧R St G w s x ((j+i)::p))→RL St G w s xs p j b o k
 | [],_,_,_,_,_=>by simp only[RL]
 |x::xs,p,j,b,o,h=>by
  obtain⟨h1,h2,h3⟩:=h 0 x (by simp);simp only[RL];refine⟨⟨by simpa using h1,h2⟩,by simpa using h3,zKk xs p (j+1) b (o+k) (fun i y hy=>?_)⟩;have:=h (i+1) y (by simpa using hy)
  rwa [show j+(i+1)=j+1+i from by omega,show o+(i+1)*k=o+k+i*k from by rw[K7];omega]at this
theorem zAb{St:Stb}{G:Gh}{w:World}{s:Nat}{k:Nat}:(xs:List T)→ ∀(p:List Nat)(j b o:Nat),RL St G w s xs p j b o k→vB G w s xs p j b o
 | [],_,_,_,_,_=>by simp only[vB]
 |x::xs,p,j,b,o,h=>by simp only[RL]at h;simp only[vB];exact⟨h.1.1,zAb xs p (j+1) b (o+x.size) (by rw[h.1.2];exact h.2.2)⟩
theorem zBT{St:Stb}{G:Gh}{w:World}{s:Nat}{k:Nat}:(xs:List T)→ ∀(p:List Nat)(j b o:Nat),RL St G w s xs p j b o k→RF St G w s xs p j∧ ∀x∈xs,x.size=k
 | [],_,_,_,_,_=>by simp[RF]
 |x::xs,p,j,b,o,h=>by simp only[RL]at h;obtain⟨h1,h2⟩:=zBT xs p (j+1) b (o+k) h.2.2;exact⟨by simp only[RF];exact⟨h.2.1,h1⟩,fun y hy=>by rcases J9.1 hy with rfl|hy;exact h.1.2;exact h2 y hy⟩
section
variable {G:Gh}{w:World}{G':Gh}{w':World}{s s':Nat}
mutual
theorem zHq:(t:T)→ ∀(p p':List Nat)(b o:Nat),(∀z,G'.hd s' (z++p')=G.hd s (z++p))→(∀z,G'.ad s' (z++p')=G.ad s (z++p))→
  (∀b o z,G.lb b o=dJ (dM,s,z++p)→G'.lb b o=dJ (dM,s',z++p')∧yL w' b o=yL w b o)→Loc G w s t p b o→Loc G' w' s' t p' b o
 |.agg xs,p,p',b,o,hh,ha,hl,h=>by
  simp only[Loc]at h ⊢
  exact⟨by have:=ha [];simp at this;rw[this];exact h.1,zJf xs p p' 0 b o hh ha hl h.2⟩
 |.any,p,p',b,o,hh,ha,hl,h|.lit _,p,p',b,o,hh,ha,hl,h|.ro _,p,p',b,o,hh,ha,hl,h|.same _ _,p,p',b,o,hh,ha,hl,h|.addr _ _,p,p',b,o,hh,ha,hl,h|.sub _ _ _ _ _,p,p',b,o,hh,ha,hl,h|.sl _ _,p,p',b,o,hh,ha,hl,h|.ptr _,p,p',b,o,hh,ha,hl,h=>by
  simp only[Loc]at h ⊢
  have h1:=hl b o [] (by simpa using h.2.1);have h2:=ha [];have h3:=hh [];simp only[Jq]at h1 h2 h3;exact⟨h2.trans h.1,h1.1,by rw[h1.2,h.2.2,h3]⟩
 |.tup _,_,_,_,_,_,_,_,h=>by simp only[Loc]at h
theorem zJf:(xs:List T)→ ∀(p p':List Nat)(j b o:Nat),(∀z,G'.hd s' (z++p')=G.hd s (z++p))→(∀z,G'.ad s' (z++p')=G.ad s (z++p))→
  (∀b o z,G.lb b o=dJ (dM,s,z++p)→G'.lb b o=dJ (dM,s',z++p')∧yL w' b o=yL w b o)→vB G w s xs p j b o→vB G' w' s' xs p' j b o
 | [],_,_,_,_,_,_,_,_,_=>by simp only[vB]
 |x::xs,p,p',j,b,o,hh,ha,hl,h=>by
  simp only[vB]at h ⊢
  exact⟨zHq x (j::p) (j::p') b o (fun z=>by have:=hh (z++[j]);simpa using this) (fun z=>by have:=ha (z++[j]);simpa using this) (fun b o z hz=>by have:=hl b o (z++[j]) (by simpa using hz);simpa using this) h.1,
   zJf xs p p' (j+1) b _ hh ha hl h.2⟩
end
end
theorem zEO(G:Gh)(s:Nat):∀(xs us:List T)(p:List Nat)(j:Nat),yD G s (xs++us) p j=yD G s xs p j++yD G s us p (j+xs.length)
 | [],us,p,j=>by simp[yD]
 |x::xs,us,p,j=>by simp[yD,zEO G s xs us p (j+1),H3,Nat.add_comm 1]
theorem zEP:∀(xs us:List T),T.sizes (xs++us)=T.sizes xs+T.sizes us
 | [],us=>by simp[T.sizes]
 |x::xs,us=>by simp[T.sizes,zEP xs us,H3]
theorem zEb:∀(xs us:List T),yJ xs=dL→yJ us=dL→yJ (xs++us)=dL
 | [],us,_,h=>h
 |x::xs,us,h,h'=>by
  simp only[yJ,J2,Kd]at h ⊢
  exact⟨h.1,zEb xs us h.2 h'⟩
theorem zEc:∀(xs us:List T),yT xs→yT us→yT (xs++us)
 | [],us,_,h=>h
 |x::xs,us,h,h'=>by
  simp only[yT,xH,Kd]at h ⊢
  exact⟨h.1,zEc xs us h.2 h'⟩
theorem zAw{St:Stb}{G:Gh}{w:World}{s:Nat}{k:Nat}:(xs:List T)→ ∀(p:List Nat)(j b o:Nat),vB G w s xs p j b o→yJ xs=dL
 | [],_,_,_,_,_=>rfl
 |x::xs,p,j,b,o,h=>by simp only[vB]at h;simp only[yJ,J2];exact⟨one x (j::p) b o h.1,zAw (St:=St) (k:=k) xs p (j+1) b _ h.2⟩
where
 one:(t:T)→ ∀(p:List Nat)(b o:Nat),Loc G w s t p b o→t.okTup=dL
  |.agg xs,p,b,o,h=>by simp only[Loc]at h;simp only[T.okTup];exact zAw (St:=St) (k:=k) xs p 0 b o h.2
  |.tup _,_,_,_,h=>by simp only[Loc]at h
  |.any,_,_,_,_|.lit _,_,_,_,_|.ro _,_,_,_,_|.same _ _,_,_,_,_|.addr _ _,_,_,_,_|.sub _ _ _ _ _,_,_,_,_|.sl _ _,_,_,_,_|.ptr _,_,_,_,_=>rfl
section
variable {P:Program}
structure zHr (P:Program) (t2:TypeId) (e:TypeId) (ti:TypeInfo) (xv:Value) (m:Nat) (nv:List Value) (w:World):Prop where
 arg:(∃e2 xa c,P.underlying t2=dJ (.slice e2)∧xv=.slice xa m c∧ ∀w2:World,w2.heap=w.heap→(Builtin.firstCells ti.size m (.slice xa m c)).run P w2=.ok nv.toArray w2)∨
  ∃k2 k3 z,P.underlying t2=dJ (.int k2)∧xv=.int k3 (m:Int)∧ti.zero=dJ z∧nv.toArray=Builtin.zeroCells z.cells m∧m*ti.bytes≤2 ^ 47∧z.cells.size=ti.size
theorem zEQ{t t2 ty e:TypeId}{ti:TypeInfo}{xv:Value}{m:Nat}{nv:List Value}{w w':World}(ht:P.underlying t=dJ (.slice e))(hi:P.info? e=dJ ti)
  (hx:zHr P t2 e ti xv m nv w)(hm:m≤68719476736){base:Option Addr}{n cap:Nat}(gS:n+m≤cap)
  (gG:(if let dJ a:=base then storeCells (a.add (n*ti.size)) nv else pure ():Sem Unit).run P w=.ok () w'):
  (Builtin.append_ #[t,t2] ty #[.slice base n cap,xv]).run P w=.ok (.slice base (n+m) cap) w':=by
 rcases hx.arg with⟨e2,xa,c,h1,rfl,h2⟩|⟨k2,k3,z,h1,rfl,h2,h3,h4,h5⟩
 ·have h2:=h2 w rfl
  cases base with
  |none=>
   simp at gG;subst gG;simp[Builtin.append_,run_underlying ht,run_underlying h1,sizeOf,typeInfo,hi,Builtin.lenOf,gS,h2]
  |some a=>
   simp only at gG;simp[Builtin.append_,run_underlying ht,run_underlying h1,sizeOf,typeInfo,hi,Builtin.lenOf,gS,h2,gG]
 ·have pX:IntKind.i64.wrap (m:Int)=m:=by rw[IntKind.wrap_i64];omega
  have mH:¬(281474976710656<(m:Int)*(ti.bytes:Int)):=by
   have:((m*ti.bytes:Nat):Int)≤2 ^ 47:=by exact_mod_cast h4
   rw[Um]at this;omega
  have fH:¬((m:Int)<0):=by omega
  have mU:nv=(Builtin.zeroCells z.cells m).toList:=by rw[←h3]
  by_cases hz:m*ti.size=0
  ·have md:nv=[]:=by
    apply Kb;rw[mU];simp[Builtin.zeroCells,h5,hz]
   subst md;cases base with
   |none=>
    simp at gG;subst gG;simp[Builtin.append_,run_underlying ht,run_underlying h1,sizeOf,typeInfo,hi,asInt,asIntOf,pX,mH,fH,gS,hz]
   |some a=>
    simp only[storeCells,Sem.run_pure]at gG;cases gG;simp[Builtin.append_,run_underlying ht,run_underlying h1,sizeOf,typeInfo,hi,asInt,asIntOf,pX,mH,fH,gS,hz,storeCells]
  ·cases base with
   |none=>
    simp at gG;subst gG;simp[Builtin.append_,run_underlying ht,run_underlying h1,sizeOf,typeInfo,zeroValue,hi,h2,asInt,asIntOf,pX,mH,fH,gS]
   |some a=>
    simp only[mU]at gG;simp[Builtin.append_,run_underlying ht,run_underlying h1,sizeOf,typeInfo,zeroValue,hi,h2,asInt,asIntOf,pX,mH,fH,gS,hz,gG]
theorem zKl{t t2 ty e:TypeId}{ti:TypeInfo}{z xv:Value}{m:Nat}{nv olds:List Value}{w:World}(ht:P.underlying t=dJ (.slice e))(hi:P.info? e=dJ ti)(hz:ti.zero=dJ z)
  (hx:zHr P t2 e ti xv m nv w){base:Option Addr}{n cap:Nat}(gV:cap<n+m)(ch:n+m≤68719476736)(hb:ti.bytes≤2048)
  (gE:∀w2:World,w2.heap=w.heap→(Builtin.firstCells ti.size n (.slice base n cap)).run P w2=.ok olds.toArray w2):
  (Builtin.append_ #[t,t2] ty #[.slice base n cap,xv]).run P w=.ok (.slice (dJ ⟨w.heap.size,0,dK⟩) (n+m) (grownCap w (n+m) cap e))
    (w.drew.alloc (.cells ((olds++nv).toArray++Builtin.zeroCells z.cells (grownCap w (n+m) cap e-(n+m))) e)):=by
 have hn:¬(n+m≤cap):=by omega
 have mF:¬(9223372036854775807<((n:Int)+(m:Int))):=by omega
 have dj:=growslice_fits (need:=n+m) (old:=cap) (bytes:=ti.bytes) gV (Hl (Ka ch hb) (by decide));have mG:¬(281474976710656<Builtin.nextslicecap (n+m) cap*ti.bytes):=by omega
 have ho:=gE w.drew rfl;rcases hx.arg with⟨e2,xa,c,h1,rfl,h2⟩|⟨k2,k3,z',h1,rfl,h2,h3,h4,h5⟩
 ·have h2:=h2 w.drew rfl
  simp[Builtin.append_,run_underlying ht,run_underlying h1,sizeOf,typeInfo,zeroValue,hi,hz,Builtin.lenOf,hn,mF,mG,Question.forced,h2,ho,newRow,grownCap]
  congr 2
  apply Jah;simp
 ·have pX:IntKind.i64.wrap (m:Int)=m:=by rw[IntKind.wrap_i64];omega
  have mH:¬(281474976710656<(m:Int)*(ti.bytes:Int)):=by
   have:((m*ti.bytes:Nat):Int)≤2 ^ 47:=by exact_mod_cast h4
   rw[Um]at this;omega
  have fH:¬((m:Int)<0):=by omega
  have mU:nv=(Builtin.zeroCells z'.cells m).toList:=by rw[←h3]
  rw[hz]at h2;simp at h2;subst h2
  by_cases pz:m*ti.size=0
  ·have md:nv=[]:=by
    apply Kb;rw[mU];simp[Builtin.zeroCells,h5,pz]
   subst md;simp[Builtin.append_,run_underlying ht,run_underlying h1,sizeOf,typeInfo,zeroValue,hi,hz,asInt,asIntOf,pX,mH,fH,hn,mF,mG,Question.forced,pz,ho,newRow,grownCap]
  ·simp[Builtin.append_,run_underlying ht,run_underlying h1,sizeOf,typeInfo,zeroValue,hi,hz,asInt,asIntOf,pX,mH,fH,hn,mF,mG,Question.forced,pz,ho,newRow,grownCap,←h3]
   congr 2
   apply Jah;simp
end
def zEu(s0:Nat)(y:Option Nat)(n:Nat)(s:Nat)(z:List Nat):Option (List Nat):=
 if s=s0 then dJ z else if y=dJ s then(match z.getLast? with
  |some j=>dJ (z.dropLast++[n+j])
  |none=>dK)else dK
def Gh.ip(G:Gh)(d s0:Nat)(y:Option Nat)(b n k oa:Nat)(us:List T)(f2:Nat→List Nat→Value)(gW:Value):Gh where
 hd s z:=if s=d then(match z.getLast? with
  |some i=>if i<n then G.hd s0 z else f2 (i-n) z.dropLast
  |none=>gW)else G.hd s z
 ad s z:=if s=d then(match z.getLast? with
  |some i=>if i<n then G.ad s0 z else if(T.agg us).inT ((i-n)::z.dropLast.reverse)then⟨b,oa+(T.agg us).offT ((i-n)::z.dropLast.reverse),dK⟩else(match y with
   |some y=>G.ad y (z.dropLast++[i-n])
   |none=>default)
  |none=>default)else G.ad s z
 lb b' o:=if b'=b∧oa≤o∧o<oa+us.length*k then(match zCQ us [] n (o-oa)with
  |some p=>dJ (dM,d,p)
  |none=>dK)else match G.lb b' o with
  |some (fl,s,z)=>(match zEu s0 y n s z with
   |some z'=>dJ (fl,d,z')
   |none=>dJ (fl,s,z))
  |none=>dK
 ow b':=match G.ow b' with
  |some (s,z)=>(match zEu s0 y n s z with
   |some z'=>dJ (d,z')
   |none=>dJ (s,z))
  |none=>dK
def aWr(d s0:Nat)(y:Option Nat)(k:Nat)(ts:List T):Wr:=(d,dJ (.sl k ts))::(s0,dJ .any)::(match y with
 |some y=>[(y,dJ .any)]
 |none=>[])
def zBw(d s0:Nat)(y:Option Nat):Chg:=(d,0)::(s0,1)::(match y with
 |some y=>[(y,1)]
 |none=>[])
structure zHs (Γ:Ctx) (E:Env) (G:Gh) (d s0:Nat) (y:Option Nat) (k n:Nat) (us:List T) (f2:Nat→List Nat→Value) (nv:List Value):Prop where
 size:∀u∈us,u.size=k
 tup:yJ us=dL
 clean:yT us
 one:∀j z,(f2 j z).oneCell'=dL
 len:nv.length=us.length*k
 slot:∀y',y=dJ y'→y'≠d∧y'≠s0∧E y'=dJ (.sl k us)∧ ∀j z,f2 j z=G.hd y' (z++[j])
 none:y=dK→ ∀(j:Nat) u,us[j]? =dJ u→ ∀(G2:Gh)(w2:World),(∀z,G2.hd d (z++[n+j])=f2 j z)→R Γ.St G2 w2 d u [n+j]
 vals:∀(G2:Gh),(∀j z,G2.hd d (z++[n+j])=f2 j z)→ ∀(o:Nat)(v:Value),(yD G2 d us [] n)[o]? =dJ v→nv[o]? =dJ v
theorem zL7{G G2:Gh}{s d:Nat}:(xs:List T)→ ∀(p:List Nat)(j:Nat),(∀i,i<xs.length→ ∀z,G2.hd d (z++((j+i)::p))=G.hd s (z++((j+i)::p)))→yD G2 d xs p j=yD G s xs p j
 | [],_,_,_=>by simp only[yD]
 |x::xs,p,j,h=>by
  simp only[yD];have ih:yD G2 d xs p (j+1)=yD G s xs p (j+1):=zL7 xs p (j+1) (fun i hi z=>by rw[show j+1+i=j+(i+1)from by omega];exact h (i+1) (by simpa using hi) z)
  rw[zB2 x (j::p) (j::p) (by simpa using h 0 (by simp)),ih]
theorem zIG(z:List Nat):z=[]∨ ∃y i,z=y++[i]:=by
 rcases List.eq_nil_or_concat z with h|⟨y,i,h⟩
 ·exact .inl h
 ·exact .inr ⟨y,i,by simpa using h⟩
section
variable {P:Program}{Γ:Ctx}{E:Env}{d:Nat}
theorem zCo{G:Gh}{a:Act}{w:World}(g9:Rep Γ E G a.tmps w)(hd:d<Γ.N){t t2 ty e:TypeId}{ti:TypeInfo}{z:Value}{k:Nat}(ht:P.underlying t=dJ (.slice e))(hi:P.info? e=dJ ti)(hz:ti.zero=dJ z)
  (hk:ti.size=k)(_hk0:0<k)(fy:z.cells.size=k)(hb:ti.bytes≤2048){s0:Nat}{y:Option Nat}{xs us:List T}{f2:Nat→List Nat→Value}{nv:List Value}(ey:E s0=dJ (.sl k xs))(f7:s0≠d)
  (hn:zHs Γ E G d s0 y k xs.length us f2 nv){xv:Value}(hx:zHr P t2 e ti xv us.length nv w)(gm:∀v∈nv,v.oneCell'=dL)(ch:xs.length+us.length≤68719476736):
  ∃v w',(Builtin.append_ #[t,t2] ty #[G.hd s0 [],xv]).run P w=.ok v w'∧ ∃G',Rep Γ (E.app (aWr d s0 y k (xs++us)) (zBw d s0 y)) G' (a.tmps.setIfInBounds d v) w':=by
 have hm:=g9.mem;obtain⟨e1,e2,e3⟩:=g9.ent s0 _ ey;simp only[Top]at e3;simp only[R]at e2;have m7:T.sizes us=us.length*k:=wF us hn.size;have fin:∀(G':Gh)(w':World)(v:Value),kR (zBw d s0 y) G w G' w'→Mem Γ G' w'→G'.hd d []=v→R Γ.St G' w' d (.sl k (xs++us)) []→(∀s p,s≠d→G'.hd s p=G.hd s p)→
   Rep Γ (E.app (aWr d s0 y k (xs++us)) (zBw d s0 y)) G' (a.tmps.setIfInBounds d v) w':=by
  intro G' w' v gu gn dp tf hother;refine vV g9 (by simp) gu gn ?_ ?_
  ·intro s hs
   have gg:s≠d:=by rintro rfl;simp[aWr,Wr.find]at hs
   have fY:s≠s0:=by rintro rfl;simp[aWr,Wr.find,gg.symm]at hs
   have d8:∀y',y=dJ y'→s≠y':=by
    rintro y' rfl rfl
    simp[aWr,Wr.find,gg.symm,fY.symm]at hs
   refine⟨fun n' hn'=>?_,by rw[Jj];simp[gg.symm]⟩;simp only[zBw,J9,Ja1.injEq]at hn';rcases hn' with⟨h1,_⟩|⟨h1,_⟩|hn'
   ·exact gg h1
   ·exact fY h1
   ·cases y with
    |none=>simp at hn'
    |some y'=>simp at hn';exact d8 y' rfl hn'.1
  ·intro s t' hs
   by_cases h1:s=d
   ·subst h1
    simp[aWr,Wr.find]at hs;subst hs;refine⟨?_,tf,by simp only[Top];exact zEc xs us e3 hn.clean⟩;rw[Jj];simp[g9.size,hd,mkV,dp]
   ·have h3:t'=.any∧(s=s0∨y=dJ s):=by
     simp only[aWr,Wr.find]at hs;rw[if_neg (fun h=>h1 h.symm)]at hs;split at hs
     ·rename_i h2;simp at hs;exact⟨hs.symm,.inl h2.symm⟩
     ·cases y with
      |none=>simp[Wr.find]at hs
      |some y'=>
       simp only[Wr.find]at hs;split at hs
       ·rename_i h2;simp at hs;exact⟨hs.symm,.inr (by rw[h2])⟩
       ·cases hs
    obtain⟨rfl,h3⟩:=h3;refine⟨?_,by simp only[R],by simp[Top]⟩;rw[Jj];simp only[Ne.symm h1,if_false,mkV];rw[hother s [] h1];rcases h3 with rfl|h3
    ·exact e1
    ·obtain⟨_,_,h4,_⟩:=hn.slot s h3
     exact(g9.ent s _ h4).1
 have cC:∀s p,(∀n',(s,n')∉zBw d s0 y)→zEu s0 y xs.length s p=dK:=by
  intro s p h;have h1:s≠s0:=fun e=>h 1 (by simp[zBw,e])
  have h2:y≠dJ s:=fun e=>h 1 (by simp[zBw,e])
  simp[zEu,h1,h2]
 by_cases gS:∃a' c,G.hd s0 []=.slice a' xs.length c∧xs.length+us.length≤c
 ·
  obtain⟨a',c,hh,gS⟩:=gS;rcases e2 with⟨rfl,a1,h1⟩|⟨b,o0,cap,cs,et,h1,h2,h3,h4,h5,h6,h7,h8⟩
  ·rw[h1]at hh
   simp at hh;obtain⟨rfl,rfl⟩:=hh;have fw:us=[]:=Kb (by simp only[K0]at gS;omega);subst fw;have mU:nv=[]:=Kb (by have:=hn.len;simp at this;simp[this]);subst mU;have gw:=zEQ (P:=P) (t:=t) (ty:=ty) (w':=w) ht hi hx (by simp) (base:=a1) (n:=0) (cap:=0) (by simp) (by cases a1<;>rfl);refine⟨.slice a1 0 0,w,by rw[h1];exact gw,G.put d (fun _=>.slice a1 0 0),fin _ w _ ?_ (hm.put rfl d _ (fun _=>rfl)) (by rw[Gh.put_self]) (by simp[R,Gh.put]) (fun s p h=>G.put_other _ p h)⟩;have:=G.put_keep (w:=w) (w':=w) rfl d (fun _=>.slice a1 0 0);exact⟨fun s p h=>this.hd s p (fun n hn=>h n (by simp at hn;simp[zBw,hn])),fun s p h=>this.ad s p (fun n hn=>h n (by simp at hn;simp[zBw,hn])),fun b o f s p h0 h1 h2=>this.lb b o f s p h0 h1 (fun n hn=>h2 n (by simp at hn;simp[zBw,hn])),fun b s p h1 h2=>this.ow b s p h1 (fun n hn=>h2 n (by simp at hn;simp[zBw,hn])),this.blk⟩
  ·rw[h1]at hh
   simp at hh;obtain⟨rfl,rfl⟩:=hh;have hmk0:us.length*k+xs.length*k≤cap*k:=by rw[←Gm];exact Jw _ (by omega)
   have d4:∀o,o0+(xs.length*k+us.length*k)≤o→o0+xs.length*k≤o:=fun o h=>by omega
   generalize hoa:o0+xs.length*k=oa at h7 d4
   have hmk':oa+us.length*k≤o0+cap*k:=by omega
   have hmk:us.length*k+oa≤cs.size:=by omega
   generalize ew:w.setRow b (cs.toList.take (oa)++nv++cs.toList.drop (oa+nv.length)).toArray=w'
   have er:w'.heap[b]? =dJ (.cells (cs.toList.take (oa)++nv++cs.toList.drop (oa+nv.length)).toArray et (0,0)):=by rw[←ew];exact setRow_heap w b cs _ et _ h2
   have gE:∀b',b'≠b→w'.heap[b']? =w.heap[b']?:=fun b' h=>by rw[←ew];exact setRow_other w b b' _ h
   have gN:w'.heap.size=w.heap.size:=by rw[←ew];exact size_setRow w b _
   have hcsl:cs.toList.length=cs.size:=Kh ..;have cG:=hn.len;have eL:∀i,yL w' b i=if oa≤i∧i<oa+us.length*k then nv[i-oa]? else yL w b i:=by
    intro i;simp only[yL,World.cell?,er,h2,Gy,Hg,if_false];rw[←Ks,←Ks (xs:=cs)];simp only[]
    by_cases g1:i<oa
    ·rw[if_neg (by omega),Jg,K3 (by simp;omega),G8 g1]
    ·by_cases g2:i<oa+us.length*k
     ·rw[if_pos ⟨by omega,g2⟩,Jg,Je (by simp;omega),K3 (by simp;omega)]
      congr 1;simp;omega
     ·rw[if_neg (by omega),Jg,Je (by simp;omega),Je (by simp;omega),Lm]
      congr 1;simp;omega
   have gJ:∀b' o fl s p,G.lb b' o=dJ (fl,s,p)→(fl,s,p)≠(dL,s0,[])→ ¬(b'=b∧oa≤o∧o<oa+us.length*k):=by
    rintro b' o fl s p g1 g2 ⟨rfl,g3,g4⟩
    rw[h7 o g3 (by omega)]at g1;simp at g1;exact g2 (by simp[←g1.1,←g1.2.1,←g1.2.2])
   have eV:∀b' o,¬(b'=b∧oa≤o∧o<oa+us.length*k)→yL w' b' o=yL w b' o:=by
    intro b' o g
    by_cases eE:b'=b
    ·subst eE
     rw[eL,if_neg (fun g2=>g ⟨rfl,g2⟩)]
    ·simp[yL,World.cell?,gE b' eE]
   have cH:((cs.toList.take (oa)++nv++cs.toList.drop (oa+nv.length)).toArray).size=cs.size:=by simp;omega
   have eu:Blk w w':=by
    intro b' cs' e' g1
    by_cases eE:b'=b
    ·subst eE
     rw[h2]at g1;simp at g1;obtain⟨rfl,rfl⟩:=g1;exact⟨_,er,cH⟩
    ·exact⟨cs',by rw[gE b' eE];exact g1,rfl⟩
   generalize gk:G.ip d s0 y b xs.length k oa us f2 (.slice (dJ ⟨b,o0,dK⟩) (xs.length+us.length) cap)=G'
   have ghdr:G'.hd d []=.slice (dJ ⟨b,o0,dK⟩) (xs.length+us.length) cap:=by rw[←gk];simp[Gh.ip]
   have ghd1:∀i z,i<xs.length→G'.hd d (z++[i])=G.hd s0 (z++[i]):=fun i z g=>by rw[←gk];simp[Gh.ip,g]
   have ghd2:∀j z,G'.hd d (z++[xs.length+j])=f2 j z:=fun j z=>by rw[←gk];simp[Gh.ip,show¬xs.length+j<xs.length from by omega]
   have ghd0:∀s z,s≠d→G'.hd s z=G.hd s z:=fun s z g=>by rw[←gk];simp[Gh.ip,g]
   have gad0:∀s z,s≠d→G'.ad s z=G.ad s z:=fun s z g=>by rw[←gk];simp[Gh.ip,g]
   have gad1:∀i z,i<xs.length→G'.ad d (z++[i])=G.ad s0 (z++[i]):=fun i z g=>by rw[←gk];simp[Gh.ip,g]
   have gad2:∀j f,(T.agg us).inT (j::f)=dL→G'.ad d (f.reverse++[xs.length+j])=⟨b,oa+(T.agg us).offT (j::f),dK⟩:=fun j f g=>by rw[←gk];simp[Gh.ip,g,show¬xs.length+j<xs.length from by omega]
   have gad3:∀y' j z,y=dJ y'→(T.agg us).inT (j::z.reverse)=dM→G'.ad d (z++[xs.length+j])=G.ad y' (z++[j]):=fun y' j z g1 g2=>by rw[←gk];simp[Gh.ip,g1,g2,show¬xs.length+j<xs.length from by omega]
   have glb2:∀i p,i<us.length*k→zCQ us [] xs.length i=dJ p→G'.lb b (oa+i)=dJ (dM,d,p):=fun i p g1 g2=>by rw[←gk];simp only[Gh.ip];rw[if_pos (by simp;omega),show oa+i-oa=i from by omega,g2]
   have glb0:∀b' o fl s p,G.lb b' o=dJ (fl,s,p)→ ¬(b'=b∧oa≤o∧o<oa+us.length*k)→zEu s0 y xs.length s p=dK→G'.lb b' o=dJ (fl,s,p):=fun b' o fl s p g1 g2 g3=>by rw[←gk];simp only[Gh.ip];rw[if_neg g2,g1];simp[g3]
   have glb1:∀b' o fl s p p',G.lb b' o=dJ (fl,s,p)→ ¬(b'=b∧oa≤o∧o<oa+us.length*k)→zEu s0 y xs.length s p=dJ p'→G'.lb b' o=dJ (fl,d,p'):=fun b' o fl s p p' g1 g2 g3=>by rw[←gk];simp only[Gh.ip];rw[if_neg g2,g1];simp[g3]
   have gow0:∀b' s p,G.ow b'=dJ (s,p)→zEu s0 y xs.length s p=dK→G'.ow b'=dJ (s,p):=fun b' s p g1 g2=>by rw[←gk];simp[Gh.ip,g1,g2]
   have gow1:∀b' s p p',G.ow b'=dJ (s,p)→zEu s0 y xs.length s p=dJ p'→G'.ow b'=dJ (d,p'):=fun b' s p p' g1 g2=>by rw[←gk];simp[Gh.ip,g1,g2]
   have fj:∀p,zEu s0 y xs.length s0 p=dJ p:=fun p=>by simp[zEu]
   have pL:∀y' z j,y=dJ y'→y'≠s0→zEu s0 y xs.length y' (z++[j])=dJ (z++[xs.length+j]):=fun y' z j g1 g2=>by simp[zEu,g1,g2]
   have gg:∀s p,Off (zBw d s0 y) s p→s≠d:=fun s p h e=>absurd (h 0 (by simp[zBw,e])) (by simp)
   have gu:kR (zBw d s0 y) G w G' w':=by
    refine⟨fun s p h=>ghd0 s p (gg s p h),fun s p h=>gad0 s p (gg s p h),fun b' o fl s p _ g1 g2=>?_,fun b' s p g1 g2=>gow0 b' s p g1 (cC s p g2),eu⟩;have hs:s≠s0:=fun e=>g2 1 (by simp[zBw,e])
    have g3:=gJ b' o fl s p g1 (by simp[hs]);exact⟨glb0 b' o fl s p g1 g3 (cC s p g2),eV b' o g3⟩
   have b6:=hm.ow b _ h6;have gn:Mem Γ G' w':=by
    refine⟨fun s z=>?_,fun b' o' l hl=>?_,fun b' l hl=>?_,fun b' x' ek=>?_,fun b' g1 g2=>?_,by rw[gN];exact hm.sz,hm.bk.trans eu (by rw[←ew];rfl) (by rw[←ew];rfl)⟩
    ·by_cases g:s=d
     ·subst g
      rcases zIG z with rfl|⟨z',i,rfl⟩
      ·rw[ghdr];rfl
      ·by_cases g1:i<xs.length
       ·rw[ghd1 i z' g1];exact hm.one _ _
       ·have:=ghd2 (i-xs.length) z'
        rw[show xs.length+(i-xs.length)=i from by omega]at this;rw[this];exact hn.one _ _
     ·rw[ghd0 s z g];exact hm.one _ _
    ·have:zCN Γ w b':=by
      rw[←gk]at hl;simp only[Gh.ip]at hl;split at hl
      ·rename_i g;rw[g.1];exact b6
      ·split at hl
       ·rename_i g;exact hm.lb _ _ _ g
       ·cases hl
     exact⟨by rw[gN];exact this.1,this.2⟩
    ·have:zCN Γ w b':=by
      rw[←gk]at hl;simp only[Gh.ip]at hl;split at hl
      ·rename_i g;exact hm.ow _ _ g
      ·cases hl
     exact⟨by rw[gN];exact this.1,this.2⟩
    ·have eE:b'≠b:=by rintro rfl;rw[b6.2.2]at ek;cases ek
     rw[gE b' eE];exact hm.st b' x' ek
    ·have eE:b'≠b:=by
      rintro rfl
      rcases b6.2.1 with g3|g3
      ·omega
      ·exact g2 g3
     rw[gE b' eE];exact hm.fr b' g1 g2
   have mh:vB G' w' d us [] xs.length b (oa):=by
    refine zGK us [] xs.length b (oa) hn.tup (fun i x ek f hf=>?_) (fun i p' g1 g2=>glb2 i p' (by omega) g2) (fun i v hv=>?_)
    ·have:=gad2 i f (by simp only[T.inT,ek];exact hf)
     simpa[T.offT,ek]using this
    ·have g1:=hn.vals G' ghd2 i v hv
     have g2:=(Jo.1 g1).1;rw[eL,if_pos ⟨by omega,by omega⟩,show oa+i-oa=i from by omega];exact g1
   have tf:R Γ.St G' w' d (.sl k (xs++us)) []:=by
    simp only[R];rw[ghdr];refine .inr ⟨b,o0,cap,_,et,by simp,er,by simp;omega,h4,by rw[cH];exact h5,gow1 b s0 [] [] h6 (fj []),?_,zKk _ _ _ _ _ (fun i x ek=>?_)⟩
    ·intro o g1 g2
     rw[J5,Gm]at g1;exact glb1 b o dL s0 [] [] (h7 o (by omega) g2) (by omega) (fj [])
    ·rw[Kn]at ek
     simp only[Jd];split at ek
     ·rename_i gF
      obtain⟨g1,g2,g3⟩:=kV xs [] 0 b o0 k i x h8 ek;simp only[Jd]at g1 g3;have mX:∀b' o fl z,G.lb b' o=dJ (fl,s0,z++[i])→G'.lb b' o=dJ (fl,d,z++[i])∧yL w' b' o=yL w b' o:=fun b' o fl z g=>by have g4:=gJ b' o fl s0 _ g (by simp);exact⟨glb1 b' o fl s0 _ _ g g4 (fj _),eV b' o g4⟩
      refine⟨zHq x [i] [i] b _ (fun z=>ghd1 i z gF) (fun z=>gad1 i z gF) (fun b' o z g=>mX b' o dM z g) g1,g2,?_⟩;refine zAS (G:=G) (w:=w) (s:=s0) (p:=[i]) ⟨⟨fun z=>ghd1 i z gF,fun z _=>gad1 i z gF,fun b' o f z _ _ g=>mX b' o f z g,fun b' z _ g=>gow1 b' s0 _ _ g (fj _),eu⟩,fun b' o _ g=>?_,fun b' g=>gow1 b' s0 _ _ g (fj _)⟩ x (yR.mono (fun _ _=>False.elim) x (uJ xs e3 i x ek)) g3;have:=mX b' o dL [] (by simpa using g);simpa using this
     ·rename_i hge
      obtain⟨j,rfl⟩:∃j,i=xs.length+j:=⟨i-xs.length,by omega⟩;rw[show xs.length+j-xs.length=j from by omega]at ek;have g1:=zCO us [] xs.length b (oa) j x mh ek;rw[show T.sizes (us.take j)=j*k from by rw[wF _ (fun u hu=>hn.size u (List.mem_of_mem_take hu)),L4,Uk (by have:=(Jo.1 ek).1;omega)],show oa+j*k=o0+(xs.length+j)*k from by rw[Gm];omega]at g1
      refine⟨g1,hn.size x (Lj ek),?_⟩;cases hy:y with
      |none=>exact hn.none hy j x ek G' w' (fun z=>ghd2 j z)
      |some y'=>
       obtain⟨y1,y2,y3,y4⟩:=hn.slot y' hy;obtain⟨_,y5,_⟩:=g9.ent y' _ y3;simp only[R]at y5;rcases y5 with⟨rfl,_⟩|⟨b2,o2,cap2,cs2,et2,_,_,_,_,_,_,_,y6⟩
       ·simp at ek
       ·obtain⟨_,_,y7⟩:=kV us [] 0 b2 o2 k j x y6 ek
        simp only[Jd]at y7;refine zLz x [j] [xs.length+j] (zD8.okTups_get us hn.tup j x ek) ⟨fun z=>by rw[ghd2,y4],fun z g=>gad3 y' j z hy (by simp only[T.inT,ek];exact g),fun b' o fl z _ g=>?_,fun b' z g=>gow1 b' y' _ _ g (pL y' z j hy y2),eu⟩ (yR.mono (fun _ _=>False.elim) x (uJ us hn.clean j x ek)) y7;have g4:=gJ b' o fl y' _ g (by simp[y2]);exact⟨glb1 b' o fl y' _ _ g g4 (pL y' z j hy y2),eV b' o g4⟩
   have gG:=run_storeCells_at P b (oa) et nv 0 cs w h2 (by omega) gm;simp only[Jad]at gG;rw[ew]at gG;have gw:=zEQ (P:=P) (t:=t) (ty:=ty) (w':=w') ht hi hx (by omega) (base:=dJ ⟨b,o0,dK⟩) gS (by simp only[hk,uB,hoa];exact gG);refine⟨_,w',by rw[h1];exact gw,G',fin G' w' _ gu gn ghdr tf ghd0⟩
 ·
  have t8:∃a' c,G.hd s0 []=.slice a' xs.length c∧ ∀w2:World,w2.heap=w.heap→(Builtin.firstCells ti.size xs.length (.slice a' xs.length c)).run P w2=.ok (yD G s0 xs [] 0).toArray w2:=by
   rcases e2 with⟨rfl,a1,h1⟩|⟨b,o0,cap,cs,et,h1,h2,h3,h4,h5,h6,h7,h8⟩
   ·exact⟨a1,0,h1,fun w2 _=>by cases a1<;>simp[Builtin.firstCells,loadCells,loadCellsFrom,yD]⟩
   ·refine⟨_,_,h1,fun w2 bf=>?_⟩
    have hl:=zAb xs [] 0 b o0 h8;refine run_firstCells_some (P:=P) w2 ti.size xs.length ⟨b,o0,dK⟩ _ _ _ ?_ (fun j v hv=>?_)
    ·rw[xZ,hk]
     exact wF xs (zBT xs [] 0 b o0 h8).2
    ·have:=zBc xs [] 0 b o0 hl j v hv
     rw[uB];simp only[yL]at this;simpa[World.cell?,bf]using this
  obtain⟨a',c,hh,gE⟩:=t8;have eZ:yJ xs=dL∧(∀x∈xs,x.size=k)∧ ∀i x,xs[i]? =dJ x→R Γ.St G w s0 x [i]:=by
   rcases e2 with⟨rfl,a1,h1⟩|⟨b,o0,cap,cs,et,h1,h2,h3,h4,h5,h6,h7,h8⟩
   ·simp[yJ]
   ·refine⟨zAw (St:=Γ.St) (k:=k) xs [] 0 b o0 (zAb xs [] 0 b o0 h8),(zBT xs [] 0 b o0 h8).2,fun i x ek=>?_⟩
    have:=(kV xs [] 0 b o0 k i x h8 ek).2.2;simpa using this
  have gV:c<xs.length+us.length:=by
   rcases Jn c (xs.length+us.length)with g|g
   ·exact g
   ·exact absurd ⟨a',c,hh,g⟩ gS
  have gw:=zKl (P:=P) (t:=t) (ty:=ty) ht hi hz hx gV ch hb gE;have hge:=grownCap_ge w (xs.length+us.length) c e;have ac:=grownCap_le_maxLen w (xs.length+us.length) c e (by simp only[maxLen];omega)
  generalize grownCap w (xs.length+us.length) c e=cap' at gw hge ac
  generalize ew:w.drew.alloc (.cells ((yD G s0 xs [] 0++nv).toArray++Builtin.zeroCells z.cells (cap'-(xs.length+us.length))) e)=w' at gw
  have hwh:w'.heap=w.heap.push (.cells ((yD G s0 xs [] 0++nv).toArray++Builtin.zeroCells z.cells (cap'-(xs.length+us.length))) e):=by rw[←ew];rfl
  have pD:T.sizes xs=xs.length*k:=wF xs eZ.2.1;obtain⟨g1,g2,g3,g4,g5⟩:=zD8 hm hwh d (xs++us) (fun i=>if i<xs.length then dJ (s0,[i])else y.map fun y'=>(y',[i-xs.length])) (zEu s0 y xs.length) (fun i z=>if i<xs.length then G.hd s0 (z++[i])else f2 (i-xs.length) z) (.slice (dJ ⟨w.heap.size,0,dK⟩) (xs.length+us.length) cap') ((zBw d s0 y).tail)
   (zEb xs us eZ.1 hn.tup) (fun i z=>by split;exact hm.one _ _;exact hn.one _ _) rfl
   (fun i u x q z' hu hs=>by
    split at hs
    ·simp at hs;obtain⟨rfl,rfl⟩:=hs;simp[zEu]
    ·rename_i fq
     cases y with
     |none=>simp at hs
     |some y'=>
      simp at hs;obtain⟨rfl,rfl⟩:=hs;have:=(hn.slot y' rfl).2.1;simp[zEu,this,show xs.length+(i-xs.length)=i from by omega])
   (fun i u x q hu hs=>by
    rw[Kn]at hu;split at hs
    ·rename_i gF
     rw[if_pos gF]at hu;simp at hs;obtain⟨rfl,rfl⟩:=hs;exact⟨fun z'=>by simp[gF],eZ.2.2 i u hu,uJ xs e3 i u hu,f7⟩
    ·rename_i fq
     rw[if_neg fq]at hu;cases hy:y with
     |none=>rw[hy]at hs;simp at hs
     |some y'=>
      rw[hy]at hs;simp at hs;obtain⟨rfl,rfl⟩:=hs;obtain⟨y1,y2,y3,y4⟩:=hn.slot y' hy;obtain⟨_,y5,_⟩:=g9.ent y' _ y3;simp only[R]at y5;refine⟨fun z'=>by simp[fq,y4],?_,uJ us hn.clean _ u hu,y1⟩;rcases y5 with⟨rfl,_⟩|⟨b2,o2,cap2,cs2,et2,_,_,_,_,_,_,_,y6⟩
      ·simp at hu
      ·have:=(kV us [] 0 b2 o2 k _ u y6 hu).2.2
       simpa using this)
   (fun i u hu hs G2 w2 eJ=>by
    rw[Kn]at hu;split at hs
    ·cases hs
    ·rename_i fq
     rw[if_neg fq]at hu;cases hy:y with
     |some y'=>rw[hy]at hs;simp at hs
     |none=>
      have:=hn.none hy (i-xs.length) u hu G2 w2 (fun z'=>by rw[show xs.length+(i-xs.length)=i from by omega,eJ,if_neg fq])
      rwa [show xs.length+(i-xs.length)=i from by omega]at this)
   (fun G2 eJ o v hv=>by
    rw[zEO,Jd]at hv;have h1:yD G2 d xs [] 0=yD G s0 xs [] 0:=zL7 xs [] 0 (fun i hH z'=>by rw[Jd,eJ,if_pos hH]);rw[h1]at hv;have mX:(yD G s0 xs [] 0).length=xs.length*k:=by rw[xZ,pD]
    have pP:(yD G2 d us [] xs.length).length=us.length*k:=by rw[xZ,m7]
    have ho:o<xs.length*k+us.length*k:=by have:=(Jo.1 hv).1;rw[J5]at this;omega
    have cG:=hn.len;rw[Array.getElem?_append_left (by simp;omega),List.getElem?_toArray];rw[Kn]at hv ⊢
    split at hv
    ·rename_i gF;rw[if_pos gF];exact hv
    ·rename_i fq;rw[if_neg fq]
     exact hn.vals G2 (fun j z'=>by rw[eJ,if_neg (by omega),show xs.length+j-xs.length=j from by omega]) _ v hv)
   (fun s p h=>cC s p (by simpa[zBw]using h)) (ho:=by rw[←ew];rfl) (hq:=by rw[←ew];rfl)
  refine⟨_,w',by rw[hh];exact gw,_,fin _ w' _ (by simpa[zBw]using g1) g2 (by simp[Gh.nb]) ?_ (fun s p h=>by simp[Gh.nb,h])⟩;simp only[R];refine .inr ⟨w.heap.size,0,cap',_,e,by simp[Gh.nb],g5,by simpa using hge,ac,?_,by simp[Gh.nb],?_,zSc _ _ _ _ _ (fun x ek=>?_) g3 g4⟩
  ·have mX:(yD G s0 xs [] 0).length=xs.length*k:=by rw[xZ,pD]
   have cG:=hn.len;simp only[Array.size_append,Qg,J5,size_zeroCells,fy,mX,cG,←Gm];rw[Jd];exact Jw _ (by omega)
  ·intro o ho _
   rw[J5,Gm]at ho;simp[Gh.nb,zEr (xs++us) [] 0 o (by rw[zEP];omega)]
  ·rcases Jf.1 ek with h|h
   ·exact eZ.2.1 x h
   ·exact hn.size x h
end
end Go.Ab

namespace Go.Ab
open Go
mutual
def T.flat:T→Bool
 |.lit _|.ro _=>dL
 |.agg xs=>zAP xs
 |.any|.same _ _|.addr _ _|.sub _ _ _ _ _|.sl _ _|.ptr _|.tup _=>dM
def zAP:List T→Bool
 | []=>dL
 |x::xs=>x.flat&&zAP xs
end
section
variable {St:Stb}{G G2:Gh}{w w2:World}{s d:Nat}
mutual
theorem zKm:(t:T)→ ∀(p p':List Nat),t.flat=dL→(∀z,G2.hd d (z++p')=G.hd s (z++p))→R St G w s t p→R St G2 w2 d t p'
 |.lit _,p,p',_,h,hr=>by have:=h [];simp only[Jq]at this;simp only[R]at hr ⊢;rw[this];exact hr
 |.ro _,p,p',_,h,hr=>by have:=h [];simp only[Jq]at this;simp only[R]at hr ⊢;rw[this];exact hr
 |.agg xs,p,p',hf,h,hr=>by simp only[R,T.flat]at hr hf ⊢;exact zOU xs p p' 0 hf h hr
 |.any,_,_,hf,_,_|.same _ _,_,_,hf,_,_|.addr _ _,_,_,hf,_,_|.sub _ _ _ _ _,_,_,hf,_,_|.sl _ _,_,_,hf,_,_|.ptr _,_,_,hf,_,_|.tup _,_,_,hf,_,_=>by simp[T.flat]at hf
theorem zOU:(xs:List T)→ ∀(p p':List Nat)(j:Nat),zAP xs=dL→(∀z,G2.hd d (z++p')=G.hd s (z++p))→RF St G w s xs p j→RF St G2 w2 d xs p' j
 | [],_,_,_,_,_,_=>by simp only[RF]
 |x::xs,p,p',j,hf,h,hr=>by
  simp only[RF,zAP,J2]at hr hf ⊢
  exact⟨zKm x (j::p) (j::p') hf.1 (fun z=>by have:=h (z++[j]);simpa using this) hr.1,zOU xs p p' (j+1) hf.2 h hr.2⟩
end
end
mutual
theorem zHt:(t:T)→t.flat=dL→zW t∧t.okTup=dL
 |.lit _,_|.ro _,_=>by simp[zW,yR,T.okTup]
 |.agg xs,h=>by simp only[T.flat]at h;simpa only[zW,yR,T.okTup]using zA4 xs h
 |.any,h|.same _ _,h|.addr _ _,h|.sub _ _ _ _ _,h|.sl _ _,h|.ptr _,h|.tup _,h=>by simp[T.flat]at h
theorem zA4:(xs:List T)→zAP xs=dL→yT xs∧yJ xs=dL
 | [],_=>by simp[yT,xH,yJ]
 |x::xs,h=>by simp only[zAP,J2]at h;simp only[yT,xH,yJ,J2];exact⟨⟨(zHt x h.1).1,(zA4 xs h.2).1⟩,(zHt x h.1).2,(zA4 xs h.2).2⟩
end
theorem zJg:(xs:List T)→zAP xs=dL→ ∀(i:Nat)(x:T),xs[i]? =dJ x→x.flat=dL
 | [],_,_,_,h=>by simp at h
 |y::ys,hk,i,x,h=>by
  simp only[zAP,J2]at hk;cases i with
  |zero=>simp at h;subst h;exact hk.1
  |succ i=>exact zJg ys hk.2 i x (by simpa using h)
mutual
def zFD:T→Bool
 |.lit _=>dL
 |.sl _ xs=>zBU xs
 |.agg xs=>zBU xs
 |.ptr t=>zFD t
 |.any|.ro _|.same _ _|.addr _ _|.sub _ _ _ _ _|.tup _=>dM
def zBU:List T→Bool
 | []=>dL
 |x::xs=>zFD x&&zBU xs
end
theorem zL8:(ys:List T)→zBU ys=dL→ ∀u∈ys,∀xs,u≠.tup xs
 | [],_,_,h,_=>by simp at h
 |y::ys,hr,u,h,xs=>by
  simp only[zBU,J2]at hr;rcases J9.1 h with rfl|h
  ·rintro rfl;simp[zFD]at hr
  ·exact zL8 ys hr.2 u h xs
theorem zGt:(ys:List T)→(roT.roTs ys).length=ys.length
 | []=>rfl
 |y::ys=>by simp[roT.roTs,zGt ys]
theorem zHu{k:Nat}:(ys:List T)→(∀u∈ys,u.size=k)→(∀u∈ys,∀xs,u≠.tup xs)→ ∀u∈roT.roTs ys,u.size=k
 | [],_,_,u,h=>by simp[roT.roTs]at h
 |y::ys,h1,h2,u,h=>by
  simp only[roT.roTs,J9]at h;rcases h with rfl|h
  ·rw[zEL y (h2 y (by simp))];exact h1 y (by simp)
  ·exact zHu ys (fun v hv=>h1 v (by simp[hv])) (fun v hv=>h2 v (by simp[hv])) u h
theorem zL9:(ys:List T)→ ∀(j:Nat)(u:T),(roT.roTs ys)[j]? =dJ u→ ∃u0,ys[j]? =dJ u0∧u=roT u0
 | [],_,_,h=>by simp[roT.roTs]at h
 |y::ys,j,u,h=>by
  cases j with
  |zero=>simp[roT.roTs]at h;exact⟨y,by simp,h.symm⟩
  |succ j=>
   obtain⟨u0,h1,h2⟩:=zL9 ys j u (by simpa[roT.roTs]using h);exact⟨u0,by simpa using h1,h2⟩
theorem zOV{St:Stb}{G2:Gh}{d:Nat}:(ys:List T)→ ∀(cs':Array Value)(o' k n:Nat),RoL St ys cs' o' k→(∀u∈ys,u.size=k)→(∀j u,ys[j]? =dJ u→ ∀z',G2.hd d (z'++[n+j])=kZ (zEq u cs' (o'+j*k) z'.reverse))→
  ∀(i:Nat)(v:Value),(yD G2 d (roT.roTs ys) [] n)[i]? =dJ v→cs'[o'+i]? =dJ v
 | [],_,_,_,_,_,_,_,i,v,hv=>by simp[roT.roTs,yD]at hv
 |y::ys,cs',o',k,n,h,hs,hd,i,v,hv=>by
  simp only[RoL]at h;simp only[roT.roTs,yD]at hv;have gZ:∀xs,y≠.tup xs:=by rintro xs rfl;simp only[RoC]at h;exact h.1
  have d5:∀xs,roT y≠.tup xs:=fun xs e=>by cases y<;>simp[roT]at e
  have hl:(vals G2 d (roT y) [n]).length=k:=by rw[wY _ _ d5,zEL y gZ,hs y (by simp)]
  rw[Kn]at hv;split at hv
  ·exact zHf y cs' o' [n] (fun z'=>by simpa using hd 0 y (by simp) z') h.1 i v hv
  ·have:=zOV ys cs' (o'+k) k (n+1) h.2 (fun u hu=>hs u (by simp[hu])) (fun j u hu z'=>by
    have:=hd (j+1) u (by simpa using hu) z'
    rwa [show n+(j+1)=n+1+j from by omega,show o'+(j+1)*k=o'+k+j*k from by rw[K7];omega]at this) _ v hv
   rwa [hl,show o'+k+(i-k)=o'+i from by omega]at this
mutual
theorem zQ3{G:Gh}(hg:∀s z,(G.hd s z).oneCell'=dL){s:Nat}:(t:T)→ ∀(p:List Nat)(v:Value),v∈vals G s t p→v.oneCell'=dL
 |.agg xs,p,v,h=>by simp only[vals]at h;exact zEv hg xs p 0 v h
 |.any,p,v,h|.lit _,p,v,h|.ro _,p,v,h|.same _ _,p,v,h|.addr _ _,p,v,h|.sub _ _ _ _ _,p,v,h|.sl _ _,p,v,h|.ptr _,p,v,h|.tup _,p,v,h=>by simp only[vals,List.mem_singleton]at h;rw[h];exact hg s p
theorem zEv{G:Gh}(hg:∀s z,(G.hd s z).oneCell'=dL){s:Nat}:(xs:List T)→ ∀(p:List Nat)(j:Nat)(v:Value),v∈yD G s xs p j→v.oneCell'=dL
 | [],_,_,_,h=>by simp[yD]at h
 |x::xs,p,j,v,h=>by
  simp only[yD,Jf]at h;rcases h with h|h
  ·exact zQ3 hg x _ v h
  ·exact zEv hg xs p _ v h
end
theorem zCU{G G2:Gh}{s d:Nat}:(us:List T)→ ∀(n j:Nat),(∀i z,G2.hd d (z++[n+i])=G.hd s (z++[j+i]))→yD G2 d us [] n=yD G s us [] j
 | [],_,_,_=>by simp only[yD]
 |x::xs,n,j,h=>by
  have ih:yD G2 d xs [] (n+1)=yD G s xs [] (j+1):=zCU xs (n+1) (j+1) (fun i z=>by rw[show n+1+i=n+(i+1)from by omega,show j+1+i=j+(i+1)from by omega];exact h (i+1) z)
  simp only[yD];rw[ih,zB2 x [j] [n] (by simpa using h 0)]
theorem zER{G G2:Gh}{s d:Nat}:(us:List T)→ ∀(n j:Nat)(q:List Nat),(∀i z,G2.hd d (z++[n+i])=G.hd s (z++((j+i)::q)))→yD G2 d us [] n=yD G s us q j
 | [],_,_,_,_=>by simp only[yD]
 |x::xs,n,j,q,h=>by
  have ih:yD G2 d xs [] (n+1)=yD G s xs q (j+1):=zER xs (n+1) (j+1) q (fun i z=>by rw[show n+1+i=n+(i+1)from by omega,show j+1+i=j+(i+1)from by omega];exact h (i+1) z)
  simp only[yD];rw[ih,zB2 x (j::q) [n] (by simpa using h 0)]
section
variable {P:Program}{Γ:Ctx}{E:Env}{o:Oper}{d:Nat}
theorem zOW{St:Stb}{G:Gh}{w:World}{r:Nat}{q:List Nat}{k:Nat}{us:List T}(h:R St G w r (.sl k us) q){size:Nat}(hk:size=k):
  ∃xa c,G.hd r q=.slice xa us.length c∧ ∀w2:World,w2.heap=w.heap→(Builtin.firstCells size us.length (.slice xa us.length c)).run P w2=.ok (yD G r us q 0).toArray w2:=by
 simp only[R]at h;rcases h with⟨rfl,a1,h1⟩|⟨b,o0,cap,cs,et,h1,h2,h3,h4,h5,h6,h7,h8⟩
 ·exact⟨a1,0,h1,fun w2 _=>by cases a1<;>simp[Builtin.firstCells,loadCells,loadCellsFrom,yD]⟩
 ·refine⟨_,_,h1,fun w2 bf=>?_⟩
  have hl:=zAb us q 0 b o0 h8;refine run_firstCells_some (P:=P) w2 size us.length ⟨b,o0,dK⟩ _ _ _ ?_ (fun j v hv=>?_)
  ·rw[xZ,hk]
   exact wF us (zBT us q 0 b o0 h8).2
  ·have:=zBc us q 0 b o0 hl j v hv
   rw[uB];simp only[yL]at this;simpa[World.cell?,bf]using this
theorem zBV{G:Gh}{a:Act}{w:World}(g9:Rep Γ E G a.tmps w){s:Nat}{t:T}(h:E s=dJ t)(ht:t.single=dL):a.eval (.tmp s)=G.hd s []:=by rw[xP (g9.ent s t h).1,xI ht]
theorem zKn(t e:TypeId)(ti:TypeInfo)(z:Value)(k s0 y:Nat)(xs us:List T)(ho:o.op=.call { callee:=.builtin .append,args:=#[.tmp s0,.tmp y],argTypes:=#[t,t] })(gc:o.dst=dJ d)(hd:d<Γ.N)
  (ht:P.underlying t=dJ (.slice e))(hi:P.info? e=dJ ti)(hz:ti.zero=dJ z)(hk:ti.size=k)(eA:0<k)(fy:z.cells.size=k)(hb:ti.bytes≤2048)
  (ey:E s0=dJ (.sl k xs))(hy:E y=dJ (.sl k us))(f7:s0≠d)(hyd:y≠d)(th:y≠s0)(ch:xs.length+us.length≤68719476736):
  xT P Γ o E (E.app (aWr d s0 (dJ y) k (xs++us)) (zBw d s0 (dJ y))):=by
 refine xT.value gc fun a w G g9=>?_
 obtain⟨_,y2,y3⟩:=g9.ent y _ hy;simp only[Top]at y3;obtain⟨xa,c,h1,h2⟩:=zOW (P:=P) y2 hk;have fw:yJ us=dL∧ ∀u∈us,u.size=k:=by
  simp only[R]at y2;rcases y2 with⟨rfl,_⟩|⟨b,o0,cap,cs,et,_,_,_,_,_,_,_,h8⟩
  ·simp[yJ]
  ·exact⟨zAw (St:=Γ.St) (k:=k) us [] 0 b o0 (zAb us [] 0 b o0 h8),(zBT us [] 0 b o0 h8).2⟩
 have hn:zHs Γ E G d s0 (dJ y) k xs.length us (fun j z'=>G.hd y (z'++[j])) (yD G y us [] 0):=
  ⟨fw.2,fw.1,y3,fun j z'=>g9.mem.one _ _,by rw[xZ];exact wF us fw.2,fun y' hy'=>by simp at hy';subst hy';exact⟨hyd,th,hy,fun _ _=>rfl⟩,fun h=>by simp at h,
   fun G2 eJ o v hv=>by rw[←zCU us xs.length 0 (fun i z'=>by rw[eJ,Jd])];exact hv⟩
 obtain⟨v,w',gw,G',gk⟩:=zCo (P:=P) (ty:=o.type) g9 hd ht hi hz hk eA fy hb ey f7 hn (xv:=a.eval (.tmp y)) ⟨.inl ⟨e,xa,c,ht,by rw[zBV g9 hy rfl,h1],h2⟩⟩ (fun v hv=>zDA g9.mem us [] 0 v hv) ch;refine⟨v,w',?_,G',gk⟩;rw[←zBV g9 ey rfl]at gw;simp[execOp,ho,resolve,invoke,builtin,gw]
theorem zKo(t e:TypeId)(ti:TypeInfo)(z:Value)(k s0:Nat)(y:Operand)(r:Nat)(q:List Nat)(xs us:List T)(ho:o.op=.call { callee:=.builtin .append,args:=#[.tmp s0,y],argTypes:=#[t,t] })(gc:o.dst=dJ d)(hd:d<Γ.N)
  (ht:P.underlying t=dJ (.slice e))(hi:P.info? e=dJ ti)(hz:ti.zero=dJ z)(hk:ti.size=k)(eA:0<k)(fy:z.cells.size=k)(hb:ti.bytes≤2048)
  (ey:E s0=dJ (.sl k xs))(hy:tW E y=dJ (r,q,.sl k us))(hf:zAP us=dL)(f7:s0≠d)(ch:xs.length+us.length≤68719476736):
  xT P Γ o E (E.app (aWr d s0 dK k (xs++us)) (zBw d s0 dK)):=by
 refine xT.value gc fun a w G g9=>?_
 obtain⟨y2,y1⟩:=jQ g9 hy rfl;obtain⟨xa,c,h1,h2⟩:=zOW (P:=P) y2 hk;have fw:(∀u∈us,u.size=k)∧ ∀j u,us[j]? =dJ u→R Γ.St G w r u (j::q):=by
  simp only[R]at y2;rcases y2 with⟨rfl,_⟩|⟨b,o0,cap,cs,et,_,_,_,_,_,_,_,h8⟩
  ·simp
  ·refine⟨(zBT us q 0 b o0 h8).2,fun j u hu=>?_⟩
   have:=(kV us q 0 b o0 k j u h8 hu).2.2;simpa using this
 have gA:=zA4 us hf;have hn:zHs Γ E G d s0 dK k xs.length us (fun j z'=>G.hd r (z'++(j::q))) (yD G r us q 0):=
  ⟨fw.1,gA.2,gA.1,fun j z'=>g9.mem.one _ _,by rw[xZ];exact wF us fw.1,fun y' hy'=>by simp at hy',
   fun _ j u hu G2 w2 eJ=>zKm u (j::q) [xs.length+j] (zJg us hf j u hu) (fun z'=>eJ z') (fw.2 j u hu),
   fun G2 eJ o v hv=>by rw[←zER us xs.length 0 q (fun i z'=>by rw[eJ,Jd])];exact hv⟩
 obtain⟨v,w',gw,G',gk⟩:=zCo (P:=P) (ty:=o.type) g9 hd ht hi hz hk eA fy hb ey f7 hn (xv:=a.eval y) ⟨.inl ⟨e,xa,c,ht,by rw[y1,h1],h2⟩⟩ (fun v hv=>zDA g9.mem us q 0 v hv) ch;refine⟨v,w',?_,G',gk⟩;rw[←zBV g9 ey rfl]at gw;simp[execOp,ho,resolve,invoke,builtin,gw]
mutual
theorem zSh:(u:T)→zFD u=dL→(roT u).flat=dL
 |.agg xs,h=>by simp only[zFD]at h;simp only[roT,T.flat];exact zFE xs h
 |.lit _,_|.sl _ _,_|.ptr _,_=>by simp[roT,T.flat]
 |.any,h|.ro _,h|.same _ _,h|.addr _ _,h|.sub _ _ _ _ _,h|.tup _,h=>by simp[zFD]at h
theorem zFE:(xs:List T)→zBU xs=dL→zAP (roT.roTs xs)=dL
 | [],_=>by simp[roT.roTs,zAP]
 |x::xs,h=>by simp only[zBU,J2]at h;simp only[roT.roTs,zAP,J2];exact⟨zSh x h.1,zFE xs h.2⟩
end
theorem zKp(t e:TypeId)(ti:TypeInfo)(z:Value)(k s0:Nat)(y:Operand)(r:Nat)(q:List Nat)(xs ys:List T)(ho:o.op=.call { callee:=.builtin .append,args:=#[.tmp s0,y],argTypes:=#[t,t] })(gc:o.dst=dJ d)(hd:d<Γ.N)
  (ht:P.underlying t=dJ (.slice e))(hi:P.info? e=dJ ti)(hz:ti.zero=dJ z)(hk:ti.size=k)(eA:0<k)(fy:z.cells.size=k)(hb:ti.bytes≤2048)
  (ey:E s0=dJ (.sl k xs))(hy:tW E y=dJ (r,q,.ro (.sl k ys)))(hro:zBU ys=dL)(th:∀u∈ys,u.size=k)(f7:s0≠d)(ch:xs.length+ys.length≤68719476736):
  xT P Γ o E (E.app (aWr d s0 dK k (xs++roT.roTs ys)) (zBw d s0 dK)):=by
 refine xT.value gc fun a w G g9=>?_
 obtain⟨y2,y1⟩:=jQ g9 hy rfl;obtain⟨xa,c,h1,h2,h3,h4⟩:=zD7 y2;have hf:=zFE ys hro;have gA:=zA4 _ hf;have gf:(roT.roTs ys).length=ys.length:=zGt ys;have gB:∀u∈roT.roTs ys,u.size=k:=zHu ys th (fun u hu=>zL8 ys hro u hu);obtain⟨cs',o',h5,h6⟩:∃(cs':Array Value)(o':Nat),RoL Γ.St ys cs' o' k∧(ys≠[]→ ∃b et fr,xa=dJ ⟨b,o',dK⟩∧Γ.St b=dJ (.cells cs' et fr)):=by
  by_cases gg:ys=[]
  ·subst gg;exact⟨#[],0,by simp[RoL],fun h=>absurd rfl h⟩
  ·obtain⟨b,o',cs',et,fr,h5,h6,h7⟩:=h4 gg
   exact⟨cs',o',h7,fun _=>⟨b,et,fr,h5,h6⟩⟩
 let f2:Nat→List Nat→Value:=fun j z'=>match ys[j]? with
  |some u=>kZ (zEq u cs' (o'+j*k) z'.reverse)
  |none=>.bool dM
 have hf2:∀j u,ys[j]? =dJ u→ ∀z',f2 j z'=kZ (zEq u cs' (o'+j*k) z'.reverse):=fun j u hu z'=>by simp[f2,hu]
 let G0:Gh:={ G with hd:=fun s z'=>if s=d then(match z'.getLast? with
  |some j=>f2 j z'.dropLast
  |none=>.bool dM)else G.hd s z' }
 have hG0:∀j z',G0.hd d (z'++[j])=f2 j z':=fun j z'=>by simp[G0]
 have ct:∀(G2:Gh)(n:Nat),(∀j z',G2.hd d (z'++[n+j])=f2 j z')→ ∀(i:Nat)(v:Value),(yD G2 d (roT.roTs ys) [] n)[i]? =dJ v→cs'[o'+i]? =dJ v:=by intro G2 n eJ i v hv;exact zOV ys cs' o' k n h5 th (fun j u hu z'=>by rw[eJ,hf2 j u hu]) i v hv
 have bN:∀w2:World,w2.heap=w.heap→(Builtin.firstCells ti.size ys.length (.slice xa ys.length c)).run P w2=.ok (yD G0 d (roT.roTs ys) [] 0).toArray w2:=by
  intro w2 bf
  by_cases gg:ys=[]
  ·subst gg
   cases xa<;>simp[Builtin.firstCells,loadCells,loadCellsFrom,roT.roTs,yD]
  ·obtain⟨b,et,fr,rfl,h7⟩:=h6 gg
   refine run_firstCells_some (P:=P) w2 ti.size ys.length ⟨b,o',dK⟩ _ _ _ ?_ (fun j v hv=>?_)
   ·rw[xZ,hk,wF _ gB,gf]
   ·have:=ct G0 0 (fun j z'=>by rw[Jd];exact hG0 j z') j v hv
    rw[uB];have h8:=g9.mem.st b _ h7;simp[World.cell?,bf,h8,this]
 have pM:∀j z',(f2 j z').oneCell'=dL:=fun j z'=>by
  dsimp only[f2];split
  ·exact zBP _
  ·rfl
 have hn:zHs Γ E G d s0 dK k xs.length (roT.roTs ys) f2 (yD G0 d (roT.roTs ys) [] 0):=by
  refine⟨gB,gA.2,gA.1,pM,by rw[xZ];exact wF _ gB,fun y' hy'=>by simp at hy',fun _ j u hu G2 w2 eJ=>?_,fun G2 eJ i v hv=>?_⟩
  ·obtain⟨u0,tq,rfl⟩:=zL9 ys j u hu
   exact zRX u0 cs' (o'+j*k) [xs.length+j] (fun z'=>by rw[eJ z',hf2 j u0 tq]) (zGJ ys cs' o' k j u0 h5 tq)
  ·rw[←zCU (roT.roTs ys) xs.length 0 (fun i z'=>by rw[eJ,Jd];exact(hG0 i z').symm)]
   exact hv
 have bG:∀v∈yD G0 d (roT.roTs ys) [] 0,v.oneCell'=dL:=by
  intro v hv;refine zEv (fun s z'=>?_) _ [] 0 v hv;simp only[G0];split
  ·split
   ·exact pM _ _
   ·rfl
  ·exact g9.mem.one _ _
 have mA:zHr P t e ti (a.eval y) (roT.roTs ys).length (yD G0 d (roT.roTs ys) [] 0) w:=⟨.inl ⟨e,xa,c,ht,by rw[y1,h1,gf],by rw[gf];exact bN⟩⟩;obtain⟨v,w',gw,G',gk⟩:=zCo (P:=P) (ty:=o.type) g9 hd ht hi hz hk eA fy hb ey f7 hn mA bG (by rw[gf];exact ch);refine⟨v,w',?_,G',gk⟩;rw[←zBV g9 ey rfl]at gw;simp[execOp,ho,resolve,invoke,builtin,gw]
end
end Go.Ab

namespace Go.Ab
open Go
theorem zGu:(us:List T)→qH us=us.flatMap sE
 | []=>rfl
 |u::us=>by simp[qH,zGu us]
theorem zCV(u:T)(h:u.zOk=dL):∀m,zAV (J1 m u)=dL
 |0=>rfl
 |m+1=>by simp[Ju,zAV,h,zCV u h m]
section
variable {P:Program}{Γ:Ctx}{E:Env}{o:Oper}{d:Nat}
theorem zHv(t t2 e:TypeId)(k2:IntKind)(ti:TypeInfo)(z:Value)(u:T)(k s0:Nat)(y:Operand)(kd:IntKind)(m:Nat)(xs:List T)(ho:o.op=.call { callee:=.builtin .append,args:=#[.tmp s0,y],argTypes:=#[t,t2] })(gc:o.dst=dJ d)(hd:d<Γ.N)
  (ht:P.underlying t=dJ (.slice e))(cu:P.underlying t2=dJ (.int k2))(hi:P.info? e=dJ ti)(hz:ti.zero=dJ z)(hk:ti.size=k)(eA:0<k)(hb:ti.bytes≤2048)(hu:u.zOk=dL)(hv:sE u=z.cells.toList)(fw:u.size=k)
  (ey:E s0=dJ (.sl k xs))(hy:opT E y=dJ (.lit (.int kd m)))(f7:s0≠d)(ch:xs.length+m≤68719476736):
  xT P Γ o E (E.app (aWr d s0 dK k (xs++J1 m u)) (zBw d s0 dK)):=by
 refine xT.value gc fun a w G g9=>?_
 have fy:z.cells.size=k:=by grind[vF]
 have hzo:=zCV u hu m;have gA:=zCn _ hzo
 let f2:Nat→List Nat→Value:=fun _ z'=>kZ (zhd u z'.reverse)
 have hnvl:((Builtin.zeroCells z.cells m).toList).length=m*k:=by grind[Builtin.zeroCells]
 have hn:zHs Γ E G d s0 dK k xs.length (J1 m u) f2 (Builtin.zeroCells z.cells m).toList:=by
  refine⟨by grind,gA.2,gA.1,fun _ _=>zBP _,by grind,by simp,fun _ j x hx G2 w2 eJ=>?_,fun G2 eJ i v pC=>?_⟩
  ·grind[zKg]
  ·have h1:yD G2 d (J1 m u) [] xs.length=qH (J1 m u):=by grind[zEs]
   rw[h1,zGu]at pC;obtain⟨h2,h3⟩:=zKh sE u k (by grind) eA m i v pC
   grind[Builtin.zeroCells]
 have gm:∀v∈(Builtin.zeroCells z.cells m).toList,v.oneCell'=dL:=by
  intro v pC;simp only[Builtin.zeroCells,Array.toList_map,Array.toList_range,Ji,Kq]at pC;obtain⟨i,hH,rfl⟩:=pC
  grind[Gz,zFC]
 have mA:zHr P t2 e ti (a.eval y) (J1 m u).length (Builtin.zeroCells z.cells m).toList w:=by
  refine⟨.inr ⟨k2,kd,z,cu,?_,hz,by simp,?_,by omega⟩⟩
  ·rw[(yW g9 hy).1];simp
  ·simp only[J6]
   exact Hl (Ka (show m≤68719476736 by omega) hb) (by decide)
 obtain⟨v,w',gw,G',gk⟩:=zCo (P:=P) (ty:=o.type) g9 hd ht hi hz hk eA fy hb ey f7 hn mA gm (by grind);refine⟨v,w',?_,G',gk⟩;rw[←zBV g9 ey rfl]at gw;simp[execOp,ho,resolve,invoke,builtin,gw]
end
end Go.Ab

namespace Go.Ab
open Go
def zLA(G:Gh)(nd:List (Nat×List Nat×T)):Value:=
 match nd with
 | [x]=>sO G x.1 x.2.2 x.2.1
 |nd=>.tuple (nd.map fun x=>sO G x.1 x.2.2 x.2.1).toArray
def FnC(P:Program)(f:FuncId)(us:List T)(res:List T)(rws:List (Nat×T)):Prop:=
 ∀(St:Stb)(W:Nat→Prop)(w:World)(G:Gh)(vs:Array Value),vs.size=us.length→
  (∀(i:Nat) u,us[i]? =dJ u→vs[i]? =dJ (mkV G i u [])∧R St G w i u [])→Mem ⟨St,W,w,0⟩ G w→
  Calls P f vs w fun e w'=> ∃(S':Stb)(G':Gh)(nd:List (Nat×List Nat×T)),zDR St S' W w.heap.size∧e=.returned (zLA G' nd)∧Mem ⟨S',W,w,0⟩ G' w'∧nd.map (·.2.2)=res∧
   (∀x∈nd,R S' G' w' x.1 x.2.2 x.2.1∧us.length≤x.1)∧(nd.map (·.1)).Nodup∧
   ∀i u',(i,u')∈rws→R S' G' w' i u' []∧ ∃u,us[i]? =dJ u∧mkV G' i u' []=mkV G i u []
mutual
def vW:T→Bool
 |.ro _=>dM
 |.sl _ xs|.agg xs|.tup xs=>uD xs
 |.ptr t=>vW t
 |.any|.lit _|.same _ _|.addr _ _|.sub _ _ _ _ _=>dL
def uD:List T→Bool
 | []=>dL
 |x::xs=>vW x&&uD xs
end
section
variable {St St':Stb}{G:Gh}{w:World}{s:Nat}
mutual
theorem zQ4:(t:T)→ ∀(p:List Nat),vW t=dL→R St G w s t p→R St' G w s t p
 |.ro _,_,h,_=>by simp[vW]at h
 |.sl k xs,p,h,hr=>by
  simp only[vW,R]at h hr ⊢
  rcases hr with hr|⟨b,o0,cap,cs,e,h1,h2,h3,h4,h5,h6,h7,h8⟩
  ·exact .inl hr
  ·exact .inr ⟨b,o0,cap,cs,e,h1,h2,h3,h4,h5,h6,h7,zYr xs p 0 b o0 k h h8⟩
 |.agg xs,p,h,hr|.tup xs,p,h,hr=>by simp only[vW,R]at h hr ⊢;exact zYs xs p 0 h hr
 |.ptr t,p,h,hr=>by
  simp only[vW,R]at h hr ⊢
  obtain⟨b,cs,e,h1,h2,h3,h6,h4,h5⟩:=hr;exact⟨b,cs,e,h1,h2,h3,h6,h4,zQ4 t _ h h5⟩
 |.any,_,_,hr|.lit _,_,_,hr|.same _ _,_,_,hr|.addr _ _,_,_,hr|.sub _ _ _ _ _,_,_,hr=>by first|(simp only[R];done)|simpa only[R]using hr
theorem zYr:(xs:List T)→ ∀(p:List Nat)(i b o k:Nat),uD xs=dL→RL St G w s xs p i b o k→RL St' G w s xs p i b o k
 | [],_,_,_,_,_,_,_=>by simp only[RL]
 |x::xs,p,i,b,o,k,h,hr=>by
  simp only[uD,J2,RL]at h hr ⊢
  exact⟨hr.1,zQ4 x _ h.1 hr.2.1,zYr xs p (i+1) b _ k h.2 hr.2.2⟩
theorem zYs:(xs:List T)→ ∀(p:List Nat)(i:Nat),uD xs=dL→RF St G w s xs p i→RF St' G w s xs p i
 | [],_,_,_,_=>by simp only[RF]
 |x::xs,p,i,h,hr=>by
  simp only[uD,J2,RF]at h hr ⊢
  exact⟨zQ4 x _ h.1 hr.1,zYs xs p (i+1) h.2 hr.2⟩
end
end
section
variable {St St':Stb} (h:∀b x,St b=dJ x→St' b=dJ x)
 include h
mutual
theorem tF:(t:T)→ ∀(cs:Array Value)(o:Nat),RoC St t cs o→RoC St' t cs o
 |.sl k xs,cs,o,hr=>by
  simp only[RoC]at hr ⊢
  obtain⟨a,c,h1,h2,h3,h4⟩:=hr;refine⟨a,c,h1,h2,h3,fun gg=>?_⟩;obtain⟨b,o',cs',e,fr,h5,h6,h7⟩:=h4 gg;exact⟨b,o',cs',e,fr,h5,h b _ h6,zLB xs cs' o' k h7⟩
 |.agg xs,cs,o,hr=>by simp only[RoC]at hr ⊢;exact zLC xs cs o hr
 |.ptr t,cs,o,hr=>by
  simp only[RoC]at hr ⊢
  obtain⟨b,o',cs',e,fr,h5,h6,h7⟩:=hr;exact⟨b,o',cs',e,fr,h5,h b _ h6,tF t cs' o' h7⟩
 |.ro u,cs,o,hr=>by
  simp only[RoC]at hr ⊢
  obtain⟨f,vs,h1,h2,h3⟩:=hr;exact⟨f,vs,h1,h2,tF u _ _ h3⟩
 |.any,_,_,hr|.lit _,_,_,hr|.same _ _,_,_,hr|.addr _ _,_,_,hr|.sub _ _ _ _ _,_,_,hr|.tup _,_,_,hr=>by first|(simp only[RoC]at hr;done)|simpa only[RoC]using hr
theorem zLB:(xs:List T)→ ∀(cs:Array Value)(o k:Nat),RoL St xs cs o k→RoL St' xs cs o k
 | [],_,_,_,_=>by have _:=h;simp only[RoL]
 |x::xs,cs,o,k,hr=>by simp only[RoL]at hr ⊢;exact⟨tF x cs o hr.1,zLB xs cs _ k hr.2⟩
theorem zLC:(xs:List T)→ ∀(cs:Array Value)(o:Nat),RoF St xs cs o→RoF St' xs cs o
 | [],_,_,_=>by have _:=h;simp only[RoF]
 |x::xs,cs,o,hr=>by simp only[RoF]at hr ⊢;exact⟨tF x cs o hr.1,zLC xs cs _ hr.2⟩
end
end
section
variable {St St':Stb}{G:Gh}{w:World}{s:Nat} (h:∀b x,St b=dJ x→St' b=dJ x)
 include h
mutual
theorem zKq:(t:T)→ ∀(p:List Nat),R St G w s t p→R St' G w s t p
 |.ro t,_,hr=>by simp only[R]at hr ⊢;exact tF h t _ _ hr
 |.sl k xs,p,hr=>by
  simp only[R]at hr ⊢
  rcases hr with hr|⟨b,o0,cap,cs,e,h1,h2,h3,h4,h5,h6,h7,h8⟩
  ·exact .inl hr
  ·exact .inr ⟨b,o0,cap,cs,e,h1,h2,h3,h4,h5,h6,h7,zOX xs p 0 b o0 k h8⟩
 |.agg xs,p,hr|.tup xs,p,hr=>by simp only[R]at hr ⊢;exact zOY xs p 0 hr
 |.ptr t,p,hr=>by
  simp only[R]at hr ⊢
  obtain⟨b,cs,e,h1,h2,h3,h6,h4,h5⟩:=hr;exact⟨b,cs,e,h1,h2,h3,h6,h4,zKq t _ h5⟩
 |.any,_,hr|.lit _,_,hr|.same _ _,_,hr|.addr _ _,_,hr|.sub _ _ _ _ _,_,hr=>by first|(simp only[R];done)|simpa only[R]using hr
theorem zOX:(xs:List T)→ ∀(p:List Nat)(i b o k:Nat),RL St G w s xs p i b o k→RL St' G w s xs p i b o k
 | [],_,_,_,_,_,_=>by have _:=h;simp only[RL]
 |x::xs,p,i,b,o,k,hr=>by simp only[RL]at hr ⊢;exact⟨hr.1,zKq x _ hr.2.1,zOX xs p (i+1) b _ k hr.2.2⟩
theorem zOY:(xs:List T)→ ∀(p:List Nat)(i:Nat),RF St G w s xs p i→RF St' G w s xs p i
 | [],_,_,_=>by have _:=h;simp only[RF]
 |x::xs,p,i,hr=>by simp only[RF]at hr ⊢;exact⟨zKq x _ hr.1,zOY xs p (i+1) hr.2⟩
end
end
mutual
def strip:T→T
 |.lit v=>.lit v
 |.ro u=>if u.single then u else .any
 |.sl k xs=>.sl k (wG xs)
 |.agg xs=>.agg (wG xs)
 |.ptr t=>.ptr (strip t)
 |.any|.same _ _|.addr _ _|.sub _ _ _ _ _|.tup _=>.any
def wG:List T→List T
 | []=>[]
 |x::xs=>strip x::wG xs
end
theorem zAx:(xs:List T)→(wG xs).length=xs.length
 | []=>rfl
 |x::xs=>by simp[wG,zAx xs]
mutual
theorem zEw:(t:T)→(strip t).size=t.size
 |.agg xs=>by simp only[strip,T.size];exact zGv xs
 |.ro u=>by
  simp only[strip];split
  ·rename_i h;cases u<;>simp[T.single]at h<;>simp[T.size]
  ·simp[T.size]
 |.lit _|.sl _ _|.ptr _|.any|.same _ _|.addr _ _|.sub _ _ _ _ _|.tup _=>by simp[strip,T.size]
theorem zGv:(xs:List T)→T.sizes (wG xs)=T.sizes xs
 | []=>rfl
 |x::xs=>by simp only[wG,T.sizes,zEw x,zGv xs]
end
theorem kE{St:Stb}{u:T}(hu:u.single=dL){v:Value}{cs:Array Value}{o:Nat}(h:RoC St u #[v] 0)(hc:cs[o]? =dJ v):RoC St u cs o:=by
 cases u<;>simp[T.single]at hu<;>simp only[RoC]at h ⊢ <;>simp at h<;>first
  |exact⟨v,hc,h⟩
  |(obtain⟨rfl,h2⟩:=h;exact⟨hc,h2⟩)
  |(obtain⟨f,vs,rfl,h2⟩:=h;exact⟨f,vs,hc,h2⟩)
  |(obtain⟨a,c,rfl,h2⟩:=h;exact⟨a,c,hc,by simpa using h2⟩)
  |(obtain⟨b,o',rfl,h2⟩:=h;obtain⟨cs',⟨e,f1,f2,h3⟩,h4⟩:=h2;exact⟨b,o',cs',e,(f1,f2),hc,h3,h4⟩)
section
variable {St Sc:Stb}{G:Gh}{w:World}{s:Nat} (gm:∀s p,(G.hd s p).oneCell'=dL) (ei:∀b x,St b=dJ x→Sc b=dJ x) (ej:∀b,(∃y,G.ow b=dJ (s,y))→Sc b=w.heap[b]?)
 include gm ei ej
mutual
theorem frz:(t:T)→ ∀(p:List Nat)(b o:Nat)(cs:Array Value)(e:TypeId)(fr:Nat×Nat),w.heap[b]? =dJ (.cells cs e fr)→Loc G w s t p b o→R St G w s t p→RoC Sc (strip t) cs o
 |.agg xs,p,b,o,cs,e,fr,hb,hl,hr=>by simp only[Loc,R,strip,RoC]at hl hr ⊢;exact yBk xs p 0 b o cs e fr hb hl.2 hr
 |.tup _,_,_,_,_,_,_,_,hl,_=>by have _:=ej;simp only[Loc]at hl
 |.any,p,b,o,cs,e,fr,hb,hl,hr|.same _ _,p,b,o,cs,e,fr,hb,hl,hr|.addr _ _,p,b,o,cs,e,fr,hb,hl,hr|.sub _ _ _ _ _,p,b,o,cs,e,fr,hb,hl,hr=>by have h1:=(wT rfl hl).2.2;simp only[yL,World.cell?,hb]at h1;simp only[strip,RoC];exact⟨_,by simpa using h1,gm s p⟩
 |.lit v,p,b,o,cs,e,fr,hb,hl,hr=>by
  have h1:=(wT rfl hl).2.2;simp only[yL,World.cell?,hb]at h1;simp only[strip,RoC,R]at hr ⊢
  exact⟨by rw[←hr];simpa using h1,by rw[←hr];exact gm s p⟩
 |.ro u,p,b,o,cs,e,fr,hb,hl,hr=>by
  have h1:=(wT rfl hl).2.2;simp only[yL,World.cell?,hb]at h1;simp only[strip,R]at hr ⊢
  split
  ·rename_i hu
   exact kE hu (tF ei u _ _ hr) (by simpa using h1)
  ·simp only[RoC];exact⟨_,by simpa using h1,gm s p⟩
 |.sl k xs,p,b,o,cs,e,fr,hb,hl,hr=>by have h1:=(wT rfl hl).2.2;simp only[yL,World.cell?,hb]at h1;exact kE rfl (zLD (.sl k xs) p rfl hr) (by simpa using h1)
 |.ptr t,p,b,o,cs,e,fr,hb,hl,hr=>by have h1:=(wT rfl hl).2.2;simp only[yL,World.cell?,hb]at h1;exact kE rfl (zLD (.ptr t) p rfl hr) (by simpa using h1)
theorem yBk:(xs:List T)→ ∀(p:List Nat)(j b o:Nat)(cs:Array Value)(e:TypeId)(fr:Nat×Nat),w.heap[b]? =dJ (.cells cs e fr)→vB G w s xs p j b o→RF St G w s xs p j→RoF Sc (wG xs) cs o
 | [],_,_,_,_,_,_,_,_,_,_=>by have _:=gm;have _:=ei;have _:=ej;simp only[wG,RoF]
 |x::xs,p,j,b,o,cs,e,fr,hb,hl,hr=>by
  simp only[vB,RF,wG,RoF]at hl hr ⊢
  exact⟨frz x _ b o cs e fr hb hl.1 hr.1,by rw[zEw];exact yBk xs p (j+1) b _ cs e fr hb hl.2 hr.2⟩
theorem yBl:(xs:List T)→ ∀(p:List Nat)(i b o k:Nat)(cs:Array Value)(e:TypeId)(fr:Nat×Nat),w.heap[b]? =dJ (.cells cs e fr)→RL St G w s xs p i b o k→RoL Sc (wG xs) cs o k
 | [],_,_,_,_,_,_,_,_,_,_=>by have _:=gm;have _:=ei;have _:=ej;simp only[wG,RoL]
 |x::xs,p,i,b,o,k,cs,e,fr,hb,hr=>by
  simp only[RL,wG,RoL]at hr ⊢
  exact⟨frz x _ b o cs e fr hb hr.1.1 hr.2.1,yBl xs p (i+1) b _ k cs e fr hb hr.2.2⟩
theorem zLD:(t:T)→ ∀(p:List Nat),t.single=dL→R St G w s t p→RoC Sc (strip t) #[G.hd s p] 0
 |.agg _,_,h,_|.tup _,_,h,_=>by simp[T.single]at h
 |.any,p,_,_|.same _ _,p,_,_|.addr _ _,p,_,_|.sub _ _ _ _ _,p,_,_=>by simp only[strip,RoC];exact⟨_,by simp,gm s p⟩
 |.lit v,p,_,hr=>by simp only[strip,RoC,R]at hr ⊢;exact⟨by simp[hr],by rw[←hr];exact gm s p⟩
 |.ro u,p,_,hr=>by
  simp only[strip,R]at hr ⊢
  split
  ·exact tF ei u _ _ hr
  ·simp only[RoC];exact⟨_,by simp,gm s p⟩
 |.sl k xs,p,_,hr=>by
  simp only[strip,R,RoC]at hr ⊢
  rw[zAx];rcases hr with⟨rfl,a,h1⟩|⟨b,o0,cap,cs,e,h1,h2,h3,h4,h5,h6,h7,h8⟩
  ·exact⟨a,0,by simp[h1],by simp,by simp[maxLen],fun h=>by simp[wG]at h⟩
  ·exact⟨dJ ⟨b,o0,dK⟩,cap,by simp[h1],h3,h4,fun _=>⟨b,o0,cs,e,(0,0),rfl,by rw[ej b ⟨_,h6⟩];exact h2,yBl xs p 0 b o0 k cs e (0,0) h2 h8⟩⟩
 |.ptr t,p,_,hr=>by
  simp only[strip,R,RoC]at hr ⊢
  obtain⟨b,cs,e,h1,h2,h3,h6,h4,h5⟩:=hr;exact⟨b,0,cs,e,(0,0),by simp[h1],by rw[ej b ⟨_,h6⟩];exact h2,frz t _ b 0 cs e (0,0) h2 h4 h5⟩
end
end
end Go.Ab

namespace Go.Ab
open Go
mutual
def clo(E:Env):T→T
 |.agg ts=>.agg (zBW E ts)
 |.lit v=>.lit v
 |.ro u=>.ro u
 |.same r q=>match jP E 4 r q with
  |some (_,_,.ro u)=>.ro u
  |some (_,_,.lit v)=>.lit v
  |some (_,_,t)=>if t.single then .ro (strip t)else .any
  |none=>.any
 |.sub r q k lo hi=>match jP E 4 r q with
  |some (_,_,.sl k' xs)=>if k=k'∧lo≤hi∧hi≤xs.length then .ro (.sl k (((wG xs).drop lo).take (hi-lo)))else .any
  |_=>.any
 |.sl k xs=>.ro (strip (.sl k xs))
 |.ptr t=>.ro (strip (.ptr t))
 |.any|.addr _ _|.tup _=>.any
def zBW(E:Env):List T→List T
 | []=>[]
 |x::xs=>clo E x::zBW E xs
end
mutual
def qR(E:Env)(rs:List Nat)(s:Nat):T→Bool
 |.agg ts=>zBj E rs s ts
 |.same r q|.sub r q _ _ _=>match jP E 4 r q with
  |some (r',_,_)=> !rs.contains r'
  |none=>dL
 |.sl _ _|.ptr _=> !rs.contains s
 |.lit _|.ro _|.any|.addr _ _=>dL
 |.tup _=>dM
def zBj(E:Env)(rs:List Nat)(s:Nat):List T→Bool
 | []=>dL
 |x::xs=>qR E rs s x&&zBj E rs s xs
end
theorem zWc{St:Stb}{k:Nat}{xs:List T}{v:Value}{lo hi:Nat}(h:RoC St (.sl k xs) #[v] 0)(h1:lo≤hi)(h2:hi≤xs.length):RoC St (.sl k ((xs.drop lo).take (hi-lo))) #[zBN v k lo hi] 0:=by
 simp only[RoC]at h ⊢
 obtain⟨a',c,g4,g5,g6,g7⟩:=h;have hv:v=.slice a' xs.length c:=by grind
 subst hv;have gf:((xs.drop lo).take (hi-lo)).length=hi-lo:=by simp;omega
 refine⟨if c=lo then a' else a'.map (·.add (lo*k)),c-lo,by grind[zBN],by omega,by omega,?_⟩;intro gg;have eD:xs≠[]:=by grind
 obtain⟨b,o',cs',e',fr,rfl,h3,h4⟩:=g7 eD;have gA:c≠lo:=by grind
 grind[uB,zHh,zHg]
section
variable {Γ:Ctx}{E:Env}{G Gc:Gh}{a:Act}{w:World}{Sc:Stb}{rs:List Nat}{s i:Nat} (g9:Rep Γ E G a.tmps w) (ei:∀b x,Γ.St b=dJ x→Sc b=dJ x) (ej:∀r,r∉rs→ ∀b,(∃y,G.ow b=dJ (r,y))→Sc b=w.heap[b]?) (gI:∀z,Gc.hd i z=G.hd s z)
 include g9 ei ej gI
mutual
theorem zYt:(t:T)→ ∀(p:List Nat),qR E rs s t=dL→R Γ.St G w s t p→R Sc Gc w i (clo E t) p
 |.agg ts,p,h,hr=>by simp only[qR,clo,R]at h hr ⊢;exact zSi ts p 0 h hr
 |.tup _,_,h,_=>by grind[qR]
 |.lit v,p,_,hr=>by simp only[clo,R]at hr ⊢;grind
 |.ro u,p,_,hr=>by simp only[clo,R]at hr ⊢;grind[tF]
 |.any,_,_,_|.addr _ _,_,_,_=>by simp only[clo,R]
 |.sl k xs,p,h,hr=>by
  simp only[qR,G7,H0,decide_eq_false_iff_not]at h;have:=zLD (fun s p=>g9.mem.one s p) ei (ej s h) (.sl k xs) p rfl hr;simp only[clo,R]
  grind
 |.ptr t,p,h,hr=>by
  simp only[qR,G7,H0,decide_eq_false_iff_not]at h;have:=zLD (fun s p=>g9.mem.one s p) ei (ej s h) (.ptr t) p rfl hr;simp only[clo,R]
  grind
 |.same r q,p,h,hr=>by
  simp only[qR,clo,R]at h hr ⊢
  cases hf:jP E 4 r q with
  |none=>simp only[R]
  |some x=>
   obtain⟨r',q',t⟩:=x;simp only[hf,G7,H0,decide_eq_false_iff_not]at h;obtain⟨h1,h2,_⟩:=zD6 g9 4 r q r' q' t hf;have h3:Gc.hd i p=G.hd r' q':=by grind
   by_cases hs:t.single=dL
   ·have h4:=zLD (fun s p=>g9.mem.one s p) ei (ej r' h) t q' hs h1
    cases t with
    |ro u=>simp only[R]at h1 ⊢;grind[tF]
    |lit v=>simp only[R]at h1 ⊢;grind
    |agg _=>grind[T.single]
    |tup _=>grind[T.single]
    |_=>simp only[hs,if_true,R];grind
   ·cases t<;>simp[T.single]at hs<;>simp[T.single,R]
 |.sub r q k lo hi,p,h,hr=>by
  simp only[qR,clo,R]at h hr ⊢
  cases hf:jP E 4 r q with
  |none=>simp only[R]
  |some x=>
   obtain⟨r',q',t⟩:=x;simp only[hf,G7,H0,decide_eq_false_iff_not]at h;obtain⟨h1,h2,_⟩:=zD6 g9 4 r q r' q' t hf;cases t with
   |sl k' xs=>
    simp only[];split
    ·rename_i hc
     obtain⟨rfl,fc,fb⟩:=hc;have h4:=zLD (fun s p=>g9.mem.one s p) ei (ej r' h) (.sl k xs) q' rfl h1;simp only[strip]at h4;simp only[R]
     grind[zWc,zAx]
    ·simp only[R]
   |_=>simp only[R]
theorem zSi:(ts:List T)→ ∀(p:List Nat)(j:Nat),zBj E rs s ts=dL→RF Γ.St G w s ts p j→RF Sc Gc w i (zBW E ts) p j
 | [],_,_,_,_=>by have _:=g9;have _:=ei;have _:=ej;have _:=gI;simp only[zBW,RF]
 |x::xs,p,j,h,hr=>by
  simp only[zBj,J2,zBW,RF]at h hr ⊢
  exact⟨zYt x _ h.1 hr.1,zSi xs p (j+1) h.2 hr.2⟩
end
end
section
variable {E:Env}{G Gc:Gh}{rs:List Nat}{s i:Nat}
theorem zHw(t:T)(h:t.single=dL):(clo E t).single=dL:=by cases t<;>simp[T.single]at h<;>simp only[clo]<;>first|rfl|(split<;>first|rfl|(split<;>rfl))
mutual
theorem zSj(gI:∀z,Gc.hd i z=G.hd s z):(t:T)→ ∀(p:List Nat),qR E rs s t=dL→vals Gc i (clo E t) p=vals G s t p
 |.agg ts,p,h=>by simp only[qR,clo,vals]at h ⊢;exact zFF gI ts p 0 h
 |.tup _,_,h=>by grind[qR]
 |.lit _,p,_|.ro _,p,_|.any,p,_|.addr _ _,p,_|.sl _ _,p,_|.ptr _,p,_|.same _ _,p,_|.sub _ _ _ _ _,p,_=>by
  have h1:∀u:T,u.single=dL→vals Gc i u p=[G.hd s p]:=fun u hu=>by cases u<;>simp[T.single]at hu<;>simp[vals,gI]
  rw[h1 _ (zHw _ rfl)];simp[vals]
theorem zFF(gI:∀z,Gc.hd i z=G.hd s z):(ts:List T)→ ∀(p:List Nat)(j:Nat),zBj E rs s ts=dL→yD Gc i (zBW E ts) p j=yD G s ts p j
 | [],_,_,_=>by rfl
 |x::xs,p,j,h=>by simp only[zBj,J2]at h;simp only[zBW,yD];rw[zSj gI x _ h.1,zFF gI xs p _ h.2]
end
theorem zKr(gI:∀z,Gc.hd i z=G.hd s z)(t:T)(h:qR E rs s t=dL):mkV Gc i (clo E t) []=mkV G s t []:=by
 cases t with
 |agg ts=>grind[qR,clo,mkV,zFF]
 |tup _=>grind[qR]
 |_=>rw[xI (zHw _ rfl),xI rfl,gI]
end
end Go.Ab
