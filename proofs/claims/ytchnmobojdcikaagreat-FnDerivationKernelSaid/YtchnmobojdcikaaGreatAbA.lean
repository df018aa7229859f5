/- x -/
import Derived.Orders
import Derived.Laws.AppendOwn
import Derived.Laws.MakeOwn
import Derived.Great.BuildSlice
import Derived.Laws.Tables
open List renaming replicate→J1,length_append→J7,getElem?_eq_some_iff→J9,mem_map→Je,getElem?_append_right→Jf,append_nil→Jh,append_assoc→Ji,length_cons→Jj,map_cons→Jl,getElem?_map→Jm,mem_cons→Jq,mem_append→Jv,mem_range→Jx,eq_nil_of_length_eq_zero→Jz,all_eq_true→K3,nil_append→K6,getElem?_append→Kd,getElem?_append_left→Kg,length_set→Kh,reverse_reverse→Ki,length_replicate→Kk,nodup_cons→Km,set_cons_succ→Ks,replicate_succ→Kt,length_take→L5,mem_of_getElem?→L7,ext_getElem?→L9,getElem?_drop→La,set_cons_zero→Lf,take_succ_cons→Lj,flatMap_cons→Ln,contains_eq_mem→Lr,reverse_nil→H8,cons_append→Hv,map_nil→Hw,reverse_cons→Hy,drop_eq_getElem_cons→Ga,length_nil→U5,map_take→Ua,getElem?_take_of_lt→Ug,reverse_append→Qb,take_append→Qv,isEmpty_iff→Qx,size_toArray→Ja5,cons→Jaj,getElem?_cons_succ→Jan,flatMap_append→Jao
open Bool renaming and_eq_true→J2,false_eq_true→Lz,not_eq_true'→G1,false_and→Jaq
open Int renaming toNat_natCast→J8,natCast_mul→Ls
open Nat renaming zero_add→Ja,le_refl→Jd,lt_or_ge→Js,mul_le_mul→Jy,mul_le_mul_right→Kz,succ_mul→L8,add_assoc→Ll,add_mul→Lv,min_eq_left→H4,le_trans→Ht,lt_of_lt_of_le→Qo,le_mul_of_pos_right→Jah,add_zero→Jam
open Array renaming getElem?_setIfInBounds→Jc,length_toList→K7,getD_eq_getD_getElem?→Ka,getElem?_toList→Kf,getElem?_eq_some_iff→Hl,range→Jak,ext'→Jap
open Option renaming isSome_none→Q3,map_none→Ja3
open Prod renaming mk→Qj
open Option renaming some→dS,none→dT
open Bool renaming true→dU,false→dV
theorem dW{p:Prop}[h:Decidable p](a:¬p):decide p=false:=decide_eq_false a
theorem dX{p:Prop}[h:Decidable p](a:p):decide p=true:=decide_eq_true a
namespace Go.Ab
open Go
inductive T where
 |any
 |lit (v:Value)
 |ro (t:T)
 |same (r:Nat) (p:List Nat)
 |addr (r:Nat) (p:List Nat)
 |sub (r:Nat) (p:List Nat) (k lo hi:Nat)
 |sl (k:Nat) (xs:List T)
 |agg (xs:List T)
 |ptr (t:T)
 |tup (xs:List T)
 deriving Inhabited
abbrev Stb:=Nat→Option Obj
mutual
def T.size:T→Nat
 |.agg xs=>T.sizes xs
 |_=>1
def T.sizes:List T→Nat
 | []=>0
 |x::xs=>x.size+T.sizes xs
end
mutual
def RoC(St:Stb):T→Array Value→Nat→Prop
 |.any,cs,o=> ∃v,cs[o]? =dS v∧v.oneCell'=dU
 |.lit v,cs,o=>cs[o]? =dS v∧v.oneCell'=dU
 |.ro u,cs,o=> ∃f vs,cs[o]? =dS (.func (.func f) #[] vs)∧vs.size+1=u.size∧RoC St u (#[.func (.func f) #[] #[]]++vs) 0
 |.sl k xs,cs,o=> ∃a c,cs[o]? =dS (.slice a xs.length c)∧xs.length≤c∧c≤maxLen∧
   (xs≠[]→ ∃b o' cs' e fr,a=dS ⟨b,o',dT⟩∧St b=dS (.cells cs' e fr)∧RoL St xs cs' o' k)
 |.agg xs,cs,o=>RoF St xs cs o
 |.ptr t,cs,o=> ∃b o' cs' e fr,cs[o]? =dS (.pointer (dS ⟨b,o',dT⟩))∧St b=dS (.cells cs' e fr)∧RoC St t cs' o'
 |.same _ _,_,_=>False
 |.addr _ _,_,_=>False
 |.sub _ _ _ _ _,_,_=>False
 |.tup _,_,_=>False
def RoL(St:Stb):List T→Array Value→Nat→Nat→Prop
 | [],_,_,_=>True
 |x::xs,cs,o,k=>RoC St x cs o∧RoL St xs cs (o+k) k
def RoF(St:Stb):List T→Array Value→Nat→Prop
 | [],_,_=>True
 |x::xs,cs,o=>RoC St x cs o∧RoF St xs cs (o+x.size)
end
structure Gh where
 hd:Nat→List Nat→Value
 ad:Nat→List Nat→Addr
 lb:Nat→Nat→Option (Bool×Nat×List Nat)
 ow:Nat→Option (Nat×List Nat)
def yH(w:World)(b o:Nat):Option Value:=w.cell? ⟨b,o,dT⟩
mutual
def Loc(G:Gh)(w:World)(s:Nat):T→List Nat→Nat→Nat→Prop
 |.agg xs,p,b,o=>G.ad s p=⟨b,o,dT⟩∧wV G w s xs p 0 b o
 |.tup _,_,_,_=>False
 |.any,p,b,o|.lit _,p,b,o|.ro _,p,b,o|.same _ _,p,b,o|.addr _ _,p,b,o|.sub _ _ _ _ _,p,b,o|.sl _ _,p,b,o|.ptr _,p,b,o=>
  G.ad s p=⟨b,o,dT⟩∧G.lb b o=dS (dV,s,p)∧yH w b o=dS (G.hd s p)
def wV(G:Gh)(w:World)(s:Nat):List T→List Nat→Nat→Nat→Nat→Prop
 | [],_,_,_,_=>True
 |x::xs,p,j,b,o=>Loc G w s x (j::p) b o∧wV G w s xs p (j+1) b (o+x.size)
end
def zAN(v:Value)(k lo hi:Nat):Value:=
 match v with
 |.slice a _ c=>.slice (if c=lo then a else a.map (·.add (lo*k))) (hi-lo) (c-lo)
 |v=>v
mutual
def R(St:Stb)(G:Gh)(w:World)(s:Nat):T→List Nat→Prop
 |.any,_=>True
 |.lit v,p=>G.hd s p=v
 |.ro t,p=>RoC St t #[G.hd s p] 0
 |.same r q,p=>G.hd s p=G.hd r q
 |.addr r q,p=>G.hd s p=.pointer (dS (G.ad r q))
 |.sub r q k lo hi,p=>G.hd s p=zAN (G.hd r q) k lo hi
 |.sl k xs,p=>(xs=[]∧ ∃a,G.hd s p=.slice a 0 0)∨ ∃b o0 cap cs e,G.hd s p=.slice (dS ⟨b,o0,dT⟩) xs.length cap∧
   w.heap[b]? =dS (.cells cs e (0,0))∧xs.length≤cap∧cap≤maxLen∧o0+cap*k≤cs.size∧G.ow b=dS (s,p)∧
   (∀o,o0+xs.length*k≤o→o<o0+cap*k→G.lb b o=dS (dU,s,p))∧RL St G w s xs p 0 b o0 k
 |.agg xs,p=>RF St G w s xs p 0
 |.ptr t,p=> ∃b cs e,G.hd s p=.pointer (dS ⟨b,0,dT⟩)∧w.heap[b]? =dS (.cells cs e (0,0))∧cs.size=t.size∧G.ow b=dS (s,p)∧
   Loc G w s t (0::p) b 0∧R St G w s t (0::p)
 |.tup xs,p=>RF St G w s xs p 0
def RL(St:Stb)(G:Gh)(w:World)(s:Nat):List T→List Nat→Nat→Nat→Nat→Nat→Prop
 | [],_,_,_,_,_=>True
 |x::xs,p,i,b,o,k=>(Loc G w s x (i::p) b o∧x.size=k)∧R St G w s x (i::p)∧RL St G w s xs p (i+1) b (o+k) k
def RF(St:Stb)(G:Gh)(w:World)(s:Nat):List T→List Nat→Nat→Prop
 | [],_,_=>True
 |x::xs,p,j=>R St G w s x (j::p)∧RF St G w s xs p (j+1)
end
mutual
def yN(φ:Nat→List Nat→Prop):T→Prop
 |.same r p|.addr r p|.sub r p _ _ _=>φ r p
 |.sl _ xs|.agg xs|.tup xs=>xF φ xs
 |.ptr t=>yN φ t
 |.any|.lit _|.ro _=>True
def xF(φ:Nat→List Nat→Prop):List T→Prop
 | []=>True
 |x::xs=>yN φ x∧xF φ xs
end
mutual
theorem yN.mono{φ ψ:Nat→List Nat→Prop}(h:∀r p,φ r p→ψ r p):(t:T)→yN φ t→yN ψ t
 |.same _ _,ht|.addr _ _,ht|.sub _ _ _ _ _,ht=>h _ _ ht
 |.sl _ xs,ht|.agg xs,ht|.tup xs,ht=>by simp only[yN]at ht ⊢;exact xF.mono h xs ht
 |.ptr t,ht=>by simp only[yN]at ht ⊢;exact yN.mono h t ht
 |.any,_|.lit _,_|.ro _,_=>by simp[yN]
theorem xF.mono{φ ψ:Nat→List Nat→Prop}(h:∀r p,φ r p→ψ r p):(xs:List T)→xF φ xs→xF ψ xs
 | [],_=>trivial
 |x::xs,hx=>⟨yN.mono h x hx.1,xF.mono h xs hx.2⟩
end
mutual
theorem yN.triv{φ:Nat→List Nat→Prop}(h:∀r p,φ r p):(t:T)→yN φ t
 |.same _ _|.addr _ _|.sub _ _ _ _ _=>by simp only[yN];exact h _ _
 |.sl _ xs|.agg xs|.tup xs=>by simp only[yN];exact xF.triv h xs
 |.ptr t=>by simp only[yN];exact yN.triv h t
 |.any|.lit _|.ro _=>by simp only[yN]
theorem xF.triv{φ:Nat→List Nat→Prop}(h:∀r p,φ r p):(xs:List T)→xF φ xs
 | []=>by simp only[xF]
 |x::xs=>by simp only[xF];exact⟨yN.triv h x,xF.triv h xs⟩
end
abbrev zQ(t:T):Prop:=yN (fun _ _=>False) t
abbrev yK(xs:List T):Prop:=xF (fun _ _=>False) xs
def Blk(w w':World):Prop:=∀(b:Nat) cs e,w.heap[b]? =dS (.cells cs e (0,0))→ ∃cs',w'.heap[b]? =dS (.cells cs' e (0,0))∧cs'.size=cs.size
structure MovesE (G:Gh) (w:World) (G':Gh) (w':World) (s:Nat) (p:List Nat) (s':Nat) (p':List Nat):Prop where
 hd:∀z,G'.hd s' (z++p')=G.hd s (z++p)
 ad:∀z,z≠[]→G'.ad s' (z++p')=G.ad s (z++p)
 lb:∀b o f z,z≠[]→(∃y,G.ow b=dS (s,y))→G.lb b o=dS (f,s,z++p)→G'.lb b o=dS (f,s',z++p')∧yH w' b o=yH w b o
 ow:∀b z,z≠[]→G.ow b=dS (s,z++p)→G'.ow b=dS (s',z++p')
 blk:Blk w w'
structure zGV (G:Gh) (w:World) (G':Gh) (w':World) (s:Nat) (p:List Nat) (s':Nat) (p':List Nat):Prop extends MovesE G w G' w' s p s' p' where
 sp:∀b o,(∃y,G.ow b=dS (s,y))→G.lb b o=dS (dU,s,p)→G'.lb b o=dS (dU,s',p')∧yH w' b o=yH w b o
 ow0:∀b,G.ow b=dS (s,p)→G'.ow b=dS (s',p')
def zA6(G G':Gh)(r:Nat)(p:List Nat):Prop:=G'.hd r p=G.hd r p∧G'.ad r p=G.ad r p
section
variable {St:Stb}{G:Gh}{w:World}{G':Gh}{w':World}{s:Nat}{p:List Nat}{s':Nat}{p':List Nat}
mutual
theorem zEz(hm:MovesE G w G' w' s p s' p'):(t:T)→ ∀(z:List Nat)(b o:Nat),z≠[]→(∃y,G.ow b=dS (s,y))→Loc G w s t (z++p) b o→Loc G' w' s' t (z++p') b o
 |.agg xs,z,b,o,hz,gU,h=>by
  simp only[Loc]at h ⊢
  exact⟨(hm.ad z hz).trans h.1,zII hm xs z 0 b o gU h.2⟩
 |.any,z,b,o,hz,gU,h|.lit _,z,b,o,hz,gU,h|.ro _,z,b,o,hz,gU,h|.same _ _,z,b,o,hz,gU,h|.addr _ _,z,b,o,hz,gU,h|.sub _ _ _ _ _,z,b,o,hz,gU,h|.sl _ _,z,b,o,hz,gU,h|.ptr _,z,b,o,hz,gU,h=>by
  simp only[Loc]at h ⊢
  obtain⟨h1,h2,h3⟩:=h;have hl:=hm.lb b o dV z hz gU h2;exact⟨(hm.ad z hz).trans h1,hl.1,by rw[hl.2,h3,hm.hd]⟩
 |.tup _,_,_,_,_,_,h=>by simp only[Loc]at h
theorem zII(hm:MovesE G w G' w' s p s' p'):(xs:List T)→ ∀(z:List Nat)(j b o:Nat),(∃y,G.ow b=dS (s,y))→wV G w s xs (z++p) j b o→wV G' w' s' xs (z++p') j b o
 | [],_,_,_,_,_,_=>by simp only[wV]
 |x::xs,z,j,b,o,gU,h=>by
  simp only[wV]at h ⊢
  exact⟨zEz hm x (j::z) b o (by simp) gU h.1,zII hm xs z (j+1) b _ gU h.2⟩
end
mutual
theorem zE0(hm:MovesE G w G' w' s p s' p'):(t:T)→ ∀(z:List Nat),z≠[]→yN (zA6 G G') t→R St G w s t (z++p)→R St G' w' s' t (z++p')
 |.any,_,_,_,_=>by simp only[R]
 |.lit _,z,_,_,h=>by simp only[R]at h ⊢;rw[hm.hd];exact h
 |.ro _,z,_,_,h=>by simp only[R]at h ⊢;rw[hm.hd];exact h
 |.same r q,z,_,hk,h=>by simp only[R]at h ⊢;rw[hm.hd,hk.1];exact h
 |.addr r q,z,_,hk,h=>by simp only[R]at h ⊢;rw[hm.hd,hk.2];exact h
 |.sub r q k lo hi,z,_,hk,h=>by simp only[R]at h ⊢;rw[hm.hd,hk.1];exact h
 |.agg xs,z,_,hk,h=>by simp only[R,yN]at h hk ⊢;exact zE1 hm xs z 0 hk h
 |.tup xs,z,_,hk,h=>by simp only[R,yN]at h hk ⊢;exact zE1 hm xs z 0 hk h
 |.sl k xs,z,hz,hk,h=>by
  simp only[R,yN]at h hk ⊢
  rw[hm.hd];rcases h with h|⟨b,o0,cap,cs,e,h1,h2,h3,h4,h5,h6,h7,h8⟩
  ·exact .inl h
  ·obtain⟨cs',ft,gv⟩:=hm.blk b cs e h2
   exact .inr ⟨b,o0,cap,cs',e,h1,ft,h3,h4,by omega,hm.ow b z hz h6,fun o ho fL=>(hm.lb b o dU z hz ⟨_,h6⟩ (h7 o ho (by omega))).1,zJN hm xs z 0 b o0 k ⟨_,h6⟩ hk h8⟩
 |.ptr t,z,hz,hk,h=>by
  simp only[R,yN]at h hk ⊢
  rw[hm.hd];obtain⟨b,cs,e,h1,h2,h3,h6,h4,h5⟩:=h;obtain⟨cs',ft,gv⟩:=hm.blk b cs e h2;exact⟨b,cs',e,h1,ft,by omega,hm.ow b z hz h6,zEz hm t (0::z) b 0 (by simp) ⟨_,h6⟩ h4,zE0 hm t (0::z) (by simp) hk h5⟩
theorem zJN(hm:MovesE G w G' w' s p s' p'):(xs:List T)→ ∀(z:List Nat)(i b o k:Nat),(∃y,G.ow b=dS (s,y))→xF (zA6 G G') xs→RL St G w s xs (z++p) i b o k→RL St G' w' s' xs (z++p') i b o k
 | [],_,_,_,_,_,_,_,_=>by simp only[RL]
 |x::xs,z,i,b,o,k,gU,hk,h=>by
  simp only[RL,xF]at h hk ⊢
  exact⟨⟨zEz hm x (i::z) b o (by simp) gU h.1.1,h.1.2⟩,zE0 hm x (i::z) (by simp) hk.1 h.2.1,zJN hm xs z (i+1) b _ k gU hk.2 h.2.2⟩
theorem zE1(hm:MovesE G w G' w' s p s' p'):(xs:List T)→ ∀(z:List Nat)(j:Nat),xF (zA6 G G') xs→RF St G w s xs (z++p) j→RF St G' w' s' xs (z++p') j
 | [],_,_,_,_=>by simp only[RF]
 |x::xs,z,j,hk,h=>by
  simp only[RF,xF]at h hk ⊢
  exact⟨zE0 hm x (j::z) (by simp) hk.1 h.1,zE1 hm xs z (j+1) hk.2 h.2⟩
end
theorem zAa(hm:zGV G w G' w' s p s' p')(t:T)(hk:yN (zA6 G G') t)(h:R St G w s t p):R St G' w' s' t p':=by
 have hd0:G'.hd s' p'=G.hd s p:=by simpa using hm.hd []
 cases t with
 |any=>simp only[R]
 |lit _=>simp only[R]at h ⊢;rw[hd0];exact h
 |ro _=>simp only[R]at h ⊢;rw[hd0];exact h
 |same r q=>simp only[R]at h ⊢;rw[hd0,hk.1];exact h
 |addr r q=>simp only[R]at h ⊢;rw[hd0,hk.2];exact h
 |sub r q k lo hi=>simp only[R]at h ⊢;rw[hd0,hk.1];exact h
 |agg xs=>simp only[R,yN]at h hk ⊢;simpa using zE1 hm.toMovesE xs [] 0 hk (by simpa using h)
 |tup xs=>simp only[R,yN]at h hk ⊢;simpa using zE1 hm.toMovesE xs [] 0 hk (by simpa using h)
 |sl k xs=>
  simp only[R,yN]at h hk ⊢
  rw[hd0];rcases h with h|⟨b,o0,cap,cs,e,h1,h2,h3,h4,h5,h6,h7,h8⟩
  ·exact .inl h
  ·obtain⟨cs',ft,gv⟩:=hm.blk b cs e h2
   exact .inr ⟨b,o0,cap,cs',e,h1,ft,h3,h4,by omega,hm.ow0 b h6,fun o ho fL=>(hm.sp b o ⟨_,h6⟩ (h7 o ho (by omega))).1,by simpa using zJN hm.toMovesE xs [] 0 b o0 k ⟨_,h6⟩ hk (by simpa using h8)⟩
 |ptr t=>
  simp only[R,yN]at h hk ⊢
  rw[hd0];obtain⟨b,cs,e,h1,h2,h3,h6,h4,h5⟩:=h;obtain⟨cs',ft,gv⟩:=hm.blk b cs e h2;exact⟨b,cs',e,h1,ft,by omega,hm.ow0 b h6,zEz hm.toMovesE t [0] b 0 (by simp) ⟨_,h6⟩ h4,zE0 hm.toMovesE t [0] (by simp) hk h5⟩
theorem zRv(hm:zGV G w G' w' s p s' p')(t:T)(z:List Nat)(hk:yN (zA6 G G') t)(h:R St G w s t (z++p)):R St G' w' s' t (z++p'):=by
 cases z with
 |nil=>exact zAa hm t hk h
 |cons i z=>exact zE0 hm.toMovesE t (i::z) (by simp) hk h
end
end Go.Ab

namespace Go.Ab
open Go
def T.get:T→List Nat→Option T
 |t,[]=>dS t
 |.sl _ xs,i::f|.agg xs,i::f|.tup xs,i::f=>match xs[i]? with
  |some x=>x.get f
  |none=>dT
 |.ptr t,i::f=>if i=0 then t.get f else dT
 |.any,_::_|.lit _,_::_|.ro _,_::_|.same _ _,_::_|.addr _ _,_::_|.sub _ _ _ _ _,_::_=>dT
termination_by structural _ f=>f
def T.set:T→List Nat→T→T
 |_,[],u=>u
 |.sl k xs,i::f,u=>match xs[i]? with
  |some x=>.sl k (xs.set i (x.set f u))
  |none=>.sl k xs
 |.agg xs,i::f,u=>match xs[i]? with
  |some x=>.agg (xs.set i (x.set f u))
  |none=>.agg xs
 |.tup xs,i::f,u=>match xs[i]? with
  |some x=>.tup (xs.set i (x.set f u))
  |none=>.tup xs
 |.ptr t,i::f,u=>if i=0 then .ptr (t.set f u)else .ptr t
 |.any,_::_,_=>.any
 |.lit v,_::_,_=>.lit v
 |.ro t,_::_,_=>.ro t
 |.same r q,_::_,_=>.same r q
 |.addr r q,_::_,_=>.addr r q
 |.sub r q k lo hi,_::_,_=>.sub r q k lo hi
termination_by structural _ f _=>f
def T.locd:T→List Nat→Bool
 |_,[]=>dV
 |.sl _ _,_::_|.ptr _,_::_=>dU
 |.agg xs,i::f|.tup xs,i::f=>match xs[i]? with
  |some x=>x.locd f
  |none=>dV
 |.any,_::_|.lit _,_::_|.ro _,_::_|.same _ _,_::_|.addr _ _,_::_|.sub _ _ _ _ _,_::_=>dV
termination_by structural _ f=>f
abbrev rp(f p:List Nat):List Nat:=f.reverse++p
theorem zBn(i:Nat)(f p:List Nat):rp (i::f) p=rp f (i::p):=by simp[rp]
section
variable {St:Stb}{G:Gh}{w:World}{s:Nat}
theorem sL:(xs:List T)→ ∀(p:List Nat)(i0 b o k i:Nat)(x:T),RL St G w s xs p i0 b o k→xs[i]? =dS x→
  Loc G w s x ((i0+i)::p) b (o+i*k)∧x.size=k∧R St G w s x ((i0+i)::p)
 | [],_,_,_,_,_,_,_,_,h=>by simp at h
 |y::ys,p,i0,b,o,k,i,x,hr,h=>by
  simp only[RL]at hr;cases i with
  |zero=>
   simp at h;subst h;simpa using⟨hr.1.1,hr.1.2,hr.2.1⟩
  |succ i=>
   have:=sL ys p (i0+1) b (o+k) k i x hr.2.2 (by simpa using h);rw[show i0+(i+1)=i0+1+i from by omega,show o+(i+1)*k=o+k+i*k from by rw[L8];omega];exact this
theorem zBx:(xs:List T)→ ∀(p:List Nat)(j i:Nat)(x:T),RF St G w s xs p j→xs[i]? =dS x→R St G w s x ((j+i)::p)
 | [],_,_,_,_,_,h=>by simp at h
 |y::ys,p,j,i,x,hr,h=>by
  simp only[RF]at hr;cases i with
  |zero=>simp at h;subst h;simpa using hr.1
  |succ i=>
   have:=zBx ys p (j+1) i x hr.2 (by simpa using h)
   rwa [show j+(i+1)=j+1+i from by omega]
theorem zKT:(xs:List T)→ ∀(p:List Nat)(j b o i:Nat)(x:T),wV G w s xs p j b o→xs[i]? =dS x→
  ∃o',Loc G w s x ((j+i)::p) b o'∧o≤o'∧o'+x.size≤o+T.sizes xs
 | [],_,_,_,_,_,_,_,h=>by simp at h
 |y::ys,p,j,b,o,i,x,hr,h=>by
  simp only[wV]at hr;cases i with
  |zero=>simp at h;subst h;exact⟨o,by simpa using hr.1,by omega,by simp[T.sizes]⟩
  |succ i=>
   obtain⟨o',h1,h2,h3⟩:=zKT ys p (j+1) b (o+y.size) i x hr.2 (by simpa using h);refine⟨o',?_,by omega,by simp only[T.sizes];omega⟩
   rwa [show j+(i+1)=j+1+i from by omega]
def At(G:Gh)(w:World)(s:Nat)(t:T)(p:List Nat):Prop:=
 ∃b o cs e,Loc G w s t p b o∧w.heap[b]? =dS (.cells cs e (0,0))∧o+t.size≤cs.size
theorem At.field{xs:List T}{p:List Nat}(h:At G w s (.agg xs) p){i:Nat}{x:T}(hx:xs[i]? =dS x):At G w s x (i::p):=by obtain⟨b,o,cs,e,hl,hh,hs⟩:=h;simp only[Loc]at hl;obtain⟨o',h1,h2,h3⟩:=zKT xs p 0 b o i x hl.2 hx;simp only[T.size]at hs;exact⟨b,o',cs,e,by simpa using h1,hh,by omega⟩
theorem zDk{k:Nat}{xs:List T}{p:List Nat}(h:R St G w s (.sl k xs) p){i:Nat}{x:T}(hx:xs[i]? =dS x):
  At G w s x (i::p)∧R St G w s x (i::p):=by
 simp only[R]at h;have hi:=(J9.1 hx).1;rcases h with⟨rfl,_⟩|⟨b,o0,cap,cs,e,h1,h2,h3,h4,h5,h6,h7,h8⟩
 ·simp at hx
 ·obtain⟨a1,a2,a3⟩:=sL xs p 0 b o0 k i x h8 hx
  simp only[Ja]at a1 a3;refine⟨⟨b,o0+i*k,cs,e,a1,h2,?_⟩,a3⟩;rw[a2,Ll,←L8];exact Ht (Nat.add_le_add_left (Kz _ (by omega)) _) h5
theorem zBC{t:T}{p:List Nat}(h:R St G w s (.ptr t) p):At G w s t (0::p)∧R St G w s t (0::p):=by simp only[R]at h;obtain⟨b,cs,e,h1,h2,h3,h6,h4,h5⟩:=h;exact⟨⟨b,0,cs,e,h4,h2,by omega⟩,h5⟩
theorem zAO:(f:List Nat)→ ∀(t u:T)(p:List Nat),At G w s t p→R St G w s t p→t.get f=dS u→At G w s u (rp f p)∧R St G w s u (rp f p)
 | [],t,u,p,ha,h,hg=>by simp[T.get]at hg;subst hg;simpa[rp]using⟨ha,h⟩
 |i::f,t,u,p,ha,h,hg=>by
  rw[zBn];cases t with
  |sl k xs=>
   simp only[T.get]at hg;cases hx:xs[i]? with
   |none=>simp[hx]at hg
   |some x=>rw[hx]at hg;exact zAO f x u _ (zDk h hx).1 (zDk h hx).2 hg
  |ptr t=>
   simp only[T.get]at hg;split at hg
   ·rename_i hi;subst hi;exact zAO f t u _ (zBC h).1 (zBC h).2 hg
   ·cases hg
  |agg xs=>
   simp only[T.get]at hg;cases hx:xs[i]? with
   |none=>simp[hx]at hg
   |some x=>rw[hx]at hg;exact zAO f x u _ (ha.field hx) (by simp only[R]at h;simpa using zBx xs p 0 i x h hx) hg
  |tup xs=>obtain⟨b,o,cs,e,hl,_⟩:=ha;simp only[Loc]at hl
  |_=>simp[T.get]at hg
theorem zBD:(f:List Nat)→ ∀(t u:T)(p:List Nat),R St G w s t p→t.get f=dS u→R St G w s u (rp f p)∧(t.locd f=dU→At G w s u (rp f p))
 | [],t,u,p,h,hg=>by simp[T.get]at hg;subst hg;simpa[rp,T.locd]using h
 |i::f,t,u,p,h,hg=>by
  rw[zBn];cases t with
  |sl k xs=>
   simp only[T.get]at hg;cases hx:xs[i]? with
   |none=>simp[hx]at hg
   |some x=>rw[hx]at hg;exact⟨(zAO f x u _ (zDk h hx).1 (zDk h hx).2 hg).2,fun _=>(zAO f x u _ (zDk h hx).1 (zDk h hx).2 hg).1⟩
  |ptr t=>
   simp only[T.get]at hg;split at hg
   ·rename_i hi;subst hi;exact⟨(zAO f t u _ (zBC h).1 (zBC h).2 hg).2,fun _=>(zAO f t u _ (zBC h).1 (zBC h).2 hg).1⟩
   ·cases hg
  |agg xs=>
   simp only[T.get,T.locd]at hg ⊢
   cases hx:xs[i]? with
   |none=>simp[hx]at hg
   |some x=>rw[hx]at hg;exact zBD f x u _ (by simp only[R]at h;simpa using zBx xs p 0 i x h hx) hg
  |tup xs=>
   simp only[T.get,T.locd]at hg ⊢
   cases hx:xs[i]? with
   |none=>simp[hx]at hg
   |some x=>rw[hx]at hg;exact zBD f x u _ (by simp only[R]at h;simpa using zBx xs p 0 i x h hx) hg
  |_=>simp[T.get]at hg
end
structure Upd (G:Gh) (w:World) (G':Gh) (w':World) (s:Nat) (tgt:List Nat):Prop where
 hd:∀p,¬tgt<:+p→G'.hd s p=G.hd s p
 ad:∀p,¬tgt<:+p→G'.ad s p=G.ad s p
 lb:∀b o f p,G.lb b o=dS (f,s,p)→ ¬tgt<:+p→G'.lb b o=dS (f,s,p)∧yH w' b o=yH w b o
 ow:∀b p,G.ow b=dS (s,p)→ ¬tgt<:+p→G'.ow b=dS (s,p)
 blk:Blk w w'
section
variable {St:Stb}{G:Gh}{w:World}{G':Gh}{w':World}{s:Nat}{tgt:List Nat}
theorem Upd.moves(h:Upd G w G' w' s tgt){p:List Nat}(hp:∀z,¬tgt<:+z++p):zGV G w G' w' s p s p where
 hd z:=h.hd _ (hp z)
 ad z _:=h.ad _ (hp z)
 lb b o f z _ _ hl:=h.lb b o f _ hl (hp z)
 ow b z _ hl:=h.ow b _ hl (hp z)
 sp b o _ hl:=h.lb b o dU p hl (hp [])
 ow0 b hl:=h.ow b p hl (hp [])
 blk:=h.blk
mutual
theorem zE2(hm:Upd G w G' w' s tgt):(t:T)→ ∀(p:List Nat)(b o:Nat),(∀z,¬tgt<:+z++p)→Loc G w s t p b o→Loc G' w' s t p b o
 |.agg xs,p,b,o,hz,h=>by
  simp only[Loc]at h ⊢
  exact⟨(hm.ad p (hz [])).trans h.1,zKU hm xs p 0 b o hz h.2⟩
 |.any,p,b,o,hz,h|.lit _,p,b,o,hz,h|.ro _,p,b,o,hz,h|.same _ _,p,b,o,hz,h|.addr _ _,p,b,o,hz,h|.sub _ _ _ _ _,p,b,o,hz,h|.sl _ _,p,b,o,hz,h|.ptr _,p,b,o,hz,h=>by
  simp only[Loc]at h ⊢
  obtain⟨h1,h2,h3⟩:=h;have hl:=hm.lb b o dV p h2 (hz []);exact⟨(hm.ad p (hz [])).trans h1,hl.1,by rw[hl.2,h3,hm.hd p (hz [])]⟩
 |.tup _,_,_,_,_,h=>by simp only[Loc]at h
theorem zKU(hm:Upd G w G' w' s tgt):(xs:List T)→ ∀(p:List Nat)(j b o:Nat),(∀z,¬tgt<:+z++p)→wV G w s xs p j b o→wV G' w' s xs p j b o
 | [],_,_,_,_,_,_=>by simp only[wV]
 |x::xs,p,j,b,o,hz,h=>by
  simp only[wV]at h ⊢
  exact⟨zE2 hm x (j::p) b o (fun z=>by have:=hz (z++[j]);simpa using this) h.1,zKU hm xs p (j+1) b _ hz h.2⟩
end
theorem zKV(hm:Upd G w G' w' s tgt)(t u:T)(p:List Nat)(b o:Nat)(ht:∀xs,t≠.agg xs)(hu:∀xs,u≠.agg xs)(av:∀xs,u≠.tup xs)(hz:¬tgt<:+p)(h:Loc G w s t p b o):Loc G' w' s u p b o:=by
 have h3:G.ad s p=⟨b,o,dT⟩∧G.lb b o=dS (dV,s,p)∧yH w b o=dS (G.hd s p):=by
  cases t with
  |agg xs=>exact absurd rfl (ht xs)
  |tup xs=>simp only[Loc]at h
  |_=>simpa only[Loc]using h
 obtain⟨h1,h2,h3⟩:=h3;have hl:=hm.lb b o dV p h2 hz;have h4:G'.ad s p=⟨b,o,dT⟩∧G'.lb b o=dS (dV,s,p)∧yH w' b o=dS (G'.hd s p):=⟨(hm.ad p hz).trans h1,hl.1,by rw[hl.2,h3,hm.hd p hz]⟩;cases u with
 |agg xs=>exact absurd rfl (hu xs)
 |tup xs=>exact absurd rfl (av xs)
 |_=>simpa only[Loc]using h4
theorem jW{f p:List Nat}{i i':Nat}(hi:i'≠i)(z:List Nat):¬f.reverse++(i::p)<:+z++(i'::p):=by
 rintro⟨y,hy⟩
 rw[←Ji]at hy;have:=List.append_inj_right' hy rfl;simp at this;exact hi this.symm
theorem zAb{f p:List Nat}{i:Nat}:¬f.reverse++(i::p)<:+p:=by intro h;have:=h.length_le;simp at this;omega
theorem zIJ:(xs:List T)→ ∀(i:Nat)(x y:T),xs[i]? =dS x→y.size=x.size→T.sizes (xs.set i y)=T.sizes xs
 | [],_,_,_,h,_=>by simp at h
 |z::zs,i,x,y,h,hs=>by
  cases i with
  |zero=>simp at h;subst h;simp[T.sizes,hs]
  |succ i=>simp only[Ks,T.sizes,zIJ zs i x y (by simpa using h) hs]
theorem zE3:(f:List Nat)→ ∀(t u u0:T),t.get f=dS u0→u.size=u0.size→(t.set f u).size=t.size
 | [],t,u,u0,h,hs=>by simp[T.get]at h;subst h;simpa[T.set]using hs
 |i::f,t,u,u0,h,hs=>by
  cases t with
  |sl k xs=>simp only[T.get]at h;cases hx:xs[i]? <;>simp[hx,T.set,T.size]at h ⊢
  |tup xs=>simp only[T.get]at h;cases hx:xs[i]? <;>simp[hx,T.set,T.size]at h ⊢
  |agg xs=>
   simp only[T.get]at h;cases hx:xs[i]? with
   |none=>simp[hx]at h
   |some x=>
    rw[hx]at h;simp only[T.set,hx,T.size];exact zIJ xs i x _ hx (zE3 f x u u0 h hs)
  |ptr t=>simp only[T.get]at h;split at h<;>simp_all [T.set,T.size]
  |_=>simp[T.get]at h
theorem zKW(hm:Upd G w G' w' s tgt):(xs:List T)→ ∀(p:List Nat)(j b o i:Nat)(x y:T),wV G w s xs p j b o→xs[i]? =dS x→y.size=x.size→
  (∀i',i'≠j+i→ ∀z,¬tgt<:+z++(i'::p))→(∀o',Loc G w s x ((j+i)::p) b o'→Loc G' w' s y ((j+i)::p) b o')→wV G' w' s (xs.set i y) p j b o
 | [],_,_,_,_,_,_,_,_,h,_,_,_=>by simp at h
 |z::zs,p,j,b,o,i,x,y,hl,h,hs,hz,hy=>by
  simp only[wV]at hl;cases i with
  |zero=>
   simp at h;subst h;simp only[Lf,wV,hs];exact⟨by simpa using hy o (by simpa using hl.1),LocF_upd' hm zs p (j+1) b _ (fun i' ey=>hz i' (by omega)) hl.2⟩
  |succ i=>
   simp only[Ks,wV];refine⟨zE2 hm z _ b o (hz j (by omega)) hl.1,zKW hm zs p (j+1) b _ i x y hl.2 (by simpa using h) hs (fun i' ey=>hz i' (by omega)) ?_⟩;rw[show j+1+i=j+(i+1)from by omega];exact hy
where LocF_upd' (hm:Upd G w G' w' s tgt):(xs:List T)→ ∀(p:List Nat)(j b o:Nat),(∀i',j≤i'→ ∀z,¬tgt<:+z++(i'::p))→wV G w s xs p j b o→wV G' w' s xs p j b o
 | [],_,_,_,_,_,_=>by simp only[wV]
 |x::xs,p,j,b,o,hz,h=>by
  simp only[wV]at h ⊢
  exact⟨zE2 hm x (j::p) b o (hz j (Jd _)) h.1,LocF_upd' hm xs p (j+1) b _ (fun i' ey=>hz i' (by omega)) h.2⟩
theorem zJO:(f:List Nat)→ ∀(t u u0:T)(p:List Nat)(b o:Nat),Upd G w G' w' s (rp f p)→Loc G w s t p b o→t.get f=dS u0→u.size=u0.size→
  (∀o',Loc G w s u0 (rp f p) b o'→Loc G' w' s u (rp f p) b o')→Loc G' w' s (t.set f u) p b o
 | [],t,u,u0,p,b,o,hm,hl,hg,hs,hu=>by simp[T.get]at hg;subst hg;simpa[T.set,rp]using hu o (by simpa[rp]using hl)
 |i::f,t,u,u0,p,b,o,hm,hl,hg,hs,hu=>by
  have gD:=hm;rw[zBn]at gD;cases t with
  |sl k xs=>
   have:∃ys,(T.sl k xs).set (i::f) u=.sl k ys:=by simp only[T.set];split<;>exact⟨_,rfl⟩
   obtain⟨ys,hy⟩:=this;rw[hy];exact zKV gD (.sl k xs) (.sl k ys) p b o (by simp) (by simp) (by simp) zAb hl
  |ptr t=>
   have:∃ys,(T.ptr t).set (i::f) u=.ptr ys:=by simp only[T.set];split<;>exact⟨_,rfl⟩
   obtain⟨ys,hy⟩:=this;rw[hy];exact zKV gD (.ptr t) (.ptr ys) p b o (by simp) (by simp) (by simp) zAb hl
  |agg xs=>
   simp only[T.get]at hg;cases hx:xs[i]? with
   |none=>simp[hx]at hg
   |some x=>
    rw[hx]at hg;simp only[T.set,hx];simp only[Loc]at hl ⊢
    refine⟨(gD.ad p zAb).trans hl.1,zKW gD xs p 0 b o i x _ hl.2 hx (zE3 f x u u0 hg hs) (fun i' ey z=>jW (by omega) z) ?_⟩;intro o' ho';simp only[Ja]at ho' ⊢
    exact zJO f x u u0 (i::p) b o' gD ho' hg hs (by simpa only[zBn]using hu)
  |tup xs=>simp only[Loc]at hl
  |_=>simp[T.get]at hg
end
end Go.Ab

namespace Go.Ab
open Go
section
variable {St:Stb}{G:Gh}{w:World}{G':Gh}{w':World}{s:Nat}{tgt:List Nat}
theorem zOB(hm:Upd G w G' w' s tgt)(t:T)(p:List Nat)(hz:∀z,¬tgt<:+z++p)(hk:yN (zA6 G G') t)(h:R St G w s t p):R St G' w' s t p:=by simpa using zRv (hm.moves hz) t [] hk (by simpa using h)
theorem zRw(hm:Upd G w G' w' s tgt):(xs:List T)→ ∀(p:List Nat)(i b o k:Nat),(∀i',i≤i'→ ∀z,¬tgt<:+z++(i'::p))→xF (zA6 G G') xs→RL St G w s xs p i b o k→RL St G' w' s xs p i b o k
 | [],_,_,_,_,_,_,_,_=>by simp only[RL]
 |x::xs,p,i,b,o,k,hz,hk,h=>by
  simp only[RL,xF]at h hk ⊢
  exact⟨⟨zE2 hm x (i::p) b o (hz i (Jd _)) h.1.1,h.1.2⟩,zOB hm x (i::p) (hz i (Jd _)) hk.1 h.2.1,
   zRw hm xs p (i+1) b _ k (fun i' ey=>hz i' (by omega)) hk.2 h.2.2⟩
theorem zRx(hm:Upd G w G' w' s tgt):(xs:List T)→ ∀(p:List Nat)(i0 b o k i:Nat)(x y:T),RL St G w s xs p i0 b o k→xs[i]? =dS x→y.size=x.size→xF (zA6 G G') xs→
  (∀i',i'≠i0+i→ ∀z,¬tgt<:+z++(i'::p))→(∀o',Loc G w s x ((i0+i)::p) b o'→Loc G' w' s y ((i0+i)::p) b o')→R St G' w' s y ((i0+i)::p)→
  RL St G' w' s (xs.set i y) p i0 b o k
 | [],_,_,_,_,_,_,_,_,_,h,_,_,_,_,_=>by simp at h
 |z::zs,p,i0,b,o,k,i,x,y,hr,h,hs,hk,hz,hl,hy=>by
  simp only[RL,xF]at hr hk;cases i with
  |zero=>
   simp at h;subst h;simp only[Lf,RL];exact⟨⟨by simpa using hl o (by simpa using hr.1.1),by omega⟩,by simpa using hy,zRw hm zs p (i0+1) b _ k (fun i' ey=>hz i' (by omega)) hk.2 hr.2.2⟩
  |succ i=>
   simp only[Ks,RL];rw[show i0+(i+1)=i0+1+i from by omega]at hl hy hz;exact⟨⟨zE2 hm z _ b o (hz i0 (by omega)) hr.1.1,hr.1.2⟩,zOB hm z _ (hz i0 (by omega)) hk.1 hr.2.1,zRx hm zs p (i0+1) b _ k i x y hr.2.2 (by simpa using h) hs hk.2 hz hl hy⟩
theorem zRy(hm:Upd G w G' w' s tgt):(xs:List T)→ ∀(p:List Nat)(i:Nat),(∀i',i≤i'→ ∀z,¬tgt<:+z++(i'::p))→xF (zA6 G G') xs→RF St G w s xs p i→RF St G' w' s xs p i
 | [],_,_,_,_,_=>by simp only[RF]
 |x::xs,p,i,hz,hk,h=>by
  simp only[RF,xF]at h hk ⊢
  exact⟨zOB hm x (i::p) (hz i (Jd _)) hk.1 h.1,zRy hm xs p (i+1) (fun i' ey=>hz i' (by omega)) hk.2 h.2⟩
theorem zNl(hm:Upd G w G' w' s tgt):(xs:List T)→ ∀(p:List Nat)(i0 i:Nat)(x y:T),RF St G w s xs p i0→xs[i]? =dS x→xF (zA6 G G') xs→
  (∀i',i'≠i0+i→ ∀z,¬tgt<:+z++(i'::p))→R St G' w' s y ((i0+i)::p)→
  RF St G' w' s (xs.set i y) p i0
 | [],_,_,_,_,_,_,h,_,_,_=>by simp at h
 |z::zs,p,i0,i,x,y,hr,h,hk,hz,hy=>by
  simp only[RF,xF]at hr hk;cases i with
  |zero=>
   simp at h;subst h;simp only[Lf,RF];exact⟨by simpa using hy,zRy hm zs p (i0+1) (fun i' ey=>hz i' (by omega)) hk.2 hr.2⟩
  |succ i=>
   simp only[Ks,RF];rw[show i0+(i+1)=i0+1+i from by omega]at hy hz;exact⟨zOB hm z _ (hz i0 (by omega)) hk.1 hr.1,zNl hm zs p (i0+1) i x y hr.2 (by simpa using h) hk.2 hz hy⟩
theorem vR{φ:Nat→List Nat→Prop}:(xs:List T)→xF φ xs→ ∀(i:Nat)(x:T),xs[i]? =dS x→yN φ x
 | [],_,_,_,h=>by simp at h
 |y::ys,hk,i,x,h=>by
  simp only[xF]at hk;cases i with
  |zero=>simp at h;subst h;exact hk.1
  |succ i=>exact vR ys hk.2 i x (by simpa using h)
theorem zGW:(f:List Nat)→ ∀(t u u0:T)(p:List Nat),Upd G w G' w' s (rp f p)→R St G w s t p→t.get f=dS u0→u.size=u0.size→yN (zA6 G G') t→
  (∀b o,Loc G w s u0 (rp f p) b o→Loc G' w' s u (rp f p) b o)→R St G' w' s u (rp f p)→R St G' w' s (t.set f u) p
 | [],t,u,u0,p,hm,hr,hg,hs,hk,hl,hu=>by simpa[T.set,rp]using hu
 |i::f,t,u,u0,p,hm,hr,hg,hs,hk,hl,hu=>by
  have gD:=hm;rw[zBn]at gD hl hu;cases t with
  |sl k xs=>
   simp only[T.get]at hg;cases hx:xs[i]? with
   |none=>simp[hx]at hg
   |some x=>
    rw[hx]at hg;simp only[T.set,hx];simp only[R,yN]at hr hk ⊢
    rcases hr with⟨rfl,_⟩|⟨b,o0,cap,cs,e,h1,h2,h3,h4,h5,h6,h7,h8⟩
    ·simp at hx
    ·obtain⟨cs',ft,gv⟩:=gD.blk b cs e h2
     refine .inr ⟨b,o0,cap,cs',e,by rw[gD.hd p zAb,Kh];exact h1,ft,by rw[Kh];exact h3,h4,by omega,gD.ow b p h6 zAb,?_,?_⟩
     ·intro o ho fL
      rw[Kh]at ho;exact(gD.lb b o dU p (h7 o ho (by omega)) zAb).1
     ·have mY:=sL xs p 0 b o0 k i x h8 hx
      simp only[Ja]at mY;refine zRx gD xs p 0 b o0 k i x _ h8 hx (zE3 f x u u0 hg hs) hk (fun i' ey z=>jW (by omega) z) ?_ ?_
      ·intro o' ho'
       simp only[Ja]at ho' ⊢
       exact zJO f x u u0 (i::p) b o' gD ho' hg hs (fun o''=>hl b o'')
      ·simp only[Ja]
       exact zGW f x u u0 (i::p) gD mY.2.2 hg hs (vR xs hk i x hx) hl hu
  |ptr t=>
   simp only[T.get]at hg;split at hg
   ·rename_i hi;subst hi
    simp only[T.set,if_true];simp only[R,yN]at hr hk ⊢
    obtain⟨b,cs,e,h1,h2,h3,h6,h4,h5⟩:=hr;obtain⟨cs',ft,gv⟩:=gD.blk b cs e h2;refine⟨b,cs',e,by rw[gD.hd p zAb];exact h1,ft,by rw[zE3 f t u u0 hg hs];omega,gD.ow b p h6 zAb,zJO f t u u0 (0::p) b 0 gD h4 hg hs (fun o''=>hl b o''),zGW f t u u0 (0::p) gD h5 hg hs hk hl hu⟩
   ·cases hg
  |agg xs=>
   simp only[T.get]at hg;cases hx:xs[i]? with
   |none=>simp[hx]at hg
   |some x=>
    rw[hx]at hg;simp only[T.set,hx];simp only[R,yN]at hr hk ⊢
    refine zNl gD xs p 0 i x _ hr hx hk (fun i' ey z=>jW (by omega) z) ?_;simp only[Ja];exact zGW f x u u0 (i::p) gD (by simpa using zBx xs p 0 i x hr hx) hg hs (vR xs hk i x hx) hl hu
  |tup xs=>
   simp only[T.get]at hg;cases hx:xs[i]? with
   |none=>simp[hx]at hg
   |some x=>
    rw[hx]at hg;simp only[T.set,hx];simp only[R,yN]at hr hk ⊢
    refine zNl gD xs p 0 i x _ hr hx hk (fun i' ey z=>jW (by omega) z) ?_;simp only[Ja];exact zGW f x u u0 (i::p) gD (by simpa using zBx xs p 0 i x hr hx) hg hs (vR xs hk i x hx) hl hu
  |_=>simp[T.get]at hg
end
end Go.Ab

namespace Go.Ab
open Go
mutual
def vals(G:Gh)(s:Nat):T→List Nat→List Value
 |.agg xs,p=>yA G s xs p 0
 |.any,p|.lit _,p|.ro _,p|.same _ _,p|.addr _ _,p|.sub _ _ _ _ _,p|.sl _ _,p|.ptr _,p|.tup _,p=>[G.hd s p]
def yA(G:Gh)(s:Nat):List T→List Nat→Nat→List Value
 | [],_,_=>[]
 |x::xs,p,j=>vals G s x (j::p)++yA G s xs p (j+1)
end
def tQ(G:Gh)(s:Nat)(t:T)(p:List Nat):Value:=
 match t with
 |.agg xs=>.agg (yA G s xs p 0).toArray
 |_=>G.hd s p
def zAm(G:Gh)(s:Nat):List T→List Nat→Nat→List Value
 | [],_,_=>[]
 |x::xs,p,j=>tQ G s x (j::p)::zAm G s xs p (j+1)
def mkV(G:Gh)(s:Nat)(t:T)(p:List Nat):Value:=
 match t with
 |.agg xs=>.agg (yA G s xs p 0).toArray
 |.tup xs=>.tuple (zAm G s xs p 0).toArray
 |_=>G.hd s p
mutual
def Top:T→Prop
 |.sl _ xs=>yK xs
 |.ptr t=>zQ t
 |.agg xs|.tup xs=>uB xs
 |.any|.lit _|.ro _|.same _ _|.addr _ _|.sub _ _ _ _ _=>True
def uB:List T→Prop
 | []=>True
 |x::xs=>Top x∧uB xs
end
mutual
theorem Top.of_clean:(t:T)→zQ t→Top t
 |.sl _ xs,h=>by simpa only[Top,zQ,yN]using h
 |.ptr t,h=>by simpa only[Top,zQ,yN]using h
 |.agg xs,h|.tup xs,h=>by simp only[Top];exact uB.of_clean xs (by simpa only[zQ,yN]using h)
 |.any,_|.lit _,_|.ro _,_|.same _ _,_|.addr _ _,_|.sub _ _ _ _ _,_=>by simp only[Top]
theorem uB.of_clean:(xs:List T)→yK xs→uB xs
 | [],_=>by simp only[uB]
 |x::xs,h=>by simp only[uB];exact⟨Top.of_clean x h.1,uB.of_clean xs h.2⟩
end
abbrev Chg:=List (Nat×Nat)
def Off(chg:Chg)(s:Nat)(p:List Nat):Prop:=∀n,(s,n)∈chg→p.length<n
def zA7(chg:Chg)(r:Nat)(p:List Nat):Bool:=chg.all fun c=>c.1 != r||decide (p.length<c.2)
theorem zQb{chg:Chg}{r:Nat}{p:List Nat}(h:zA7 chg r p=dU):Off chg r p:=by
 intro n hn;have:=K3.1 h _ hn
 grind
mutual
def T.okB(chg:Chg):T→Bool
 |.same r p|.addr r p|.sub r p _ _ _=>zA7 chg r p
 |.agg xs|.tup xs=>zKX chg xs
 |.any|.lit _|.ro _|.sl _ _|.ptr _=>dU
def zKX(chg:Chg):List T→Bool
 | []=>dU
 |x::xs=>x.okB chg&&zKX chg xs
end
mutual
theorem zBo{chg:Chg}:(t:T)→Top t→t.okB chg=dU→yN (Off chg) t
 |.same r p,_,h|.addr r p,_,h|.sub r p _ _ _,_,h=>by simp only[T.okB]at h;simp only[yN];exact zQb h
 |.agg xs,ht,h|.tup xs,ht,h=>by simp only[T.okB,Top]at h ht;simp only[yN];exact zGX xs ht h
 |.sl _ xs,ht,_=>by simp only[Top]at ht;simp only[yN];grind[xF.mono]
 |.ptr t,ht,_=>by simp only[Top]at ht;simp only[yN];grind[yN.mono]
 |.any,_,_|.lit _,_,_|.ro _,_,_=>by simp only[yN]
theorem zGX{chg:Chg}:(xs:List T)→uB xs→zKX chg xs=dU→xF (Off chg) xs
 | [],_,_=>by simp only[xF]
 |x::xs,ht,h=>by simp only[zKX,uB,J2]at h ht;simp only[xF];exact⟨zBo x ht.1 h.1,zGX xs ht.2 h.2⟩
end
abbrev Env:=Nat→Option T
abbrev Wr:=List (Nat×Option T)
def Wr.find(wr:Wr)(s:Nat):Option (Option T):=
 match wr with
 | []=>dT
 |(k,x)::r=>if k=s then dS x else Wr.find r s
def Env.app(E:Env)(wr:Wr)(chg:Chg):Env:=fun s=>
 match wr.find s with
 |some x=>x
 |none=>match E s with
  |some t=>if t.okB chg then dS t else dT
  |none=>dT
structure Ctx where
 St:Stb
 W:Nat→Prop
 w0:World
 N:Nat
def zCA(Γ:Ctx)(w:World)(b:Nat):Prop:=b<w.heap.size∧(Γ.w0.heap.size≤b∨Γ.W b)∧Γ.St b=dT
structure zVg (w w':World):Prop where
 blk:Blk w w'
 os:w'.os=w.os
 out:w'.output=w.output
structure Mem (Γ:Ctx) (G:Gh) (w:World):Prop where
 one:∀s p,(G.hd s p).oneCell'=dU
 lb:∀b o l,G.lb b o=dS l→zCA Γ w b
 ow:∀b l,G.ow b=dS l→zCA Γ w b
 st:∀b x,Γ.St b=dS x→w.heap[b]? =dS x
 fr:∀b,b<Γ.w0.heap.size→ ¬Γ.W b→w.heap[b]? =Γ.w0.heap[b]?
 sz:Γ.w0.heap.size≤w.heap.size
 bk:zVg Γ.w0 w
theorem Blk.trans{w w' w'':World}(h:Blk w w')(h':Blk w' w''):Blk w w'':=fun b cs e hb=>by
 obtain⟨cs',h1,h2⟩:=h b cs e hb;obtain⟨cs'',h3,h4⟩:=h' b cs' e h1
 grind
theorem zVg.trans{w w' w'':World}(h:zVg w w')(h':Blk w' w'')(ho:w''.os=w'.os)(hq:w''.output=w'.output):zVg w w'':=⟨h.blk.trans h',ho.trans h.os,hq.trans h.out⟩
def Ent(Γ:Ctx)(G:Gh)(w:World)(v:Option Value)(s:Nat)(t:T):Prop:=v=dS (mkV G s t [])∧R Γ.St G w s t []∧Top t
structure Rep (Γ:Ctx) (E:Env) (G:Gh) (tmps:Array Value) (w:World):Prop where
 size:tmps.size=Γ.N
 ent:∀s t,E s=dS t→Ent Γ G w tmps[s]? s t
 mem:Mem Γ G w
def Sim(Γ:Ctx)(E:Env)(a:Act)(w:World):Prop:=a.defers=[]∧ ∃G,Rep Γ E G a.tmps w
structure zDE (S S':Stb) (W:Nat→Prop) (n:Nat):Prop where
 le:∀b x,S b=dS x→S' b=dS x
 nw:∀b,S b=dT→S' b≠dT→n≤b∨W b
theorem zDE.refl{S:Stb}{W:Nat→Prop}{n:Nat}:zDE S S W n:=⟨fun _ _ h=>h,by grind⟩
theorem zDE.trans{S S' S'':Stb}{W:Nat→Prop}{n:Nat}(h:zDE S S' W n)(h':zDE S' S'' W n):zDE S S'' W n:=
 ⟨fun b x hb=>h'.le b x (h.le b x hb),fun b hb eL=>by
  cases hs:S' b with
  |none=>exact h'.nw b hs eL
  |some x=>exact h.nw b hb (by grind)⟩
abbrev Ctx.at(Γ:Ctx)(S:Stb):Ctx:={ Γ with St:=S }
def jY(Γ:Ctx)(E:Env)(a:Act)(w:World):Prop:=∃S,zDE Γ.St S Γ.W Γ.w0.heap.size∧Sim (Γ.at S) E a w
theorem jY.of{Γ:Ctx}{E:Env}{a:Act}{w:World}(h:Sim Γ E a w):jY Γ E a w:=⟨Γ.St,.refl,h⟩
theorem jY.up{Γ:Ctx}{E:Env}{a:Act}{w:World}{S:Stb}(hS:zDE Γ.St S Γ.W Γ.w0.heap.size)(h:jY (Γ.at S) E a w):jY Γ E a w:=by obtain⟨S',h1,h2⟩:=h;exact⟨S',hS.trans h1,h2⟩
structure qN (chg:Chg) (G:Gh) (w:World) (G':Gh) (w':World):Prop where
 hd:∀s p,Off chg s p→G'.hd s p=G.hd s p
 ad:∀s p,Off chg s p→G'.ad s p=G.ad s p
 lb:∀b o f s p,(∃y,G.ow b=dS (s,y))→G.lb b o=dS (f,s,p)→(∀n,(s,n)∉chg)→G'.lb b o=dS (f,s,p)∧yH w' b o=yH w b o
 ow:∀b s p,G.ow b=dS (s,p)→(∀n,(s,n)∉chg)→G'.ow b=dS (s,p)
 blk:Blk w w'
theorem Off.of_not{chg:Chg}{s:Nat}(h:∀n,(s,n)∉chg)(p:List Nat):Off chg s p:=fun n hn=>absurd hn (h n)
section
variable {Γ:Ctx}{G G':Gh}{w w':World}{s:Nat}{chg:Chg}
mutual
theorem zBp{s':Nat}:(t:T)→ ∀(p p':List Nat),(∀z,G'.hd s' (z++p')=G.hd s (z++p))→vals G' s' t p'=vals G s t p
 |.agg xs,p,p',h=>by simp only[vals];exact zE4 xs p p' 0 h
 |.any,p,p',h|.lit _,p,p',h|.ro _,p,p',h|.same _ _,p,p',h|.addr _ _,p,p',h|.sub _ _ _ _ _,p,p',h|.sl _ _,p,p',h|.ptr _,p,p',h|.tup _,p,p',h=>by simp only[vals];rw[show G'.hd s' p'=G.hd s p from by simpa using h []]
theorem zE4{s':Nat}:(xs:List T)→ ∀(p p':List Nat)(j:Nat),(∀z,G'.hd s' (z++p')=G.hd s (z++p))→yA G' s' xs p' j=yA G s xs p j
 | [],_,_,_,_=>by rfl
 |x::xs,p,p',j,h=>by simp only[yA];rw[zBp x (j::p) (j::p') (fun z=>by have:=h (z++[j]);grind),zE4 xs p p' (j+1) h]
end
theorem zCf{s':Nat}(t:T)(p p':List Nat)(h:∀z,G'.hd s' (z++p')=G.hd s (z++p)):tQ G' s' t p'=tQ G s t p:=by
 unfold tQ;split
 ·grind[zE4]
 ·simpa using h []
theorem zOC{s':Nat}:(xs:List T)→ ∀(p p':List Nat)(j:Nat),(∀z,G'.hd s' (z++p')=G.hd s (z++p))→zAm G' s' xs p' j=zAm G s xs p j
 | [],_,_,_,_=>by rfl
 |x::xs,p,p',j,h=>by simp only[zAm];rw[zCf x (j::p) (j::p') (fun z=>by have:=h (z++[j]);simpa using this),zOC xs p p' (j+1) h]
theorem zFp{s':Nat}(t:T)(p p':List Nat)(h:∀z,G'.hd s' (z++p')=G.hd s (z++p)):mkV G' s' t p'=mkV G s t p:=by
 unfold mkV;split
 ·grind[zE4]
 ·grind[zOC]
 ·simpa using h []
theorem qN.moves(hk:qN chg G w G' w')(hs:∀n,(s,n)∉chg)(p:List Nat):zGV G w G' w' s p s p where
 hd _:=hk.hd _ _ (.of_not hs _)
 ad _ _:=hk.ad _ _ (.of_not hs _)
 lb b o f _ _ gU hl:=hk.lb b o f s _ gU hl hs
 ow b _ _ hl:=hk.ow b s _ hl hs
 sp b o gU hl:=hk.lb b o dU s _ gU hl hs
 ow0 b hl:=hk.ow b s _ hl hs
 blk:=hk.blk
theorem qN.keepR(hk:qN chg G w G' w'){t:T}(h:yN (Off chg) t):yN (zA6 G G') t:=
 yN.mono (fun r p hr=>⟨hk.hd r p hr,hk.ad r p hr⟩) t h
theorem Ent.keep(hk:qN chg G w G' w')(hs:∀n,(s,n)∉chg){v:Option Value}{t:T}(ht:t.okB chg=dU)(h:Ent Γ G w v s t):Ent Γ G' w' v s t:=by
 obtain⟨h1,h2,h3⟩:=h;refine⟨?_,?_,h3⟩
 ·rw[h1,zFp t [] [] (fun z=>hk.hd _ _ (.of_not hs _))]
 ·simpa using zRv (hk.moves hs []) t [] (hk.keepR (zBo t h3 ht)) (by grind)
end
theorem wW{Γ:Ctx}{E:Env}{G G':Gh}{tmps tmps':Array Value}{w w':World}{wr:Wr}{chg:Chg}(h:Rep Γ E G tmps w)
  (gQ:tmps'.size=tmps.size)(hk:qN chg G w G' w')(gu:Mem Γ G' w')
  (gF:∀s,wr.find s=dT→(∀n,(s,n)∉chg)∧tmps'[s]? =tmps[s]?)
  (eg:∀s t,wr.find s=dS (dS t)→Ent Γ G' w' tmps'[s]? s t):Rep Γ (E.app wr chg) G' tmps' w' where
 size:=by rw[gQ,h.size]
 mem:=gu
 ent s t hs:=by
  unfold Env.app at hs;cases hf:wr.find s with
  |some x=>
   grind
  |none=>
   rw[hf]at hs;simp at hs;cases he:E s with
   |none=>grind
   |some u=>
    simp[he]at hs;obtain⟨gP,rfl⟩:=hs;rw[(gF s hf).2];exact Ent.keep hk (gF s hf).1 gP (h.ent s u he)
end Go.Ab

namespace Go.Ab
open Go
mutual
def cpT(s:Nat):T→List Nat→T
 |.lit v,_=>.lit v
 |.ro t,_=>.ro t
 |.same r q,_=>.same r q
 |.addr r q,_=>.addr r q
 |.sub r q k lo hi,_=>.sub r q k lo hi
 |.agg xs,p=>.agg (cpF s xs p 0)
 |.any,p|.sl _ _,p|.ptr _,p|.tup _,p=>.same s p
def cpF(s:Nat):List T→List Nat→Nat→List T
 | [],_,_=>[]
 |x::xs,p,j=>cpT s x (j::p)::cpF s xs p (j+1)
end
mutual
theorem sV(s:Nat):(t:T)→ ∀p,Top (cpT s t p)
 |.agg xs,p=>by simp only[cpT,Top];exact zOD s xs p 0
 |.lit _,_|.ro _,_|.same _ _,_|.addr _ _,_|.sub _ _ _ _ _,_|.any,_|.sl _ _,_|.ptr _,_|.tup _,_=>by simp only[cpT,Top]
theorem zOD(s:Nat):(xs:List T)→ ∀p j,uB (cpF s xs p j)
 | [],_,_=>by simp only[cpF,uB]
 |x::xs,p,j=>by simp only[cpF,uB];exact⟨sV s x _,zOD s xs p _⟩
end
section
variable {St:Stb}{G G':Gh}{w w':World}{s d:Nat}
mutual
theorem zDY(hs:∀p,G'.hd s p=G.hd s p):(t:T)→ ∀(p p':List Nat),(∀z,G'.hd d (z++p')=G.hd s (z++p))→(∀xs,t≠.tup xs)→yN (zA6 G G') (cpT s t p)→R St G w s t p→R St G' w' d (cpT s t p) p'
 |.lit _,p,p',hd,_,_,h=>by simp only[cpT,R]at h ⊢;rw[show G'.hd d p'=_ from by simpa using hd []];exact h
 |.ro _,p,p',hd,_,_,h=>by simp only[cpT,R]at h ⊢;rw[show G'.hd d p'=_ from by simpa using hd []];exact h
 |.same r q,p,p',hd,_,hk,h=>by simp only[cpT,R,yN]at h hk ⊢;rw[show G'.hd d p'=_ from by simpa using hd [],hk.1];exact h
 |.addr r q,p,p',hd,_,hk,h=>by simp only[cpT,R,yN]at h hk ⊢;rw[show G'.hd d p'=_ from by simpa using hd [],hk.2];exact h
 |.sub r q k lo hi,p,p',hd,_,hk,h=>by simp only[cpT,R,yN]at h hk ⊢;rw[show G'.hd d p'=_ from by simpa using hd [],hk.1];exact h
 |.any,p,p',hd,_,_,_|.sl _ _,p,p',hd,_,_,_|.ptr _,p,p',hd,_,_,_=>by simp only[cpT,R];rw[show G'.hd d p'=_ from by simpa using hd [],hs]
 |.tup xs,_,_,_,h,_,_=>absurd rfl (h xs)
 |.agg xs,p,p',hd,_,hk,h=>by simp only[cpT,R,yN]at h hk ⊢;exact zJP hs xs p p' 0 hd hk h
theorem zJP(hs:∀p,G'.hd s p=G.hd s p):(xs:List T)→ ∀(p p':List Nat)(j:Nat),(∀z,G'.hd d (z++p')=G.hd s (z++p))→xF (zA6 G G') (cpF s xs p j)→RF St G w s xs p j→RF St G' w' d (cpF s xs p j) p' j
 | [],_,_,_,_,_,_=>by simp only[cpF,RF]
 |x::xs,p,p',j,hd,hk,h=>by
  simp only[cpF,RF,xF]at h hk ⊢
  refine⟨?_,zJP hs xs p p' (j+1) hd hk.2 h.2⟩
  by_cases hx:∃ys,x=.tup ys
  ·obtain⟨ys,rfl⟩:=hx
   simp only[cpT,R];rw[show G'.hd d (j::p')=_ from by simpa using hd [j],hs]
  ·exact zDY hs x (j::p) (j::p') (fun z=>by have:=hd (z++[j]);simpa using this) (fun ys e=>hx ⟨ys,e⟩) hk.1 h.1
end
mutual
theorem zQc:(t:T)→ ∀(p p':List Nat),(∀z,G'.hd d (z++p')=G.hd s (z++p))→vals G' d (cpT s t p) p'=vals G s t p
 |.agg xs,p,p',h=>by simp only[cpT,vals];exact zDZ xs p p' 0 h
 |.any,p,p',h|.lit _,p,p',h|.ro _,p,p',h|.same _ _,p,p',h|.addr _ _,p,p',h|.sub _ _ _ _ _,p,p',h|.sl _ _,p,p',h|.ptr _,p,p',h|.tup _,p,p',h=>by simp only[cpT,vals];rw[show G'.hd d p'=G.hd s p from by simpa using h []]
theorem zDZ:(xs:List T)→ ∀(p p':List Nat)(j:Nat),(∀z,G'.hd d (z++p')=G.hd s (z++p))→yA G' d (cpF s xs p j) p' j=yA G s xs p j
 | [],_,_,_,_=>by rfl
 |x::xs,p,p',j,h=>by simp only[cpF,yA];rw[zQc x (j::p) (j::p') (fun z=>by have:=h (z++[j]);grind),zDZ xs p p' (j+1) h]
end
theorem zAP(t:T)(p p':List Nat)(ht:∀xs,t≠.tup xs)(h:∀z,G'.hd d (z++p')=G.hd s (z++p)):mkV G' d (cpT s t p) p'=tQ G s t p:=by
 cases t with
 |agg xs=>grind[cpT,mkV,tQ,zDZ]
 |tup xs=>grind
 |_=>simpa[cpT,mkV,tQ]using h []
end
theorem zAn(G:Gh)(s:Nat)(t:T)(p:List Nat)(ht:∀xs,t≠.tup xs):mkV G s t p=tQ G s t p:=by
 cases t with
 |tup xs=>grind
 |_=>rfl
def Gh.put(G:Gh)(d:Nat)(f:List Nat→Value):Gh:={ G with hd:=fun s z=>if s=d then f z else G.hd s z }
theorem Gh.put_other(G:Gh){d s:Nat}(f:List Nat→Value)(p:List Nat)(h:s≠d):(G.put d f).hd s p=G.hd s p:=by simp[Gh.put,h]
theorem Gh.put_self(G:Gh)(d:Nat)(f:List Nat→Value)(p:List Nat):(G.put d f).hd d p=f p:=by simp[Gh.put]
theorem zYj{d s:Nat}{p:List Nat}(h:Off [(d,0)] s p):s≠d:=by
 rintro rfl
 exact absurd (h 0 (by simp)) (by simp)
theorem Gh.put_keep(G:Gh){w w':World}(hw:w'.heap=w.heap)(d:Nat)(f:List Nat→Value):qN [(d,0)] G w (G.put d f) w' where
 hd s p h:=G.put_other f p (zYj h)
 ad _ _ _:=rfl
 lb b o f' s p _ h _:=⟨h,by grind[yH,World.cell?]⟩
 ow b s p h _:=h
 blk b cs e h:=by grind
theorem Mem.put{Γ:Ctx}{G:Gh}{w w':World}(h:Mem Γ G w)(hw:w'.heap=w.heap)(d:Nat)(f:List Nat→Value)(hf:∀z,(f z).oneCell'=dU)(ho:w'.os=w.os:=by rfl)(hq:w'.output=w.output:=by rfl):Mem Γ (G.put d f) w' where
 one s p:=by unfold Gh.put;dsimp only;split;exact hf p;exact h.one s p
 lb b o l hl:=by have:=h.lb b o l hl;exact⟨by rw[hw];exact this.1,this.2⟩
 ow b l hl:=by have:=h.ow b l hl;exact⟨by rw[hw];exact this.1,this.2⟩
 st b x hx:=by rw[hw];exact h.st b x hx
 fr b h1 h2:=by rw[hw];exact h.fr b h1 h2
 sz:=by rw[hw];exact h.sz
 bk:=h.bk.trans (fun b cs e hb=>by grind) ho hq
theorem tG(d:Nat)(x:Option T)(s:Nat):Wr.find [(d,x)] s=if d=s then dS x else dT:=by rfl
theorem wI{Γ:Ctx}{E:Env}{G:Gh}{tmps:Array Value}{w w':World}(h:Rep Γ E G tmps w)(hw:w'.heap=w.heap){d:Nat}(hd:d<Γ.N)
  (f:List Nat→Value)(hf:∀z,(f z).oneCell'=dU)(t:T)(v:Value)(hv:v=mkV (G.put d f) d t [])(hr:R Γ.St (G.put d f) w' d t [])(ht:Top t)(ho:w'.os=w.os:=by rfl)(hq:w'.output=w.output:=by rfl):
  Rep Γ (E.app [(d,dS t)] [(d,0)]) (G.put d f) (tmps.setIfInBounds d v) w':=by
 refine wW h (by simp) (G.put_keep hw d f) (h.mem.put hw d f hf ho hq) ?_ ?_
 ·grind[tG]
 ·intro s t' hs
  rw[tG]at hs;split at hs
  ·rename_i he
   subst he;simp at hs;subst hs;refine⟨?_,hr,ht⟩;rw[Jc];simp[h.size,hd,hv]
  ·cases hs
def xM(P:Program)(Γ:Ctx)(o:Oper)(E E':Env):Prop:=
 ∀(a:Act)(w:World)(K:Act→World→Prop)(Q:Exit→Act→World→Prop),Sim Γ E a w→(∀a' w',jY Γ E' a' w'→K a' w')→o.wp P a w K Q
def opT(E:Env):Operand→Option T
 |.tmp s=>E s
 |.const v=>if v.oneCell' then dS (.lit v)else dT
 |.func f=>dS (.lit (.func (.func f) #[] #[]))
 |.global _=>dT
def uQ(x:Operand)(t:T):T:=match x with
 |.tmp s=>cpT s t []
 |_=>t
section
variable {P:Program}{Γ:Ctx}{E E':Env}{o:Oper}{d:Nat}
theorem xK{a:Act}{s:Nat}{v:Value}(h:a.tmps[s]? =dS v):a.eval (.tmp s)=v:=by simp[Act.eval,Ka,h]
theorem xM.value(ho:o.dst=dS d)
  (h:∀(a:Act)(w:World)(G:Gh),Rep Γ E G a.tmps w→ ∃v w',(execOp a.eval o).run P w=.ok (.value v) w'∧ ∃G',Rep Γ E' G' (a.tmps.setIfInBounds d v) w'):xM P Γ o E E':=by
 intro a w K Q ⟨gR,G,g9⟩ hK;obtain⟨v,w',gA,G',fc⟩:=h a w G g9;unfold Oper.wp;rw[gA,Oper.upon_value];refine hK _ _ ?_;rw[ho];exact .of ⟨gR,G',fc⟩
theorem xM.skip(ho:o.dst=dT)
  (h:∀(a:Act)(w:World)(G:Gh),Rep Γ E G a.tmps w→ ∃w',(execOp a.eval o).run P w=.ok .skip w'∧ ∃G',Rep Γ E' G' a.tmps w'):xM P Γ o E E':=by
 intro a w K Q ⟨gR,G,g9⟩ hK;obtain⟨w',gA,G',fc⟩:=h a w G g9;unfold Oper.wp;rw[gA,Oper.upon_skip];refine hK _ _ ?_;rw[ho];exact .of ⟨gR,G',fc⟩
theorem opd{G:Gh}{a:Act}{w:World}(g9:Rep Γ E G a.tmps w){x:Operand}{t:T}(hx:opT E x=dS t)(ht:∀xs,t≠.tup xs):
  ∃f:List Nat→Value,(∀z,(f z).oneCell'=dU)∧(∀d,(∀s,x=.tmp s→s≠d)→T.okB [(d,0)] (uQ x t)=dU→
   a.eval x=mkV (G.put d f) d (uQ x t) []∧R Γ.St (G.put d f) w d (uQ x t) [])∧Top (uQ x t):=by
 cases x with
 |tmp s=>
  obtain⟨h1,h2,h3⟩:=g9.ent s t hx;refine⟨fun z=>G.hd s z,fun z=>g9.mem.one s z,?_,sV s t []⟩;intro d gc gP;have ep:=gc s rfl;have hk:=G.put_keep (w:=w) (w':=w) rfl d (fun z=>G.hd s z);have hz:∀z,(G.put d (fun z=>G.hd s z)).hd d (z++[])=G.hd s (z++[]):=by grind[Gh.put_self]
  refine⟨?_,?_⟩
  ·grind[xK,uQ,zAP,zAn]
  ·exact zDY (fun p=>G.put_other _ p ep) t [] [] hz ht (hk.keepR (zBo _ (sV s t []) gP)) h2
 |const v=>
  simp only[opT]at hx;split at hx
  ·rename_i gp
   simp at hx;subst hx;exact⟨fun _=>v,fun _=>gp,fun d _ _=>⟨by simp[Act.eval,uQ,mkV,Gh.put],by simp[uQ,R,Gh.put]⟩,by simp[uQ,Top]⟩
  ·cases hx
 |func f=>
  simp only[opT]at hx;simp at hx;subst hx;exact⟨fun _=>.func (.func f) #[] #[],fun _=>rfl,fun d _ _=>⟨by simp[Act.eval,uQ,mkV,Gh.put],by simp[uQ,R,Gh.put]⟩,by simp[uQ,Top]⟩
 |global g=>cases hx
theorem zOE(x:Operand)(t:T)(ho:o.op=.move x∨o.op=.assign x)(gf:o.dst=dS d)(hd:d<Γ.N)(hx:opT E x=dS t)(ht:∀xs,t≠.tup xs)
  (gc:∀s,x=.tmp s→s≠d)(gP:T.okB [(d,0)] (uQ x t)=dU):xM P Γ o E (E.app [(d,dS (uQ x t))] [(d,0)]):=by
 refine xM.value gf fun a w G g9=>?_
 obtain⟨f,hf,h1,h2⟩:=opd g9 hx ht;obtain⟨h3,h4⟩:=h1 d gc gP;refine⟨a.eval x,w,?_,_,wI g9 rfl hd f hf _ _ h3 h4 h2⟩;rcases ho with ho|ho<;>simp[execOp,ho]
theorem yP{G:Gh}{a:Act}{w:World}(g9:Rep Γ E G a.tmps w){x:Operand}{v:Value}(hx:opT E x=dS (.lit v)):a.eval x=v∧v.oneCell'=dU:=by
 cases x with
 |tmp s=>
  obtain⟨h1,h2,_⟩:=g9.ent s _ hx;simp only[R]at h2;refine⟨?_,by rw[←h2];exact g9.mem.one s []⟩
  grind[xK,mkV]
 |const u=>
  simp only[opT]at hx;split at hx
  ·simp at hx;subst hx;exact⟨rfl,by assumption⟩
  ·cases hx
 |func f=>simp only[opT]at hx;simp at hx;subst hx;exact⟨rfl,rfl⟩
 |global g=>cases hx
theorem uN(v:Value)(hv:v.oneCell'=dU)(gf:o.dst=dS d)(hd:d<Γ.N)
  (h:∀(a:Act)(w:World)(G:Gh),Rep Γ E G a.tmps w→(execOp a.eval o).run P w=.ok (.value v) w):xM P Γ o E (E.app [(d,dS (.lit v))] [(d,0)]):=by
 refine xM.value gf fun a w G g9=>?_
 exact⟨v,w,h a w G g9,_,wI g9 rfl hd (fun _=>v) (fun _=>hv) (.lit v) v (by simp[mkV,Gh.put]) (by simp[R,Gh.put]) (by simp[Top])⟩
def zJQ(op:BinOp)(k:IntKind)(a b:Int):Option Value:=
 match op with
 |.add=>dS (.int k (k.wrap (a+b)))
 |.sub=>dS (.int k (k.wrap (a-b)))
 |.mul=>dS (.int k (k.wrap (a*b)))
 |.quo=>if b=0 then dT else dS (.int k (k.wrap (a.tdiv b)))
 |.rem=>if b=0 then dT else dS (.int k (a.tmod b))
 |.eql=>dS (.bool (a==b))
 |.neq=>dS (.bool (a != b))
 |.lss=>dS (.bool (decide (a<b)))
 |.leq=>dS (.bool (decide (a≤b)))
 |.gtr=>dS (.bool (decide (a> b)))
 |.geq=>dS (.bool (decide (a≥b)))
 |_=>dT
theorem zRz{op:BinOp}{k:IntKind}{a b:Int}{v:Value}(h:zJQ op k a b=dS v):v.oneCell'=dU:=by cases op<;>simp[zJQ]at h<;>first|(subst h;rfl)|(obtain⟨_,rfl⟩:=h;rfl)
theorem vX(op:BinOp)(xt yt:TypeId)(x y:Operand)(k:IntKind)(m n:Int)(v:Value)(ho:o.op=.binOp op xt x y yt)(gf:o.dst=dS d)(hd:d<Γ.N)
  (hx:opT E x=dS (.lit (.int k m)))(hy:opT E y=dS (.lit (.int k n)))(hv:zJQ op k m n=dS v):xM P Γ o E (E.app [(d,dS (.lit v))] [(d,0)]):=by
 refine uN v (zRz hv) gf hd fun a w G g9=>?_
 have h1:=(yP g9 hx).1;have h2:=(yP g9 hy).1;cases op<;>simp[zJQ]at hv<;>
  first
   |(subst hv;simp[execOp,ho,h1,h2,eqGuard,binOp,Op.intArith,Op.intCmp];done)
   |(obtain⟨h0,rfl⟩:=hv;simp[execOp,ho,h1,h2,eqGuard,binOp,Op.intDiv,h0])
theorem zYk(xt:TypeId)(x:Operand)(b:Bool)(ho:o.op=.unOp .not xt x)(gf:o.dst=dS d)(hd:d<Γ.N)
  (hx:opT E x=dS (.lit (.bool b))):xM P Γ o E (E.app [(d,dS (.lit (.bool !b)))] [(d,0)]):=by
 refine uN _ rfl gf hd fun a w G g9=>?_
 have h1:=(yP g9 hx).1;simp[execOp,ho,h1,Op.unary]
theorem zYl(xt:TypeId)(x:Operand)(k:IntKind)(n:Int)(ho:o.op=.unOp .neg xt x)(gf:o.dst=dS d)(hd:d<Γ.N)
  (hx:opT E x=dS (.lit (.int k n))):xM P Γ o E (E.app [(d,dS (.lit (.int k (k.wrap (0-n)))))] [(d,0)]):=by
 refine uN _ rfl gf hd fun a w G g9=>?_
 have h1:=(yP g9 hx).1;simp[execOp,ho,h1,Op.unary,Op.intArith]
theorem zVh(src dst:TypeId)(ds:TypeDesc)(x:Operand)(k k':IntKind)(n:Int)(ho:o.op=.convert src dst x)(gf:o.dst=dS d)(hd:d<Γ.N)
  (hs:P.underlying src=dS ds)(ht:P.underlying dst=dS (.int k'))(hx:opT E x=dS (.lit (.int k n))):
  xM P Γ o E (E.app [(d,dS (.lit (.int k' (k'.wrap n))))] [(d,0)]):=by
 refine uN _ rfl gf hd fun a w G g9=>?_
 have h1:=(yP g9 hx).1;simp[execOp,ho,h1,convert,run_underlying hs,run_underlying ht,Conv.intToInt]
theorem zVi(c x y:Operand)(b:Bool)(t:T)(ho:o.op=.pick c x y)(gf:o.dst=dS d)(hd:d<Γ.N)
  (hc:opT E c=dS (.lit (.bool b)))(hx:opT E (if b then x else y)=dS t)(ht:∀xs,t≠.tup xs)
  (gc:∀s,(if b then x else y)=.tmp s→s≠d)(gP:T.okB [(d,0)] (uQ (if b then x else y) t)=dU):xM P Γ o E (E.app [(d,dS (uQ (if b then x else y) t))] [(d,0)]):=by
 refine xM.value gf fun a w G g9=>?_
 obtain⟨f,hf,h1,h2⟩:=opd g9 hx ht;obtain⟨h3,h4⟩:=h1 d gc gP;refine⟨a.eval (if b then x else y),w,?_,_,wI g9 rfl hd f hf _ _ h3 h4 h2⟩;have h5:=(yP g9 hc).1;cases b<;>simp[execOp,ho,h5,asBool]
end
end Go.Ab

namespace Go.Ab
open Go
def qA(E:Env):Nat→Nat→List Nat→Option (Nat×List Nat×T)
 |0,_,_=>dT
 |n+1,r,q=>match E r with
  |some t=>match t.get q.reverse with
   |some (.same r' q')=>qA E n r' q'
   |some u=>dS (r,q,u)
   |none=>dT
  |none=>dT
def uT(E:Env):Operand→Option (Nat×List Nat×T)
 |.tmp s=>qA E 4 s []
 |_=>dT
def T.single:T→Bool
 |.agg _|.tup _=>dV
 |_=>dU
theorem yR{G:Gh}{s:Nat}{t:T}{p:List Nat}(h:t.single=dU):mkV G s t p=G.hd s p:=by cases t<;>simp[T.single]at h<;>rfl
section
variable {P:Program}{Γ:Ctx}{E:Env}{o:Oper}{d:Nat}
theorem zDl{G:Gh}{a:Act}{w:World}(g9:Rep Γ E G a.tmps w):∀(n s:Nat)(p:List Nat)(r:Nat)(q:List Nat)(u:T),qA E n s p=dS (r,q,u)→
  R Γ.St G w r u q∧G.hd s p=G.hd r q∧(∃t,E r=dS t∧t.get q.reverse=dS u)
 |0,_,_,_,_,_,h=>by simp[qA]at h
 |n+1,s,p,r,q,u,h=>by
  simp only[qA]at h;split at h
  ·rename_i t ht
   obtain⟨_,h4,_⟩:=g9.ent _ _ ht;split at h
   ·rename_i r' q' hg
    obtain⟨h1,h2,h3⟩:=zDl g9 n r' q' r q u h;have h5:=(zBD p.reverse t _ [] h4 hg).1;simp only[rp,Ki,Jh,R]at h5;exact⟨h1,h5.trans h2,h3⟩
   ·rename_i u' hns hg
    simp at h;obtain⟨rfl,rfl,rfl⟩:=h;have h5:=(zBD p.reverse t _ [] h4 hg).1;simp only[rp,Ki,Jh]at h5;exact⟨h5,rfl,t,ht,hg⟩
   ·cases h
  ·cases h
theorem qB{G:Gh}{a:Act}{w:World}(g9:Rep Γ E G a.tmps w){x:Operand}{r:Nat}{q:List Nat}{u:T}(h:uT E x=dS (r,q,u))(hu:u.single=dU):
  R Γ.St G w r u q∧a.eval x=G.hd r q:=by
 cases x with
 |tmp s=>
  obtain⟨h1,h2,_⟩:=zDl g9 4 s [] r q u h;refine⟨h1,?_⟩;rw[←h2];simp only[uT,qA]at h;split at h
  ·rename_i t ht
   obtain⟨h3,_,_⟩:=g9.ent s _ ht;rw[xK h3];simp only[H8,T.get]at h;have:t.single=dU:=by cases t<;>first|rfl|(simp at h;obtain⟨_,_,rfl⟩:=h;simp[T.single]at hu)
   exact yR this
  ·cases h
 |_=>simp[uT]at h
theorem zG9{St:Stb}{G:Gh}{w:World}{s:Nat}{k:Nat}{xs:List T}{p:List Nat}(h:R St G w s (.sl k xs) p):∃a c,G.hd s p=.slice a xs.length c:=by
 simp only[R]at h;rcases h with⟨rfl,a,h⟩|⟨b,_,cap,_,_,h,_⟩
 ·exact⟨a,0,h⟩
 ·exact⟨_,_,h⟩
theorem zDm{St:Stb}{G:Gh}{w:World}{s:Nat}{k:Nat}{xs:List T}{p:List Nat}(h:R St G w s (.ro (.sl k xs)) p):∃a c,G.hd s p=.slice a xs.length c∧xs.length≤c∧c≤maxLen∧
   (xs≠[]→ ∃b o' cs' e fr,a=dS ⟨b,o',dT⟩∧St b=dS (.cells cs' e fr)∧RoL St xs cs' o' k):=by
 simp only[R,RoC]at h;obtain⟨a,c,h1,h2,h3,h4⟩:=h;exact⟨a,c,by simpa using h1,h2,h3,h4⟩
def zKY:T→Option Nat
 |.sl _ xs|.ro (.sl _ xs)=>dS xs.length
 |.lit (.slice _ n _)=>dS n
 |.lit (.string s)=>dS s.size
 |_=>dT
def zVj:T→TypeDesc→Bool
 |.lit (.string _),.string=>dU
 |.sl _ _,.slice _|.ro (.sl _ _),.slice _|.lit (.slice _ _ _),.slice _=>dU
 |_,_=>dV
theorem zR0(x:Operand)(t:TypeId)(ds:TypeDesc)(r:Nat)(q:List Nat)(u:T)(n:Nat)(ho:o.op=.call { callee:=.builtin .len,args:=#[x],argTypes:=#[t] })(gf:o.dst=dS d)(hd:d<Γ.N)
  (ht:P.underlying t=dS ds)(hx:uT E x=dS (r,q,u))(hl:zKY u=dS n)(pb:zVj u ds=dU):
  xM P Γ o E (E.app [(d,dS (.lit (.int .i64 n)))] [(d,0)]):=by
 refine uN (.int .i64 n) rfl gf hd fun a w G g9=>?_
 have hu:u.single=dU:=by cases u<;>simp[zKY]at hl<;>rfl
 obtain⟨h1,h2⟩:=qB g9 hx hu;have h3:(Builtin.len_ #[t] o.type #[G.hd r q]).run P w=.ok (.int .i64 n) w:=by
  cases u with
  |sl k xs=>
   obtain⟨a',c,h4⟩:=zG9 h1;simp[zKY]at hl;subst hl;cases ds<;>simp[zVj]at pb
   simp[Builtin.len_,run_underlying ht,h4,goInt]
  |ro t'=>
   cases t'<;>simp[zKY]at hl
   obtain⟨a',c,h4,_⟩:=zDm h1;subst hl;cases ds<;>simp[zVj]at pb
   simp[Builtin.len_,run_underlying ht,h4,goInt]
  |lit v=>
   simp only[R]at h1;cases v<;>simp[zKY]at hl<;>(subst hl;cases ds<;>simp[zVj]at pb;simp[Builtin.len_,run_underlying ht,h1,goInt])
  |_=>simp[zKY]at hl
 simp[execOp,ho,resolve,invoke,builtin,h2,h3]
theorem zEa{G:Gh}{w:World}{s:Nat}{t:T}{p:List Nat}{b o:Nat}(h:Loc G w s t p b o):G.ad s p=⟨b,o,dT⟩:=by cases t<;>simp only[Loc]at h<;>first|exact h.1|exact h.elim
theorem vJ(b o n:Nat):(⟨b,o,dT⟩:Addr).add n=⟨b,o+n,dT⟩:=by
 unfold Addr.add;split
 ·rename_i h;subst h;rfl
 ·rfl
theorem zOF{St:Stb}{G:Gh}{w:World}{s:Nat}{k:Nat}{xs:List T}{p:List Nat}(h:R St G w s (.sl k xs) p){i:Nat}(hi:i<xs.length):
  ∃b o0 cap,G.hd s p=.slice (dS ⟨b,o0,dT⟩) xs.length cap∧G.ad s (i::p)=⟨b,o0+i*k,dT⟩:=by
 simp only[R]at h;rcases h with⟨rfl,_⟩|⟨b,o0,cap,cs,e,h1,h2,h3,h4,h5,h6,h7,h8⟩
 ·simp at hi
 ·have:=(sL xs p 0 b o0 k i xs[i] h8 (by simp[hi])).1
  simp only[Ja]at this;exact⟨b,o0,cap,h1,zEa this⟩
theorem zR1(x y:Operand)(t e:TypeId)(ti:TypeInfo)(r:Nat)(q:List Nat)(k:Nat)(xs:List T)(kd:IntKind)(i:Int)(ho:o.op=.indexAddr t x y)(gf:o.dst=dS d)(hd:d<Γ.N)
  (ht:P.underlying t=dS (.slice e))(he:P.info? e=dS ti)(hk:ti.size=k)(hx:uT E x=dS (r,q,.sl k xs))(hy:opT E y=dS (.lit (.int kd i)))(h0:0≤i)(h1:i.toNat<xs.length):
  xM P Γ o E (E.app [(d,dS (.addr r (i.toNat::q)))] [(d,0)]):=by
 refine xM.value gf fun a w G g9=>?_
 obtain⟨g1,g2⟩:=qB g9 hx rfl;have g3:=(yP g9 hy).1;obtain⟨b,o0,cap,g4,g5⟩:=zOF g1 h1;refine⟨.pointer (dS (G.ad r (i.toNat::q))),w,?_,_,wI g9 rfl hd (fun _=>.pointer (dS (G.ad r (i.toNat::q)))) (fun _=>rfl) _ _ (by simp[mkV,Gh.put]) (by simp[R,Gh.put]) (by simp[Top])⟩;have gE:i<(xs.length:Int):=by omega
 simp[execOp,ho,Instr.indexAt,g3,g2,g4,asIntOf,run_underlying ht,h0,gE,sizeOf,typeInfo,he,hk,vJ,g5]
theorem zGA{St:Stb}:(xs:List T)→ ∀(cs:Array Value)(o k i:Nat)(x:T),RoL St xs cs o k→xs[i]? =dS x→RoC St x cs (o+i*k)
 | [],_,_,_,_,_,_,h=>by simp at h
 |y::ys,cs,o,k,i,x,hr,h=>by
  simp only[RoL]at hr;cases i with
  |zero=>simp at h;subst h;simpa using hr.1
  |succ i=>
   have:=zGA ys cs (o+k) k i x hr.2 (by simpa using h)
   rwa [show o+(i+1)*k=o+k+i*k from by rw[L8];omega]
theorem zJR{St:Stb}:(xs:List T)→ ∀(cs:Array Value)(o i:Nat)(x:T),RoF St xs cs o→xs[i]? =dS x→RoC St x cs (o+T.sizes (xs.take i))
 | [],_,_,_,_,_,h=>by simp at h
 |y::ys,cs,o,i,x,hr,h=>by
  simp only[RoF]at hr;cases i with
  |zero=>simp at h;subst h;simpa[T.sizes]using hr.1
  |succ i=>
   have:=zJR ys cs (o+y.size) i x hr.2 (by simpa using h)
   rwa [Lj,T.sizes,←Ll]
theorem zR2(x y:Operand)(t e:TypeId)(ti:TypeInfo)(r:Nat)(q:List Nat)(k:Nat)(xs:List T)(kd:IntKind)(i:Int)(u:T)(ho:o.op=.indexAddr t x y)(gf:o.dst=dS d)(hd:d<Γ.N)
  (ht:P.underlying t=dS (.slice e))(he:P.info? e=dS ti)(hk:ti.size=k)(hx:uT E x=dS (r,q,.ro (.sl k xs)))(hy:opT E y=dS (.lit (.int kd i)))(h0:0≤i)(h1:xs[i.toNat]? =dS u):
  xM P Γ o E (E.app [(d,dS (.ro (.ptr u)))] [(d,0)]):=by
 refine xM.value gf fun a w G g9=>?_
 obtain⟨g1,g2⟩:=qB g9 hx rfl;have g3:=(yP g9 hy).1;have dc:i.toNat<xs.length:=(J9.1 h1).1;obtain⟨a',c,g4,_,_,g5⟩:=zDm g1;obtain⟨b,o',cs',e',fr,rfl,g6,g7⟩:=g5 (by rintro rfl;simp at dc);have g8:=zGA xs cs' o' k i.toNat u g7 h1;refine⟨.pointer (dS ⟨b,o'+i.toNat*k,dT⟩),w,?_,_,wI g9 rfl hd (fun _=>.pointer (dS ⟨b,o'+i.toNat*k,dT⟩)) (fun _=>rfl) _ _ (by simp[mkV,Gh.put]) ?_ (by simp[Top])⟩
 ·have gE:i<(xs.length:Int):=by omega
  simp[execOp,ho,Instr.indexAt,g3,g2,g4,asIntOf,run_underlying ht,h0,gE,sizeOf,typeInfo,he,hk,vJ]
 ·simp only[R,Gh.put_self,RoC]
  exact⟨b,_,cs',e',fr,by simp,g6,g8⟩
theorem zE5:(xs:List T)→ ∀{G:Gh}{w:World}{s:Nat}(p:List Nat)(j b o i:Nat)(x:T),wV G w s xs p j b o→xs[i]? =dS x→
  Loc G w s x ((j+i)::p) b (o+T.sizes (xs.take i))
 | [],_,_,_,_,_,_,_,_,_,_,h=>by simp at h
 |y::ys,G,w,s,p,j,b,o,i,x,hr,h=>by
  simp only[wV]at hr;cases i with
  |zero=>simp at h;subst h;simpa[T.sizes]using hr.1
  |succ i=>
   have:=zE5 ys p (j+1) b (o+y.size) i x hr.2 (by simpa using h)
   rwa [show j+(i+1)=j+1+i from by omega,Lj,T.sizes,←Ll]
theorem uO{P:Program}{w:World}(a:Addr):(Instr.sureAddr (.pointer (dS a))).run P w=.ok a w:=rfl
theorem zFZ{P:Program}{w:World}{S:TypeId}{fs:Array Field}{f:Field}{fi:TypeInfo}{j:Nat}{b o':Nat}(hS:P.underlying S=dS (.struct fs))(hf:fs[j]? =dS f)(hi:P.info? f.type=dS fi)(hz:fi.size≠0):
  (Instr.fieldAt S (.pointer (dS ⟨b,o',dT⟩)) j).run P w=.ok (.pointer (dS ⟨b,o'+f.offset,dT⟩)) w:=by
 simp[Instr.fieldAt,run_underlying hS,hf,uO,fieldPlace,sizeOf,typeInfo,hi,hz,vJ]
theorem yAm(x:Operand)(S:TypeId)(fs:Array Field)(f:Field)(fi:TypeInfo)(j:Nat)(r:Nat)(q:List Nat)(xs:List T)(u:T)(ho:o.op=.fieldAddr S x j)(gf:o.dst=dS d)(hd:d<Γ.N)
  (hS:P.underlying S=dS (.struct fs))(hf:fs[j]? =dS f)(hi:P.info? f.type=dS fi)(hz:fi.size≠0)(hx:uT E x=dS (r,q,.ptr (.agg xs)))(hu:xs[j]? =dS u)(gK:T.sizes (xs.take j)=f.offset):
  xM P Γ o E (E.app [(d,dS (.addr r (j::0::q)))] [(d,0)]):=by
 refine xM.value gf fun a w G g9=>?_
 obtain⟨g1,g2⟩:=qB g9 hx rfl;simp only[R]at g1;obtain⟨b,cs,e,g4,_,_,_,g5,_⟩:=g1;simp only[Loc]at g5;have g6:=zE5 xs (0::q) 0 b 0 j u g5.2 hu;simp only[Ja]at g6;refine⟨.pointer (dS (G.ad r (j::0::q))),w,?_,_,wI g9 rfl hd (fun _=>.pointer (dS (G.ad r (j::0::q)))) (fun _=>rfl) _ _ (by simp[mkV,Gh.put]) (by simp[R,Gh.put]) (by simp[Top])⟩;have g7:=zFZ (w:=w) (b:=b) (o':=0) hS hf hi hz;simp[execOp,ho,g2,g4,g7,zEa g6,gK]
theorem zEb{G:Gh}{a:Act}{w:World}(g9:Rep Γ E G a.tmps w){x:Operand}{u:T}(hx:opT E x=dS (.ro u)):RoC Γ.St u #[a.eval x] 0:=by
 cases x with
 |tmp s=>
  obtain⟨h1,h2,_⟩:=g9.ent s _ hx;simp only[R]at h2;rw[xK h1,yR rfl];exact h2
 |const v=>simp only[opT]at hx;split at hx<;>simp at hx
 |func f=>simp[opT]at hx
 |global g=>simp[opT]at hx
theorem zR3(x:Operand)(S:TypeId)(fs:Array Field)(f:Field)(fi:TypeInfo)(j:Nat)(xs:List T)(u:T)(ho:o.op=.fieldAddr S x j)(gf:o.dst=dS d)(hd:d<Γ.N)
  (hS:P.underlying S=dS (.struct fs))(hf:fs[j]? =dS f)(hi:P.info? f.type=dS fi)(hz:fi.size≠0)(hx:opT E x=dS (.ro (.ptr (.agg xs))))(hu:xs[j]? =dS u)(gK:T.sizes (xs.take j)=f.offset):
  xM P Γ o E (E.app [(d,dS (.ro (.ptr u)))] [(d,0)]):=by
 refine xM.value gf fun a w G g9=>?_
 have h1:=zEb g9 hx;simp only[RoC]at h1;obtain⟨b,o',cs',e,fr,h2,h3,h4⟩:=h1;have h5:=zJR xs cs' o' j u h4 hu;refine⟨.pointer (dS ⟨b,o'+f.offset,dT⟩),w,?_,_,wI g9 rfl hd (fun _=>.pointer (dS ⟨b,o'+f.offset,dT⟩)) (fun _=>rfl) _ _ (by simp[mkV,Gh.put]) ?_ (by simp[Top])⟩
 ·have g7:=zFZ (w:=w) (b:=b) (o':=o') hS hf hi hz
  have h6:a.eval x=.pointer (dS ⟨b,o',dT⟩):=by simpa using h2
  simp[execOp,ho,h6,g7]
 ·simp only[R,Gh.put_self,RoC]
  exact⟨b,o'+f.offset,cs',e,fr,by simp,h3,by rw[←gK];exact h5⟩
def zFq:TypeDesc→Bool
 |.struct _|.array _ _=>dU
 |_=>dV
theorem qK{P:Program}{w:World}{t:TypeId}{ds:TypeDesc}(ht:P.underlying t=dS ds):(isAgg t).run P w=.ok (zFq ds) w:=by cases ds<;>simp[isAgg,run_underlying ht,zFq]
theorem wJ{G:Gh}{w:World}{s:Nat}{t:T}{p:List Nat}{b o:Nat}(ht:t.single=dU)(h:Loc G w s t p b o):G.ad s p=⟨b,o,dT⟩∧G.lb b o=dS (dV,s,p)∧yH w b o=dS (G.hd s p):=by cases t<;>simp[T.single]at ht<;>simpa only[Loc]using h
mutual
theorem zR4{G:Gh}{w:World}{s:Nat}:(t:T)→ ∀(p:List Nat)(b o:Nat),Loc G w s t p b o→ ∀(i:Nat)(v:Value),(vals G s t p)[i]? =dS v→yH w b (o+i)=dS v
 |.agg xs,p,b,o,h,i,v,hv=>by simp only[Loc,vals]at h hv;exact zAL xs p 0 b o h.2 i v hv
 |.any,p,b,o,h,i,v,hv|.lit _,p,b,o,h,i,v,hv|.ro _,p,b,o,h,i,v,hv|.same _ _,p,b,o,h,i,v,hv|.addr _ _,p,b,o,h,i,v,hv|.sub _ _ _ _ _,p,b,o,h,i,v,hv|.sl _ _,p,b,o,h,i,v,hv|.ptr _,p,b,o,h,i,v,hv=>by
  simp only[Loc,vals]at h hv;cases i with
  |zero=>simp at hv;rw[←hv];exact h.2.2
  |succ i=>simp at hv
 |.tup _,_,_,_,h,_,_,_=>by simp only[Loc]at h
theorem zAL{G:Gh}{w:World}{s:Nat}:(xs:List T)→ ∀(p:List Nat)(j b o:Nat),wV G w s xs p j b o→ ∀(i:Nat)(v:Value),(yA G s xs p j)[i]? =dS v→yH w b (o+i)=dS v
 | [],_,_,_,_,_,i,v,hv=>by simp[yA]at hv
 |x::xs,p,j,b,o,h,i,v,hv=>by
  simp only[wV,yA]at h hv;rw[Kd]at hv;split at hv
  ·exact zR4 x (j::p) b o h.1 i v hv
  ·rename_i hge
   have gk:=wR (G:=G) (s:=s) x (j::p) (fun ys e=>by subst e;simp only[Loc]at h;exact h.1);have:=zAL xs p (j+1) b (o+x.size) h.2 _ v hv
   rwa [show o+x.size+(i-(vals G s x (j::p)).length)=o+i from by omega]at this
theorem wR{G:Gh}{s:Nat}:(t:T)→ ∀(p:List Nat),(∀xs,t≠.tup xs)→(vals G s t p).length=t.size
 |.agg xs,p,_=>by simp only[vals,T.size];exact xT xs p 0
 |.any,_,_|.lit _,_,_|.ro _,_,_|.same _ _,_,_|.addr _ _,_,_|.sub _ _ _ _ _,_,_|.sl _ _,_,_|.ptr _,_,_|.tup _,_,_=>by simp[vals,T.size]
theorem xT{G:Gh}{s:Nat}:(xs:List T)→ ∀(p:List Nat)(j:Nat),(yA G s xs p j).length=T.sizes xs
 | [],_,_=>by simp[yA,T.sizes]
 |x::xs,p,j=>by
  simp only[yA,J7,T.sizes,xT xs p (j+1)]
  by_cases hx:∃ys,x=.tup ys
  ·obtain⟨ys,rfl⟩:=hx;simp[vals,T.size]
  ·rw[wR x (j::p) (fun ys e=>hx ⟨ys,e⟩)]
end
theorem zGa{P:Program}{G:Gh}{w:World}{s:Nat}{t:T}{p:List Nat}{b o':Nat}{T':TypeId}{ds:TypeDesc}{ti:TypeInfo}(hT:P.underlying T'=dS ds)(hi:P.info? T'=dS ti)(hl:Loc G w s t p b o')
  (eU:zFq ds= !t.single)(gv:ti.size=t.size):(loadVar T' ⟨b,o',dT⟩).run P w=.ok (tQ G s t p) w:=by
 cases t with
 |agg xs=>
  have h1:=run_loadCells_list (P:=P) (w:=w) ⟨b,o',dT⟩ (yA G s xs p 0) (fun j v hv=>by rw[vJ];simp only[Loc]at hl;exact zAL xs p 0 b o' hl.2 j v hv)
  rw[xT]at h1;simp only[T.size]at gv;simp[T.single]at eU;simp[loadVar,qK hT,eU,sizeOf,typeInfo,hi,gv,h1,tQ]
 |tup xs=>simp only[Loc]at hl
 |_=>
  have h1:=(wJ rfl hl).2.2;simp[T.single]at eU;simp only[yH]at h1;simp[loadVar,qK hT,eU,load,Sem.run,h1,tQ]
def zC4(Γ:Ctx)(E:Env)(x:Operand)(r:Nat)(q:List Nat):Prop:=∀(a:Act)(w:World)(G:Gh),Rep Γ E G a.tmps w→a.eval x=.pointer (dS (G.ad r q))
theorem zC4.addr{x:Operand}{r:Nat}{q:List Nat}(hx:opT E x=dS (.addr r q)):zC4 Γ E x r q:=fun a w G g9=>by
 cases x with
 |tmp s=>
  obtain⟨h1,h2,_⟩:=g9.ent s _ hx;simp only[R]at h2;rw[xK h1];exact h2
 |const v=>simp only[opT]at hx;split at hx<;>simp at hx
 |func f=>simp[opT]at hx
 |global g=>simp[opT]at hx
theorem zC4.ptr{x:Operand}{r:Nat}{q:List Nat}{t:T}(hx:uT E x=dS (r,q,.ptr t)):zC4 Γ E x r (0::q):=fun a w G g9=>by obtain⟨g1,g2⟩:=qB g9 hx rfl;simp only[R]at g1;obtain⟨b,cs,e,g4,_,_,_,g5,_⟩:=g1;rw[g2,g4,zEa g5]
theorem zKZ(x:Operand)(T':TypeId)(ds:TypeDesc)(ti:TypeInfo)(r:Nat)(q:List Nat)(t u:T)(ho:o.op=.load T' x)(gf:o.dst=dS d)(hd:d<Γ.N)
  (hT:P.underlying T'=dS ds)(hi:P.info? T'=dS ti)(eU:zFq ds= !u.single)(gv:ti.size=u.size)
  (hx:zC4 Γ E x r q)(hr:E r=dS t)(hg:t.get q.reverse=dS u)(hl:t.locd q.reverse=dU)(gH:r≠d)(gP:T.okB [(d,0)] (cpT r u q)=dU):
  xM P Γ o E (E.app [(d,dS (cpT r u q))] [(d,0)]):=by
 refine xM.value gf fun a w G g9=>?_
 have ms:=hx a w G g9;obtain⟨_,h4,_⟩:=g9.ent r _ hr;obtain⟨h5,h6⟩:=zBD q.reverse t u [] h4 hg;obtain⟨b,o',cs,e,h6,_,_⟩:=h6 hl;simp only[rp,Ki,Jh]at h5 h6;have gX:∀xs,u≠.tup xs:=by rintro xs rfl;simp only[Loc]at h6
 have h7:=zEa h6;have hz:∀z,(G.put d (fun z=>G.hd r (z++q))).hd d (z++[])=G.hd r (z++q):=fun z=>by rw[Gh.put_self,Jh]
 have hk:=G.put_keep (w:=w) (w':=w) rfl d (fun z=>G.hd r (z++q));refine⟨tQ G r u q,w,?_,_,wI g9 rfl hd (fun z=>G.hd r (z++q)) (fun z=>g9.mem.one _ _) _ _ (zAP u q [] gX hz).symm
  (zDY (fun p=>G.put_other _ p gH) u q [] hz gX (hk.keepR (zBo _ (sV r u q) gP)) h5) (sV r u q)⟩
 have h8:=zGa (T':=T') hT hi h6 eU gv;simp[execOp,ho,ms,h7,Instr.loadAt,uO,h8]
theorem zVk(x:Operand)(T':TypeId)(ds:TypeDesc)(ti:TypeInfo)(r:Nat)(q:List Nat)(t u:T)(ho:o.op=.load T' x)(gf:o.dst=dS d)(hd:d<Γ.N)
  (hT:P.underlying T'=dS ds)(hi:P.info? T'=dS ti)(eU:zFq ds= !u.single)(gv:ti.size=u.size)
  (hx:opT E x=dS (.addr r q))(hr:E r=dS t)(hg:t.get q.reverse=dS u)(hl:t.locd q.reverse=dU)(gH:r≠d)(gP:T.okB [(d,0)] (cpT r u q)=dU):
  xM P Γ o E (E.app [(d,dS (cpT r u q))] [(d,0)]):=zKZ x T' ds ti r q t u ho gf hd hT hi eU gv (zC4.addr hx) hr hg hl gH gP
def roT:T→T
 |.lit v=>.lit v
 |.agg xs=>.agg (roTs xs)
 |.ro t=>.ro (.ro t)
 |.any=>.any
 |.same r q=>.ro (.same r q)
 |.addr r q=>.ro (.addr r q)
 |.sub r q k lo hi=>.ro (.sub r q k lo hi)
 |.sl k xs=>.ro (.sl k xs)
 |.ptr t=>.ro (.ptr t)
 |.tup xs=>.ro (.tup xs)
where roTs:List T→List T
 | []=>[]
 |x::xs=>roT x::roTs xs
end
end Go.Ab

namespace Go.Ab
open Go
def jZ(v:Value):Value:=if v.oneCell' then v else .bool dV
theorem zBE(v:Value):(jZ v).oneCell'=dU:=by
 unfold jZ;split
 ·assumption
 ·rfl
theorem zAc{v:Value}(h:v.oneCell'=dU):jZ v=v:=by simp[jZ,h]
def zEc:T→Array Value→Nat→List Nat→Value
 |.agg xs,cs,o,i::f=>match xs[i]? with
  |some x=>zEc x cs (o+T.sizes (xs.take i)) f
  |none=>.bool dV
 |_,cs,o,_=>cs.getD o (.bool dV)
termination_by structural _ _ _ f=>f
theorem zBq{t:T}(h:t.single=dU)(cs:Array Value)(o:Nat)(f:List Nat):zEc t cs o f=cs.getD o (.bool dV):=by cases t<;>simp[T.single]at h<;>cases f<;>rfl
mutual
theorem zE6:(u:T)→(∀xs,u≠.tup xs)→(roT u).size=u.size
 |.agg xs,_=>by simp only[roT,T.size];exact zFr xs
 |.lit _,_|.any,_|.sl _ _,_|.ptr _,_|.ro _,_|.same _ _,_|.addr _ _,_|.sub _ _ _ _ _,_|.tup _,_=>by simp[roT,T.size]
theorem zFr:(xs:List T)→T.sizes (roT.roTs xs)=T.sizes xs
 | []=>by simp only[roT.roTs]
 |x::xs=>by
  simp only[roT.roTs,T.sizes,zFr xs]
  by_cases hx:∃ys,x=.tup ys
  ·obtain⟨ys,rfl⟩:=hx;simp[roT,T.size]
  ·rw[zE6 x (fun ys e=>hx ⟨ys,e⟩)]
end
section
variable {St:Stb}{G:Gh}{w:World}{d:Nat}
theorem zCB{u:T}{cs:Array Value}{o:Nat}(hu:u.single=dU)(h:RoC St u cs o):∃v,cs[o]? =dS v∧v.oneCell'=dU∧RoC St u #[v] 0:=by
 cases u<;>simp[T.single]at hu<;>simp only[RoC]at h ⊢
 ·obtain⟨v,h1,h2⟩:=h;exact⟨v,h1,h2,v,by simp,h2⟩
 ·exact⟨_,h.1,h.2,by simp,h.2⟩
 ·obtain⟨f,vs,h1,h2⟩:=h;exact⟨_,h1,rfl,f,vs,by simp,h2⟩
 ·obtain⟨a,c,h1,h2⟩:=h;exact⟨_,h1,rfl,a,c,by simp,h2⟩
 ·obtain⟨b,o',cs',e,fr,h1,h2⟩:=h;exact⟨_,h1,rfl,b,o',cs',e,fr,by simp,h2⟩
mutual
theorem zR5:(u:T)→ ∀(cs:Array Value)(o:Nat)(p:List Nat),(∀z,G.hd d (z++p)=jZ (zEc u cs o z.reverse))→RoC St u cs o→R St G w d (roT u) p
 |.agg xs,cs,o,p,hd,h=>by
  simp only[roT,R,RoC]at h ⊢
  exact zR6 xs cs o p 0 o (by simp) (fun z j x hx=>by have:=hd (z++[j]);simp only[Ji,Hv,K6,Qb,Hy,H8,zEc]at this;rw[Ja,this];simp[hx]) h
 |.lit v,cs,o,p,hd,h=>by
  simp only[roT,R,RoC]at h ⊢
  have:=hd [];rw[K6,zBq rfl]at this;rw[this];simp[Ka,h.1,zAc h.2]
 |.any,_,_,_,_,_=>by simp only[roT,R]
 |.ro _,cs,o,p,hd,h|.sl _ _,cs,o,p,hd,h|.ptr _,cs,o,p,hd,h=>by obtain⟨v,h1,h2,h3⟩:=zCB rfl h;have:=hd [];rw[K6,zBq rfl]at this;simp only[roT,R];rw[this];simpa[Ka,h1,zAc h2]using h3
 |.same _ _,_,_,_,_,h|.addr _ _,_,_,_,_,h|.sub _ _ _ _ _,_,_,_,_,h|.tup _,_,_,_,_,h=>by simp only[RoC]at h
theorem zR6:(xs:List T)→ ∀(cs:Array Value)(o0:Nat)(p:List Nat)(j o:Nat),o0≤o→(∀z i x,xs[i]? =dS x→G.hd d (z++((j+i)::p))=jZ (zEc x cs (o+T.sizes (xs.take i)) z.reverse))→RoF St xs cs o→RF St G w d (roT.roTs xs) p j
 | [],_,_,_,_,_,_,_,_=>by simp only[roT.roTs,RF]
 |x::xs,cs,o0,p,j,o,ho,hd,h=>by
  simp only[roT.roTs,RF,RoF]at h ⊢
  refine⟨zR5 x cs o (j::p) (fun z=>by simpa[T.sizes]using hd z 0 x (by simp)) h.1,zR6 xs cs o0 p (j+1) (o+x.size) (by omega) (fun z i y hy=>?_) h.2⟩;have:=hd z (i+1) y (by simpa using hy);simp only[Lj,T.sizes]at this;rw[show j+1+i=j+(i+1)from by omega,show o+x.size+T.sizes (xs.take i)=o+(x.size+T.sizes (xs.take i))from Ll ..];exact this
end
mutual
theorem zGY:(u:T)→ ∀(cs:Array Value)(o:Nat)(p:List Nat),(∀z,G.hd d (z++p)=jZ (zEc u cs o z.reverse))→RoC St u cs o→ ∀(i:Nat)(v:Value),(vals G d (roT u) p)[i]? =dS v→cs[o+i]? =dS v
 |.agg xs,cs,o,p,hd,h,i,v,hv=>by
  simp only[roT,vals,RoC]at h hv;exact zIK xs cs p 0 o (fun z j x hx=>by have:=hd (z++[j]);simp only[Ji,Hv,K6,Qb,Hy,H8,zEc]at this;rw[Ja,this];simp[hx]) h i v hv
 |.lit _,cs,o,p,hd,h,i,v,hv|.ro _,cs,o,p,hd,h,i,v,hv|.any,cs,o,p,hd,h,i,v,hv|.sl _ _,cs,o,p,hd,h,i,v,hv|.ptr _,cs,o,p,hd,h,i,v,hv=>by
  obtain⟨v',h1,h2,h3⟩:=zCB rfl h;have:=hd [];rw[K6,zBq rfl]at this;simp only[roT,vals]at hv;cases i with
  |zero=>
   simp at hv;rw[←hv,this];simp[Ka,h1,zAc h2]
  |succ i=>simp at hv
 |.same _ _,_,_,_,_,h,_,_,_|.addr _ _,_,_,_,_,h,_,_,_|.sub _ _ _ _ _,_,_,_,_,h,_,_,_|.tup _,_,_,_,_,h,_,_,_=>by simp only[RoC]at h
theorem zIK:(xs:List T)→ ∀(cs:Array Value)(p:List Nat)(j o:Nat),(∀z i x,xs[i]? =dS x→G.hd d (z++((j+i)::p))=jZ (zEc x cs (o+T.sizes (xs.take i)) z.reverse))→RoF St xs cs o→ ∀(i:Nat)(v:Value),(yA G d (roT.roTs xs) p j)[i]? =dS v→cs[o+i]? =dS v
 | [],_,_,_,_,_,_,i,v,hv=>by simp[roT.roTs,yA]at hv
 |x::xs,cs,p,j,o,hd,h,i,v,hv=>by
  simp only[roT.roTs,yA,RoF]at h hv;have hx:∀z,G.hd d (z++(j::p))=jZ (zEc x cs o z.reverse):=fun z=>by simpa[T.sizes]using hd z 0 x (by simp)
  have gk:(vals G d (roT x) (j::p)).length=x.size:=by have hs:(roT x).size=x.size:=zE6 x (fun ys e=>by subst e;simp only[RoC]at h;exact h.1);rw[wR (roT x) (j::p) (fun ys e=>by cases x<;>simp[roT]at e),hs]
  rw[Kd]at hv;split at hv
  ·exact zGY x cs o (j::p) hx h.1 i v hv
  ·have:=zIK xs cs p (j+1) (o+x.size) (fun z i y hy=>by
    have:=hd z (i+1) y (by simpa using hy);simp only[Lj,T.sizes]at this;rw[show j+1+i=j+(i+1)from by omega,show o+x.size+T.sizes (xs.take i)=o+(x.size+T.sizes (xs.take i))from Ll ..];exact this) h.2 _ v hv
   rwa [gk,show o+x.size+(i-x.size)=o+i from by omega]at this
end
mutual
theorem zOG:(u:T)→Top (roT u)
 |.agg xs=>by simp only[roT,Top];exact zLa xs
 |.lit _|.any|.sl _ _|.ptr _|.ro _|.same _ _|.addr _ _|.sub _ _ _ _ _|.tup _=>by simp[roT,Top]
theorem zLa:(xs:List T)→uB (roT.roTs xs)
 | []=>by simp only[roT.roTs,uB]
 |x::xs=>by simp only[roT.roTs,uB];exact⟨zOG x,zLa xs⟩
end
end
section
variable {P:Program}{Γ:Ctx}{E:Env}{o:Oper}{d:Nat}
theorem zJS{G:Gh}{w:World}(hm:Mem Γ G w){b:Nat}{cs:Array Value}{e:TypeId}{fr:Nat×Nat}(h:Γ.St b=dS (.cells cs e fr))(i:Nat):w.cell? ⟨b,i,dT⟩=cs[i]?:=by simp[World.cell?,hm.st b _ h]
theorem zNm(x:Operand)(T':TypeId)(ds:TypeDesc)(ti:TypeInfo)(u:T)(ho:o.op=.load T' x)(gf:o.dst=dS d)(hd:d<Γ.N)
  (hT:P.underlying T'=dS ds)(hi:P.info? T'=dS ti)(eU:zFq ds= !u.single)(gv:ti.size=u.size)
  (hx:opT E x=dS (.ro (.ptr u))):xM P Γ o E (E.app [(d,dS (roT u))] [(d,0)]):=by
 refine xM.value gf fun a w G g9=>?_
 have h1:=zEb g9 hx;simp only[RoC]at h1;obtain⟨b,o',cs',e,fr,h2,h3,h4⟩:=h1;have ft:a.eval x=.pointer (dS ⟨b,o',dT⟩):=by simpa using h2
 have gX:∀xs,u≠.tup xs:=by rintro xs rfl;simp only[RoC]at h4
 let f:List Nat→Value:=fun z=>jZ (zEc u cs' o' z.reverse)
 have hz:∀z,(G.put d f).hd d (z++[])=jZ (zEc u cs' o' z.reverse):=fun z=>by rw[Gh.put_self,Jh]
 refine⟨mkV (G.put d f) d (roT u) [],w,?_,_,wI g9 rfl hd f (fun z=>zBE _) _ _ rfl (zR5 u cs' o' [] hz h4) (zOG u)⟩;cases u with
 |agg xs=>
  have h5:∀j v,(yA (G.put d f) d (roT.roTs xs) [] 0)[j]? =dS v→w.cell? ((⟨b,o',dT⟩:Addr).add j)=dS v:=by intro j v hv;rw[vJ,zJS g9.mem h3];exact zGY (.agg xs) cs' o' [] hz h4 j v (by simpa only[roT,vals]using hv)
  have h6:=run_loadCells_list (P:=P) (w:=w) ⟨b,o',dT⟩ _ h5;rw[xT,zFr]at h6;simp only[T.size]at gv;simp[T.single]at eU;simp[execOp,ho,ft,Instr.loadAt,uO,loadVar,qK hT,eU,sizeOf,typeInfo,hi,gv,h6,mkV,roT]
 |tup xs=>exact absurd rfl (gX xs)
 |_=>
  obtain⟨v,h5,h6,h7⟩:=zCB rfl h4;have h8:w.cell? ⟨b,o',dT⟩=dS v:=by rw[zJS g9.mem h3];exact h5
  simp[T.single]at eU;have h9:f []=v:=by show jZ (zEc _ cs' o' _)=v;rw[zBq rfl];simp[Ka,h5,zAc h6]
  simp[execOp,ho,ft,Instr.loadAt,uO,loadVar,qK hT,eU,load,Sem.run,h8,mkV,roT,Gh.put_self,h9]
def zGb(E:Env)(x:Operand):Bool:=
 match opT E x with
 |some (.addr _ _)|some (.ro (.ptr _))=>dU
 |_=>match uT E x with
  |some (_,_,.ptr _)=>dU
  |some (_,_,.ro (.ptr _))=>dU
  |_=>dV
theorem zR7{G:Gh}{a:Act}{w:World}(g9:Rep Γ E G a.tmps w){x:Operand}(h:zGb E x=dU):∃ad,a.eval x=.pointer (dS ad):=by
 unfold zGb at h;split at h
 ·rename_i r q hx
  cases x with
  |tmp s=>
   obtain⟨h1,h2,_⟩:=g9.ent s _ hx;simp only[R]at h2;exact⟨_,by rw[xK h1,yR rfl,h2]⟩
  |const v=>simp only[opT]at hx;split at hx<;>simp at hx
  |func f=>simp[opT]at hx
  |global g=>simp[opT]at hx
 ·rename_i u hx
  have:=zEb g9 hx;simp only[RoC]at this;obtain⟨b,o',_,_,_,h1,_⟩:=this;exact⟨_,by simpa using h1⟩
 ·split at h
  ·rename_i hl
   obtain⟨h1,h2⟩:=qB g9 hl rfl;simp only[R]at h1;obtain⟨b,cs,e,h3,_⟩:=h1;exact⟨_,by rw[h2,h3]⟩
  ·rename_i hl
   obtain⟨h1,h2⟩:=qB g9 hl rfl;simp only[R,RoC]at h1;obtain⟨b,o',_,_,_,h3,_⟩:=h1;exact⟨_,by rw[h2];simpa using h3⟩
  ·cases h
theorem zYm(x:Operand)(t:T)(ho:o.op=.nilCheck x)(gf:o.dst=dS d)(hd:d<Γ.N)(hx:opT E x=dS t)(hp:zGb E x=dU)(ht:∀xs,t≠.tup xs)
  (gc:∀s,x=.tmp s→s≠d)(gP:T.okB [(d,0)] (uQ x t)=dU):xM P Γ o E (E.app [(d,dS (uQ x t))] [(d,0)]):=by
 refine xM.value gf fun a w G g9=>?_
 obtain⟨f,hf,h1,h2⟩:=opd g9 hx ht;obtain⟨h3,h4⟩:=h1 d gc gP;obtain⟨ad,h5⟩:=zR7 g9 hp;refine⟨a.eval x,w,?_,_,wI g9 rfl hd f hf _ _ h3 h4 h2⟩;simp[execOp,ho,h5]
theorem zLb{G:Gh}{s:Nat}:(xs:List T)→ ∀(p:List Nat)(j i:Nat)(x:T),xs[i]? =dS x→(zAm G s xs p j)[i]? =dS (tQ G s x ((j+i)::p))
 | [],_,_,_,_,h=>by simp at h
 |y::ys,p,j,i,x,h=>by
  cases i with
  |zero=>simp at h;subst h;simp[zAm]
  |succ i=>
   have:=zLb (G:=G) (s:=s) ys p (j+1) i x (by simpa using h);rw[show j+(i+1)=j+1+i from by omega];simpa[zAm]using this
theorem zNn(s i:Nat)(ts:List T)(t:T)(ho:o.op=.extract (.tmp s) i)(gf:o.dst=dS d)(hd:d<Γ.N)(hs:E s=dS (.tup ts))(hi:ts[i]? =dS t)(ht:∀xs,t≠.tup xs)
  (gc:s≠d)(gP:T.okB [(d,0)] (cpT s t [i])=dU):xM P Γ o E (E.app [(d,dS (cpT s t [i]))] [(d,0)]):=by
 refine xM.value gf fun a w G g9=>?_
 obtain⟨h1,h2,_⟩:=g9.ent s _ hs;simp only[R]at h2;have h3:=zBx ts [] 0 i t h2 hi;simp only[Ja]at h3;have h4:=zLb (G:=G) (s:=s) ts [] 0 i t hi;simp only[Ja]at h4;have hk:=G.put_keep (w:=w) (w':=w) rfl d (fun z=>G.hd s (z++[i]));have hz:∀z,(G.put d (fun z=>G.hd s (z++[i]))).hd d (z++[])=G.hd s (z++[i]):=fun z=>by rw[Gh.put_self,Jh]
 refine⟨tQ G s t [i],w,?_,_,wI g9 rfl hd (fun z=>G.hd s (z++[i])) (fun z=>g9.mem.one _ _) _ _ (zAP t [i] [] ht hz).symm
  (zDY (fun p=>G.put_other _ p gc) t [i] [] hz ht (hk.keepR (zBo _ (sV s t [i]) gP)) h3) (sV s t [i])⟩
 simp[execOp,ho,xK h1,mkV,Instr.extract,h4]
def zAo(E:Env)(x:Option Operand)(dflt n:Nat):Prop:=
 match x with
 |none=>n=dflt
 |some y=> ∃kd,opT E y=dS (.lit (.int kd n))
theorem zGZ{St:Stb}:(xs:List T)→ ∀(cs:Array Value)(o k l:Nat),RoL St xs cs o k→RoL St (xs.drop l) cs (o+l*k) k
 | [],_,_,_,_,_=>by simp[RoL]
 |x::xs,cs,o,k,l,h=>by
  cases l with
  |zero=>simpa using h
  |succ l=>
   simp only[RoL]at h;have:=zGZ xs cs (o+k) k l h.2
   rwa [List.drop_succ_cons,show o+(l+1)*k=o+k+l*k from by rw[L8];omega]
theorem zHa{St:Stb}:(xs:List T)→ ∀(cs:Array Value)(o k l:Nat),RoL St xs cs o k→RoL St (xs.take l) cs o k
 | [],_,_,_,_,_=>by simp[RoL]
 |x::xs,cs,o,k,l,h=>by
  cases l with
  |zero=>simp[RoL]
  |succ l=>simp only[RoL,Lj]at h ⊢;exact⟨h.1,zHa xs cs _ k l h.2⟩
theorem qL{P:Program}{G:Gh}{a:Act}{w:World}(g9:Rep Γ E G a.tmps w){x:Operand}{kd:IntKind}{n y:Nat}{c:BoundsCode}(hx:opT E x=dS (.lit (.int kd n)))(h:n≤y):
  (Instr.sliceBound (a.eval x) y c).run P w=.ok n w:=by
 rw[(yP g9 hx).1];have:(n:Int)≤(y:Int):=by omega
 simp[Instr.sliceBound,asIntOf,this]
theorem zHb{P:Program}{G:Gh}{a:Act}{w:World}(g9:Rep Γ E G a.tmps w){lo hi:Option Operand}{l h n c:Nat}(gY:zAo E lo 0 l)(ea:zAo E hi n h)(h1:l≤h)(h2:h≤c):
  (Instr.sliceBounds dU n c (lo.map a.eval) (hi.map a.eval) dT).run P w=.ok (l,h,c) w:=by
 cases lo with
 |none=>
  cases hi with
  |none=>simp only[zAo]at gY ea;subst gY;subst ea;simp[Instr.sliceBounds]
  |some y=>simp only[zAo]at gY ea;obtain⟨kd,hy⟩:=ea;subst gY;simp[Instr.sliceBounds,qL g9 hy h2]
 |some x=>
  obtain⟨kd,hx⟩:=gY;cases hi with
  |none=>simp only[zAo]at ea;subst ea;simp[Instr.sliceBounds,qL g9 hx h1]
  |some y=>obtain⟨kd',hy⟩:=ea;simp[Instr.sliceBounds,qL g9 hy h2,qL g9 hx h1]
theorem zLc(x:Operand)(lo hi:Option Operand)(t e:TypeId)(ti:TypeInfo)(r:Nat)(q:List Nat)(k:Nat)(xs:List T)(l h:Nat)(ho:o.op=.slice t x lo hi dT)(gf:o.dst=dS d)(hd:d<Γ.N)
  (ht:P.underlying t=dS (.slice e))(he:P.info? e=dS ti)(hk:ti.size=k)(hx:uT E x=dS (r,q,.ro (.sl k xs)))(gY:zAo E lo 0 l)(ea:zAo E hi xs.length h)(h1:l≤h)(h2:h≤xs.length):
  xM P Γ o E (E.app [(d,dS (.ro (.sl k ((xs.drop l).take (h-l)))))] [(d,0)]):=by
 refine xM.value gf fun a w G g9=>?_
 obtain⟨g1,g2⟩:=qB g9 hx rfl;obtain⟨a',c,g4,g5,g6,g7⟩:=zDm g1;have g8:=zHb (P:=P) g9 gY ea h1 (Ht h2 g5);have gk:((xs.drop l).take (h-l)).length=h-l:=by simp;omega
 refine⟨.slice (if c=l then a' else a'.map (·.add (l*k))) (h-l) (c-l),w,?_,_,wI g9 rfl hd (fun _=>.slice (if c=l then a' else a'.map (·.add (l*k))) (h-l) (c-l)) (fun _=>rfl) _ _ (by simp[mkV,Gh.put]) ?_ (by simp[Top])⟩
 ·simp only[execOp,ho,Ja3]
  simp[Instr.sliceAt,Instr.slice,run_underlying ht,g2,g4,g8,sizeOf,typeInfo,he,hk]
 ·simp only[R,Gh.put_self,RoC]
  refine⟨_,_,by rw[gk];rfl,by omega,by omega,?_⟩;intro gc;have ew:xs≠[]:=by rintro rfl;simp at gc
  obtain⟨b,o',cs',e',fr,rfl,h3,h4⟩:=g7 ew;have gI:c≠l:=by rintro rfl;apply gc;apply Jz;omega
  exact⟨b,o'+l*k,cs',e',fr,by simp[gI,vJ],h3,zHa _ _ _ _ _ (zGZ _ _ _ _ _ h4)⟩
theorem zJT(x:Operand)(lo hi:Option Operand)(t e:TypeId)(ti:TypeInfo)(r:Nat)(q:List Nat)(k:Nat)(xs:List T)(l h:Nat)(ho:o.op=.slice t x lo hi dT)(gf:o.dst=dS d)(hd:d<Γ.N)
  (ht:P.underlying t=dS (.slice e))(he:P.info? e=dS ti)(hk:ti.size=k)(hx:uT E x=dS (r,q,.sl k xs))(gY:zAo E lo 0 l)(ea:zAo E hi xs.length h)(h1:l≤h)(h2:h≤xs.length)(gH:r≠d):
  xM P Γ o E (E.app [(d,dS (.sub r q k l h))] [(d,0)]):=by
 refine xM.value gf fun a w G g9=>?_
 obtain⟨g1,g2⟩:=qB g9 hx rfl;obtain⟨a',c,g4⟩:=zG9 g1;have g5:xs.length≤c:=by
  simp only[R]at g1;rcases g1 with⟨rfl,_⟩|⟨b,o0,cap,cs,e,g,_,g',_⟩
  ·simp
  ·rw[g4]at g;simp at g;omega
 have g8:=zHb (P:=P) g9 gY ea h1 (Ht h2 g5);refine⟨zAN (G.hd r q) k l h,w,?_,_,wI g9 rfl hd (fun _=>zAN (G.hd r q) k l h) (fun _=>by rw[g4];rfl) _ _ (by simp[mkV,Gh.put]) ?_ (by simp[Top])⟩
 ·simp only[execOp,ho,Ja3]
  simp[Instr.sliceAt,Instr.slice,run_underlying ht,g2,g4,g8,sizeOf,typeInfo,he,hk,zAN]
 ·simp only[R,Gh.put_self]
  rw[Gh.put_other _ _ _ gH]
end
end Go.Ab

namespace Go.Ab
open Go
def T.inT:T→List Nat→Bool
 |_,[]=>dU
 |.agg xs,i::f=>match xs[i]? with
  |some x=>x.inT f
  |none=>dV
 |.any,_::_|.lit _,_::_|.ro _,_::_|.same _ _,_::_|.addr _ _,_::_|.sub _ _ _ _ _,_::_|.sl _ _,_::_|.ptr _,_::_|.tup _,_::_=>dV
termination_by structural _ f=>f
def T.offT:T→List Nat→Nat
 |_,[]=>0
 |.agg xs,i::f=>match xs[i]? with
  |some x=>T.sizes (xs.take i)+x.offT f
  |none=>0
 |.any,_::_|.lit _,_::_|.ro _,_::_|.same _ _,_::_|.addr _ _,_::_|.sub _ _ _ _ _,_::_|.sl _ _,_::_|.ptr _,_::_|.tup _,_::_=>0
termination_by structural _ f=>f
theorem zHc{t:T}(h:t.single=dU){f:List Nat}(hf:f≠[]):t.inT f=dV:=by
 cases f with
 |nil=>grind
 |cons i f=>cases t<;>simp[T.single]at h<;>rfl
mutual
def zR8:T→List Nat→Nat→Option (List Nat)
 |.agg xs,p,o=>zCC xs p 0 o
 |.any,p,o|.lit _,p,o|.ro _,p,o|.same _ _,p,o|.addr _ _,p,o|.sub _ _ _ _ _,p,o|.sl _ _,p,o|.ptr _,p,o|.tup _,p,o=>if o=0 then dS p else dT
def zCC:List T→List Nat→Nat→Nat→Option (List Nat)
 | [],_,_,_=>dT
 |x::xs,p,j,o=>if o<x.size then zR8 x (j::p) o else zCC xs p (j+1) (o-x.size)
end
mutual
def T.okTup:T→Bool
 |.tup _=>dV
 |.agg xs=>yE xs
 |.any|.lit _|.ro _|.same _ _|.addr _ _|.sub _ _ _ _ _|.sl _ _|.ptr _=>dU
def yE:List T→Bool
 | []=>dU
 |x::xs=>x.okTup&&yE xs
end
theorem zEd:(xs:List T)→ ∀(p:List Nat)(j o:Nat),T.sizes xs≤o→zCC xs p j o=dT
 | [],_,_,_,_=>by rfl
 |x::xs,p,j,o,h=>by simp only[T.sizes]at h;simp only[zCC];rw[if_neg (by omega)];exact zEd xs p (j+1) _ (by omega)
section
variable {G:Gh}{w:World}{d:Nat}
mutual
theorem zYn:(x:T)→ ∀(p:List Nat)(B o:Nat),(∀xs,x≠.tup xs)→x.okTup=dU→
  (∀f,x.inT f=dU→G.ad d (f.reverse++p)=⟨B,o+x.offT f,dT⟩)→(∀j p',j<x.size→zR8 x p j=dS p'→G.lb B (o+j)=dS (dV,d,p'))→
  (∀j v,(vals G d x p)[j]? =dS v→yH w B (o+j)=dS v)→Loc G w d x p B o
 |.agg xs,p,B,o,_,hn,ha,hl,hc=>by
  simp only[Loc];refine⟨by simpa[T.offT]using ha [] rfl,zGB xs p 0 B o (by grind[T.okTup]) (fun i x hx f hf=>?_) (fun j p' hj hp=>?_) (by grind[vals])⟩
  ·have:=ha (i::f) (by grind[T.inT])
   grind[T.offT]
  grind[T.size,zR8]
 |.any,p,B,o,_,_,ha,hl,hc|.lit _,p,B,o,_,_,ha,hl,hc|.ro _,p,B,o,_,_,ha,hl,hc|.same _ _,p,B,o,_,_,ha,hl,hc|.addr _ _,p,B,o,_,_,ha,hl,hc|.sub _ _ _ _ _,p,B,o,_,_,ha,hl,hc|.sl _ _,p,B,o,_,_,ha,hl,hc|.ptr _,p,B,o,_,_,ha,hl,hc=>by simp only[Loc];exact⟨by simpa[T.offT]using ha [] rfl,by simpa using hl 0 p (by simp[T.size]) (by rfl),by simpa using hc 0 (G.hd d p) (by simp[vals])⟩
 |.tup xs,_,_,_,h,_,_,_,_=>absurd rfl (h xs)
theorem zGB:(xs:List T)→ ∀(p:List Nat)(j B o:Nat),yE xs=dU→
  (∀i x,xs[i]? =dS x→ ∀f,x.inT f=dU→G.ad d (f.reverse++((j+i)::p))=⟨B,o+(T.sizes (xs.take i)+x.offT f),dT⟩)→
  (∀i p',i<T.sizes xs→zCC xs p j i=dS p'→G.lb B (o+i)=dS (dV,d,p'))→
  (∀i v,(yA G d xs p j)[i]? =dS v→yH w B (o+i)=dS v)→wV G w d xs p j B o
 | [],_,_,_,_,_,_,_,_=>by simp only[wV]
 |x::xs,p,j,B,o,hn,ha,hl,hc=>by
  simp only[yE,J2]at hn;have gX:∀ys,x≠.tup ys:=by rintro ys rfl;grind[T.okTup]
  simp only[wV];refine⟨zYn x (j::p) B o gX hn.1 (fun f hf=>by simpa[T.sizes]using ha 0 x (by simp) f hf) (fun i p' hi hp=>hl i p' (by grind[T.sizes]) (by simp only[zCC,hi,if_true];exact hp)) (fun i v hv=>hc i v ?_),
   zGB xs p (j+1) B (o+x.size) hn.2 (fun i y hy f hf=>?_) (fun i p' hi hp=>?_) (fun i v hv=>?_)⟩
  ·grind[yA]
  ·have:=ha (i+1) y (by grind) f hf
   grind[T.sizes]
  ·have:=hl (x.size+i) p' (by grind[T.sizes]) (by simp only[zCC];grind)
   grind
  ·have:=hc (x.size+i) v (by
    grind[yA,wR])
   grind
end
end
structure MvC (G:Gh) (w:World) (G':Gh) (w':World) (s:Nat) (p:List Nat) (s':Nat) (p':List Nat) (t:T):Prop where
 hd:∀z,G'.hd s' (z++p')=G.hd s (z++p)
 ad:∀z,t.inT z.reverse=dV→G'.ad s' (z++p')=G.ad s (z++p)
 lb:∀b o f z,(f=dU∨t.inT z.reverse=dV)→G.lb b o=dS (f,s,z++p)→G'.lb b o=dS (f,s',z++p')∧yH w' b o=yH w b o
 ow:∀b z,G.ow b=dS (s,z++p)→G'.ow b=dS (s',z++p')
 blk:Blk w w'
section
variable {St:Stb}{G:Gh}{w:World}{G':Gh}{w':World}{s:Nat}{s':Nat}
theorem MvC.moves{p p':List Nat}{t:T}(h:MvC G w G' w' s p s' p' t)(ht:t.single=dU):zGV G w G' w' s p s' p' where
 hd:=h.hd
 ad z hz:=h.ad z (zHc ht (by simp_all))
 lb b o f z hz _ hl:=h.lb b o f z (.inr (zHc ht (by simp_all))) hl
 ow b z _ hl:=h.ow b z hl
 blk:=h.blk
 sp b o _ hl:=by simpa using h.lb b o dU [] (.inl rfl) (by grind)
 ow0 b hl:=by simpa using h.ow b [] (by grind)
theorem MvC.field{p p':List Nat}{xs:List T}(h:MvC G w G' w' s p s' p' (.agg xs)){j:Nat}{x:T}(hx:xs[j]? =dS x):MvC G w G' w' s (j::p) s' (j::p') x where
 hd z:=by have:=h.hd (z++[j]);grind
 ad z hz:=by
  have:=h.ad (z++[j]) (by grind[T.inT])
  grind
 lb b o f z hf hl:=by
  have:=h.lb b o f (z++[j]) (by grind[T.inT]) (by grind)
  grind
 ow b z hl:=by
  have:=h.ow b (z++[j]) (by grind)
  grind
 blk:=h.blk
mutual
theorem zLd:(t:T)→ ∀(p p':List Nat),t.okTup=dU→MvC G w G' w' s p s' p' t→yN (zA6 G G') t→R St G w s t p→R St G' w' s' t p'
 |.agg xs,p,p',hn,h,hk,hr=>by
  simp only[R,yN,T.okTup]at hr hk hn ⊢
  exact zR9 xs p p' 0 hn (fun j x hx=>by rw[Ja];exact h.field hx) hk hr
 |.any,p,p',_,h,hk,hr|.lit _,p,p',_,h,hk,hr|.ro _,p,p',_,h,hk,hr|.same _ _,p,p',_,h,hk,hr|.addr _ _,p,p',_,h,hk,hr|.sub _ _ _ _ _,p,p',_,h,hk,hr|.sl _ _,p,p',_,h,hk,hr|.ptr _,p,p',_,h,hk,hr=>
  zAa (h.moves rfl) _ hk hr
 |.tup _,_,_,hn,_,_,_=>by grind[T.okTup]
theorem zR9:(xs:List T)→ ∀(p p':List Nat)(j:Nat),yE xs=dU→(∀i x,xs[i]? =dS x→MvC G w G' w' s ((j+i)::p) s' ((j+i)::p') x)→xF (zA6 G G') xs→RF St G w s xs p j→RF St G' w' s' xs p' j
 | [],_,_,_,_,_,_,_=>by simp only[RF]
 |x::xs,p,p',j,hn,h,hk,hr=>by
  simp only[RF,xF,yE,J2]at hr hk hn ⊢
  exact⟨zLd x (j::p) (j::p') hn.1 (by simpa using h 0 x (by simp)) hk.1 hr.1,zR9 xs p p' (j+1) hn.2 (fun i y hy=>by
   have:=h (i+1) y (by grind)
   grind) hk.2 hr.2⟩
end
end
theorem zOH{St:Stb}{G:Gh}{w:World}{s:Nat}:(xs:List T)→ ∀(p:List Nat)(j:Nat),(∀i x,xs[i]? =dS x→R St G w s x ((j+i)::p))→RF St G w s xs p j
 | [],_,_,_=>by simp only[RF]
 |x::xs,p,j,h=>by
  simp only[RF];exact⟨by simpa using h 0 x (by simp),zOH xs p (j+1) (fun i y hy=>by
   have:=h (i+1) y (by grind)
   grind)⟩
theorem zRA{St:Stb}{G:Gh}{w:World}{s:Nat}{k:Nat}:(xs:List T)→ ∀(p:List Nat)(j b o:Nat),(∀x∈xs,x.size=k)→wV G w s xs p j b o→RF St G w s xs p j→RL St G w s xs p j b o k
 | [],_,_,_,_,_,_,_=>by simp only[RL]
 |x::xs,p,j,b,o,hk,hl,hr=>by
  simp only[RL,wV,RF]at hl hr ⊢
  have h1:=hk x (by simp);exact⟨⟨hl.1,h1⟩,hr.1,zRA xs p (j+1) b (o+k) (by grind) (by grind) hr.2⟩
theorem wA{k:Nat}:(xs:List T)→(∀x∈xs,x.size=k)→T.sizes xs=xs.length*k
 | [],_=>by simp[T.sizes]
 |x::xs,h=>by simp[T.sizes,wA xs (fun y hy=>h y (by simp[hy])),h x (by simp),L8];omega
def Gh.nb(G:Gh)(d B:Nat)(xs:List T)(src:Nat→Option (Nat×List Nat))(φ:Nat→List Nat→Option (List Nat))(f:Nat→List Nat→Value)(gW:Value):Gh where
 hd s z:=if s=d then(match z.getLast? with
  |some i=>f i z.dropLast
  |none=>gW)else G.hd s z
 ad s z:=if s=d then(if(T.agg xs).inT z.reverse then⟨B,(T.agg xs).offT z.reverse,dT⟩else match z.getLast? with
  |some i=>(match src i with
   |some (x,q)=>G.ad x (z.dropLast++q)
   |none=>default)
  |none=>default)else G.ad s z
 lb b o:=if b=B then dS (match zCC xs [] 0 o with
  |some p=>(dV,d,p)
  |none=>(dU,d,[]))else match G.lb b o with
  |some (fl,s,z)=>(match φ s z with
   |some z'=>dS (fl,d,z')
   |none=>dS (fl,s,z))
  |none=>dT
 ow b:=if b=B then dS (d,[])else match G.ow b with
  |some (s,z)=>(match φ s z with
   |some z'=>dS (d,z')
   |none=>dS (s,z))
  |none=>dT
theorem zDn{Γ:Ctx}{G:Gh}{w w':World}(hm:Mem Γ G w){cells:Array Value}{e:TypeId}(hw:w'.heap=w.heap.push (.cells cells e))(d:Nat)(xs:List T)
  (src:Nat→Option (Nat×List Nat))(φ:Nat→List Nat→Option (List Nat))(f:Nat→List Nat→Value)(gW:Value)(chg:Chg)
  (gP:yE xs=dU)(hf:∀(i:Nat)(z:List Nat),(f i z).oneCell'=dU)(hh:gW.oneCell'=dU)
  (hφ:∀(i:Nat) u x q(z:List Nat),xs[i]? =dS u→src i=dS (x,q)→φ x (z++q)=dS (z++[i]))
  (ay:∀(i:Nat) u x q,xs[i]? =dS u→src i=dS (x,q)→(∀z,f i z=G.hd x (z++q))∧R Γ.St G w x u q∧zQ u∧x≠d)
  (bE:∀(i:Nat) u,xs[i]? =dS u→src i=dT→ ∀(G2:Gh)(w2:World),(∀z,G2.hd d (z++[i])=f i z)→R Γ.St G2 w2 d u [i])
  (fF:∀(G2:Gh),(∀i z,G2.hd d (z++[i])=f i z)→ ∀(o:Nat)(v:Value),(yA G2 d xs [] 0)[o]? =dS v→cells[o]? =dS v)
  (bU:∀s p,(∀n,(s,n)∉(d,0)::chg)→φ s p=dT)(ho:w'.os=w.os:=by rfl)(hq:w'.output=w.output:=by rfl):
  qN ((d,0)::chg) G w (G.nb d w.heap.size xs src φ f gW) w'∧Mem Γ (G.nb d w.heap.size xs src φ f gW) w'∧
  wV (G.nb d w.heap.size xs src φ f gW) w' d xs [] 0 w.heap.size 0∧RF Γ.St (G.nb d w.heap.size xs src φ f gW) w' d xs [] 0∧
  w'.heap[w.heap.size]? =dS (.cells cells e):=by
 have eg:w'.heap[w.heap.size]? =dS (.cells cells e):=by grind
 have gF:∀b,b<w.heap.size→w'.heap[b]? =w.heap[b]?:=fun b hb=>by rw[hw,Array.getElem?_push];grind
 have gv:w'.heap.size=w.heap.size+1:=by grind
 have eY:∀b o,b<w.heap.size→yH w' b o=yH w b o:=fun b o hb=>by simp[yH,World.cell?,gF b hb]
 have gL:Blk w w':=fun b cs e' h=>⟨cs,by rw[gF b (by grind)];exact h,rfl⟩
 have gp:=hm.one
 generalize gm:G.nb d w.heap.size xs src φ f gW=G'
 have ghd:∀i z,G'.hd d (z++[i])=f i z:=fun i z=>by rw[←gm];simp[Gh.nb]
 have gad:∀g,(T.agg xs).inT g=dU→G'.ad d g.reverse=⟨w.heap.size,(T.agg xs).offT g,dT⟩:=fun g hg=>by rw[←gm];simp[Gh.nb,hg]
 have gadm:∀i x q z,src i=dS (x,q)→(T.agg xs).inT (i::z.reverse)=dV→G'.ad d (z++[i])=G.ad x (z++q):=fun i x q z hs gN=>by rw[←gm];simp[Gh.nb,gN,hs]
 have glb:∀o p,zCC xs [] 0 o=dS p→G'.lb w.heap.size o=dS (dV,d,p):=fun o p h=>by rw[←gm];simp[Gh.nb,h]
 have glbm:∀b o fl x z z',G.lb b o=dS (fl,x,z)→φ x z=dS z'→G'.lb b o=dS (fl,d,z'):=fun b o fl x z z' h1 h2=>by have:=(hm.lb b o _ h1).1;rw[←gm];simp[Gh.nb,h1,h2,show b≠w.heap.size from by omega]
 have gowm:∀b x z z',G.ow b=dS (x,z)→φ x z=dS z'→G'.ow b=dS (d,z'):=fun b x z z' h1 h2=>by have:=(hm.ow b _ h1).1;rw[←gm];simp[Gh.nb,h1,h2,show b≠w.heap.size from by omega]
 have gc:∀s p,Off ((d,0)::chg) s p→s≠d:=fun s p h e=>absurd (h 0 (by simp[e])) (by simp)
 have gy:qN ((d,0)::chg) G w G' w':=by
  refine⟨fun s p h=>?_,fun s p h=>?_,fun b o fl s p _ hl h=>⟨?_,eY b o (hm.lb b o _ hl).1⟩,fun b s p hl h=>?_,gL⟩
  ·rw[←gm];simp[Gh.nb,gc s p h]
  ·rw[←gm];simp[Gh.nb,gc s p h]
  ·have:=(hm.lb b o _ hl).1
   rw[←gm];simp[Gh.nb,hl,bU s p h,show b≠w.heap.size from by omega]
  ·have:=(hm.ow b _ hl).1
   rw[←gm];simp[Gh.nb,hl,bU s p h,show b≠w.heap.size from by omega]
 refine⟨gy,?_,?_,?_,eg⟩
 ·
  have hB:zCA Γ w' w.heap.size:=⟨by omega,.inl hm.sz,by
   cases gJ:Γ.St w.heap.size with
   |none=>rfl
   |some x=>have:=hm.st _ x gJ;simp at this⟩
  have fb:∀b,zCA Γ w b→zCA Γ w' b:=fun b h=>⟨by have:=h.1;omega,h.2⟩
  refine⟨fun s p=>?_,fun b o l hl=>?_,fun b l hl=>?_,fun b x hx=>?_,fun b h1 h2=>?_,by have:=hm.sz;omega,hm.bk.trans gL ho hq⟩
  ·rw[←gm]
   simp only[Gh.nb];split
   ·split
    ·exact hf _ _
    ·exact hh
   ·exact gp s p
  ·rw[←gm]at hl
   simp only[Gh.nb]at hl;split at hl
   ·grind
   ·split at hl
    ·rename_i hg;exact fb b (hm.lb b o _ hg)
    ·cases hl
  ·rw[←gm]at hl
   simp only[Gh.nb]at hl;split at hl
   ·grind
   ·split at hl
    ·rename_i hg;exact fb b (hm.ow b _ hg)
    ·cases hl
  ·have:=hm.st b x hx
   rw[gF b (Hl.1 this).1];exact this
  ·rw[gF b (Qo h1 hm.sz)]
   exact hm.fr b h1 h2
 ·
  refine zGB xs [] 0 w.heap.size 0 gP (fun i x hx g hg=>?_) (fun i p' _ hp=>by simpa using glb i p' hp) (fun i v hv=>?_)
  ·have:=gad (i::g) (by simp only[T.inT,hx];exact hg)
   simpa[T.offT,hx]using this
  ·have:=fF G' ghd i v hv
   rw[Ja];simp[yH,World.cell?,eg,this]
 ·
  refine zOH xs [] 0 (fun i u hu=>?_);rw[Ja];cases hs:src i with
  |none=>exact bE i u hu hs G' w' (fun z=>ghd i z)
  |some xq=>
   obtain⟨x,q⟩:=xq;obtain⟨h1,h2,h3,h4⟩:=ay i u x q hu hs;have gN:∀g,(T.agg xs).inT (i::g)=u.inT g:=fun g=>by simp only[T.inT,hu]
   refine zLd u q [i] (okTups_get xs gP i u hu) ⟨fun z=>by rw[ghd,h1],fun z hz=>gadm i x q z hs (by rw[gN];exact hz),fun b o fl z hz hl=>⟨glbm b o fl x _ _ hl (hφ i u x q z hu hs),eY b o (hm.lb b o _ hl).1⟩,
    fun b z hl=>gowm b x _ _ hl (hφ i u x q z hu hs),gL⟩ (yN.mono (by simp) u h3) h2
where okTups_get:(xs:List T)→yE xs=dU→ ∀(i:Nat)(x:T),xs[i]? =dS x→x.okTup=dU
 | [],_,_,_,h=>by simp at h
 |y::ys,hk,i,x,h=>by
  simp only[yE,J2]at hk;cases i with
  |zero=>grind
  |succ i=>exact okTups_get ys hk.2 i x (by grind)
end Go.Ab

namespace Go.Ab
open Go
inductive yI where
 |slot (s:Nat) (t:T)
 |zero (u:T)
def yI.tree:yI→T
 |.slot _ t=>t
 |.zero u=>u
def tR:T→Bool
 |.lit _|.ro _=>dV
 |_=>dU
mutual
def T.zOk:T→Bool
 |.lit v=>v.oneCell'
 |.sl _ xs=>xs.isEmpty
 |.agg xs=>zAB xs
 |.any|.ro _|.same _ _|.addr _ _|.sub _ _ _ _ _|.ptr _|.tup _=>dV
def zAB:List T→Bool
 | []=>dU
 |x::xs=>x.zOk&&zAB xs
end
def zhd:T→List Nat→Value
 |.agg xs,i::f=>match xs[i]? with
  |some x=>zhd x f
  |none=>.bool dV
 |.lit v,_=>v
 |.sl _ _,_=>.slice dT 0 0
 |.agg _,[] |.any,_|.ro _,_|.same _ _,_|.addr _ _,_|.sub _ _ _ _ _,_|.ptr _,_|.tup _,_=>.bool dV
termination_by structural _ f=>f
mutual
def tL:T→List Value
 |.lit v=>[v]
 |.sl _ _=>[.slice dT 0 0]
 |.agg xs=>sM xs
 |.any|.ro _|.same _ _|.addr _ _|.sub _ _ _ _ _|.ptr _|.tup _=>[]
def sM:List T→List Value
 | []=>[]
 |x::xs=>tL x++sM xs
end
section
variable {St:Stb}{G:Gh}{w:World}{d:Nat}
mutual
theorem zJU:(u:T)→ ∀(p:List Nat),u.zOk=dU→(∀z,G.hd d (z++p)=jZ (zhd u z.reverse))→R St G w d u p
 |.lit v,p,h,hd=>by
  simp only[T.zOk,R]at h ⊢
  have:=hd [];rw[K6]at this;rw[this];exact zAc h
 |.sl k xs,p,h,hd=>by simp only[T.zOk,Qx]at h;subst h;have:=hd [];rw[K6]at this;simp only[R];exact .inl ⟨trivial,dT,by rw[this];rfl⟩
 |.agg xs,p,h,hd=>by
  simp only[T.zOk,R]at h ⊢
  exact zOI xs p 0 h (fun i x hx z=>by
   rw[Ja];have:=hd (z++[i])
   grind[zhd])
 |.any,_,h,_|.ro _,_,h,_|.same _ _,_,h,_|.addr _ _,_,h,_|.sub _ _ _ _ _,_,h,_|.ptr _,_,h,_|.tup _,_,h,_=>by grind[T.zOk]
theorem zOI:(xs:List T)→ ∀(p:List Nat)(j:Nat),zAB xs=dU→(∀i x,xs[i]? =dS x→ ∀z,G.hd d (z++((j+i)::p))=jZ (zhd x z.reverse))→RF St G w d xs p j
 | [],_,_,_,_=>by simp only[RF]
 |x::xs,p,j,h,hd=>by
  simp only[zAB,J2,RF]at h ⊢
  exact⟨zJU x (j::p) h.1 (by simpa using hd 0 x (by simp)),zOI xs p (j+1) h.2 (fun i y hy z=>by
   have:=hd (i+1) y (by grind) z
   grind)⟩
end
end
section
variable {G:Gh}{d:Nat}
mutual
theorem zFs:(u:T)→ ∀(p:List Nat),u.zOk=dU→(∀z,G.hd d (z++p)=jZ (zhd u z.reverse))→vals G d u p=tL u
 |.lit v,p,h,hd=>by
  simp only[T.zOk,vals,tL]at h ⊢
  have:=hd []
  grind[zhd,zAc]
 |.sl k xs,p,h,hd=>by
  have:=hd []
  grind[vals,tL,zhd,jZ,Value.oneCell']
 |.agg xs,p,h,hd=>by
  simp only[T.zOk,vals,tL]at h ⊢
  exact zEe xs p 0 h (fun i x hx z=>by
   rw[Ja];have:=hd (z++[i])
   grind[zhd])
 |.any,_,h,_|.ro _,_,h,_|.same _ _,_,h,_|.addr _ _,_,h,_|.sub _ _ _ _ _,_,h,_|.ptr _,_,h,_|.tup _,_,h,_=>by grind[T.zOk]
theorem zEe:(xs:List T)→ ∀(p:List Nat)(j:Nat),zAB xs=dU→(∀i x,xs[i]? =dS x→ ∀z,G.hd d (z++((j+i)::p))=jZ (zhd x z.reverse))→yA G d xs p j=sM xs
 | [],_,_,_,_=>by rfl
 |x::xs,p,j,h,hd=>by
  simp only[zAB,J2,yA,sM]at h ⊢
  rw[zFs x (j::p) h.1 (by simpa using hd 0 x (by simp)),zEe xs p (j+1) h.2 (fun i y hy z=>by
   have:=hd (i+1) y (by grind) z
   grind)]
end
end
mutual
theorem zBF:(u:T)→u.zOk=dU→zQ u∧u.okTup=dU
 |.lit _,_=>by simp[zQ,yN,T.okTup]
 |.sl _ xs,h=>by simp only[T.zOk,Qx]at h;subst h;simp[zQ,yN,xF,T.okTup]
 |.agg xs,h=>by simp only[T.zOk]at h;simpa only[zQ,yN,T.okTup]using zCg xs h
 |.any,h|.ro _,h|.same _ _,h|.addr _ _,h|.sub _ _ _ _ _,h|.ptr _,h|.tup _,h=>by grind[T.zOk]
theorem zCg:(xs:List T)→zAB xs=dU→yK xs∧yE xs=dU
 | [],_=>by simp[yK,xF,yE]
 |x::xs,h=>by simp only[zAB,J2]at h;simp only[yK,xF,yE,J2];exact⟨⟨(zBF x h.1).1,(zCg xs h.2).1⟩,(zBF x h.1).2,(zCg xs h.2).2⟩
end
mutual
theorem vA:(u:T)→u.zOk=dU→(tL u).length=u.size
 |.lit _,_|.sl _ _,_=>by rfl
 |.agg xs,h=>by simp only[T.zOk]at h;simp only[tL,T.size];exact zBy xs h
 |.any,h|.ro _,h|.same _ _,h|.addr _ _,h|.sub _ _ _ _ _,h|.ptr _,h|.tup _,h=>by grind[T.zOk]
theorem zBy:(xs:List T)→zAB xs=dU→(sM xs).length=T.sizes xs
 | [],_=>by rfl
 |x::xs,h=>by simp only[zAB,J2]at h;simp only[sM,J7,T.sizes,vA x h.1,zBy xs h.2]
end
def zHd(ps:List yI)(i:Nat):Option (Nat×List Nat):=
 match ps[i]? with
 |some (.slot s t)=>if tR t then dS (s,[])else dT
 |_=>dT
def zI1:List yI→Nat→Nat→Option Nat
 | [],_,_=>dT
 |.slot x t::r,i,s=>if tR t&&x==s then dS i else zI1 r (i+1) s
 |.zero _::r,i,s=>zI1 r (i+1) s
def zI2(ps:List yI)(s:Nat)(z:List Nat):Option (List Nat):=
 match zI1 ps 0 s with
 |some i=>dS (z++[i])
 |none=>dT
def pWr(d:Nat):List yI→Nat→Wr
 | [],_=>[]
 |.slot s t::r,i=>if tR t then(s,dS (cpT d t [i]))::pWr d r (i+1)else pWr d r (i+1)
 |.zero _::r,i=>pWr d r (i+1)
def xE:List yI→List Nat
 | []=>[]
 |.slot s t::r=>if tR t then s::xE r else xE r
 |.zero _::r=>xE r
def tO(ps:List yI):Chg:=(xE ps).map fun s=>(s,1)
def sH(G:Gh):yI→List Value
 |.slot s t=>vals G s t []
 |.zero u=>tL u
def pHd(G:Gh)(ps:List yI)(i:Nat)(z:List Nat):Value:=
 match ps[i]? with
 |some (.slot s _)=>G.hd s z
 |some (.zero u)=>jZ (zhd u z.reverse)
 |none=>.bool dV
structure tD (E:Env) (d:Nat) (ps:List yI):Prop where
 slot:∀s t,yI.slot s t∈ps→E s=dS t∧zQ t∧t.okTup=dU
 zero:∀u,yI.zero u∈ps→u.zOk=dU
 dist:(d::xE ps).Nodup
theorem zBG:(ps:List yI)→ ∀(i0 i s:Nat)(t:T),ps[i]? =dS (.slot s t)→tR t=dU→(xE ps).Nodup→zI1 ps i0 s=dS (i0+i)
 | [],_,_,_,_,h,_,_=>by simp at h
 |.slot x u::r,i0,i,s,t,h,hm,hn=>by
  cases i with
  |zero=>simp at h;obtain⟨rfl,rfl⟩:=h;simp[zI1,hm]
  |succ i=>
   simp only[Jan]at h;have gN:s∈xE r:=pSlots_mem r i s t h hm;simp only[zI1]
   by_cases hu:tR u=dU
   ·simp only[xE,hu,if_true,Km]at hn
    have:x≠s:=by grind
    simp only[hu,Bool.true_and,beq_iff_eq,this,if_false];rw[zBG r (i0+1) i s t h hm hn.2]
    grind
   ·simp only[xE,hu]at hn
    simp only[hu,Jaq,Lz,if_false];rw[zBG r (i0+1) i s t h hm (by grind)]
    grind
 |.zero u::r,i0,i,s,t,h,hm,hn=>by
  cases i with
  |zero=>simp at h
  |succ i=>
   simp only[Jan]at h;simp only[zI1];rw[zBG r (i0+1) i s t h hm (by grind[xE])]
   grind
where pSlots_mem:(ps:List yI)→ ∀(i s:Nat)(t:T),ps[i]? =dS (.slot s t)→tR t=dU→s∈xE ps
 | [],_,_,_,h,_=>by simp at h
 |.slot x u::r,i,s,t,h,hm=>by
  cases i with
  |zero=>simp at h;obtain⟨rfl,rfl⟩:=h;simp[xE,hm]
  |succ i=>
   have:=pSlots_mem r i s t (by grind) hm
   grind[xE]
 |.zero u::r,i,s,t,h,hm=>by
  cases i with
  |zero=>simp at h
  |succ i=>simpa only[xE]using pSlots_mem r i s t (by grind) hm
theorem zDo:(ps:List yI)→ ∀(i0 s:Nat),s∉xE ps→zI1 ps i0 s=dT
 | [],_,_,_=>by rfl
 |.slot x u::r,i0,s,h=>by
  simp only[zI1]
  by_cases hu:tR u=dU
  ·simp only[xE,hu,if_true,Jq,not_or]at h
   simp only[hu,Bool.true_and,beq_iff_eq,Ne.symm h.1,if_false];exact zDo r _ s h.2
  ·simp only[xE,hu]at h
   simp only[hu,Jaq,Lz,if_false];exact zDo r _ s (by grind)
 |.zero u::r,i0,s,h=>by simp only[zI1];exact zDo r _ s (by grind[xE])
theorem zCD:(ps:List yI)→ ∀(d i0 s:Nat)(x:Option T),(pWr d ps i0).find s=dS x→ ∃i t,ps[i]? =dS (.slot s t)∧tR t=dU∧x=dS (cpT d t [i0+i])
 | [],_,_,_,_,h=>by grind[pWr,Wr.find]
 |.slot y u::r,d,i0,s,x,h=>by
  simp only[pWr]at h;split at h
  ·rename_i hu
   simp only[Wr.find]at h;split at h
   ·rename_i he;subst he;simp at h;exact⟨0,u,by simp,hu,by grind⟩
   ·obtain⟨i,t,h1,h2,h3⟩:=zCD r d (i0+1) s x h
    exact⟨i+1,t,by grind,h2,by grind⟩
  ·obtain⟨i,t,h1,h2,h3⟩:=zCD r d (i0+1) s x h
   exact⟨i+1,t,by grind,h2,by grind⟩
 |.zero u::r,d,i0,s,x,h=>by simp only[pWr]at h;obtain⟨i,t,h1,h2,h3⟩:=zCD r d (i0+1) s x h;exact⟨i+1,t,by grind,h2,by grind⟩
theorem zCE:(ps:List yI)→ ∀(d i0 s:Nat),(pWr d ps i0).find s=dT→s∉xE ps
 | [],_,_,_,_=>by simp[xE]
 |.slot y u::r,d,i0,s,h=>by
  simp only[pWr]at h;simp only[xE];split at h
  ·rename_i hu
   simp only[Wr.find]at h;split at h
   ·cases h
   ·rename_i gc
    simp only[hu,if_true,Jq,not_or];exact⟨fun e=>gc e.symm,zCE r d _ s h⟩
  ·rename_i hu
   simp only[hu];simpa using zCE r d _ s h
 |.zero u::r,d,i0,s,h=>by simp only[pWr]at h;simpa only[xE]using zCE r d _ s h
section
variable {Γ:Ctx}{E:Env}{G:Gh}{tmps:Array Value}{w:World}{d:Nat}{ps:List yI}
theorem zGc(g9:Rep Γ E G tmps w)(h:tD E d ps):
  yE (ps.map yI.tree)=dU∧yK (ps.map yI.tree)∧(∀i z,(pHd G ps i z).oneCell'=dU)∧
  (∀(i:Nat) u x q(z:List Nat),(ps.map yI.tree)[i]? =dS u→zHd ps i=dS (x,q)→zI2 ps x (z++q)=dS (z++[i]))∧
  (∀(i:Nat) u x q,(ps.map yI.tree)[i]? =dS u→zHd ps i=dS (x,q)→(∀z,pHd G ps i z=G.hd x (z++q))∧R Γ.St G w x u q∧zQ u∧x≠d)∧
  (∀(i:Nat) u,(ps.map yI.tree)[i]? =dS u→zHd ps i=dT→ ∀(G2:Gh)(w2:World),(∀z,G2.hd d (z++[i])=pHd G ps i z)→R Γ.St G2 w2 d u [i])∧
  (∀s p,(∀n,(s,n)∉(d,0)::tO ps)→zI2 ps s p=dT):=by
 have c7:=Km.1 h.dist;refine⟨?_,?_,?_,?_,?_,?_,?_⟩
 ·have:∀qs:List yI,(∀p∈qs,p∈ps)→yE (qs.map yI.tree)=dU:=by
   intro qs
   induction qs with
   |nil=>intro _;rfl
   |cons q qs ih=>
    intro hq;simp only[Jl,yE,J2];refine⟨?_,by grind⟩;cases q with
    |slot s t=>exact(h.slot s t (hq _ (by simp))).2.2
    |zero u=>exact(zBF u (h.zero u (hq _ (by simp)))).2
  grind
 ·have:∀qs:List yI,(∀p∈qs,p∈ps)→yK (qs.map yI.tree):=by
   intro qs
   induction qs with
   |nil=>intro _;trivial
   |cons q qs ih=>
    intro hq;simp only[Jl,yK,xF];refine⟨?_,by grind⟩;cases q with
    |slot s t=>exact(h.slot s t (hq _ (by simp))).2.1
    |zero u=>exact(zBF u (h.zero u (hq _ (by simp)))).1
  grind
 ·intro i z
  unfold pHd;split
  ·exact g9.mem.one _ _
  ·exact zBE _
  ·rfl
 ·intro i u x q z hu hs
  rw[Jm]at hu;unfold zHd at hs;cases hp:ps[i]? with
  |none=>grind
  |some p=>
   cases p with
   |zero v=>grind
   |slot s t=>
    simp only[hp]at hs;split at hs
    ·rename_i hm
     simp at hs;obtain⟨rfl,rfl⟩:=hs;simp[zI2,zBG ps 0 i s t hp hm c7.2]
    ·cases hs
 ·intro i u x q hu hs
  rw[Jm]at hu;unfold zHd at hs;cases hp:ps[i]? with
  |none=>grind
  |some p=>
   cases p with
   |zero v=>grind
   |slot s t=>
    simp only[hp]at hs;split at hs
    ·rename_i hm
     simp at hs;obtain⟨rfl,rfl⟩:=hs;simp[hp,yI.tree]at hu;subst hu;obtain⟨h1,h2,h3⟩:=h.slot s t (by grind);refine⟨by grind[pHd],(g9.ent s t h1).2.1,h2,fun e=>c7.1 ?_⟩
     grind[zBG.pSlots_mem]
    ·cases hs
 ·intro i u hu hs G2 w2 eG
  rw[Jm]at hu;unfold zHd at hs;cases hp:ps[i]? with
  |none=>grind
  |some p=>
   cases p with
   |zero v=>
    simp[hp,yI.tree]at hu;subst hu;exact zJU v [i] (h.zero v (by grind)) (by grind[pHd])
   |slot s t=>
    simp only[hp]at hs;split at hs
    ·cases hs
    ·rename_i hm
     simp[hp,yI.tree]at hu;subst hu;have h1:=(g9.ent s t (h.slot s t (by grind)).1).2.1;have h2:G2.hd d [i]=G.hd s []:=by have:=eG [];grind[pHd]
     cases t<;>simp[tR]at hm<;>simp only[R]at h1 ⊢ <;>rw[h2]<;>exact h1
 ·intro s p gK
  have:s∉xE ps:=fun gN=>gK 1 (by grind[tO])
  grind[zI2,zDo]
theorem zEf(g9:Rep Γ E G tmps w)(h:tD E d ps)(G2:Gh):∀(qs:List yI)(i0:Nat),(∀i q,qs[i]? =dS q→ps[i0+i]? =dS q)→(∀i z,G2.hd d (z++[i])=pHd G ps i z)→
  yA G2 d (qs.map yI.tree) [] i0=qs.flatMap (sH G)
 | [],_,_,_=>by rfl
 |q::qs,i0,hq,eG=>by
  have h0:ps[i0]? =dS q:=by simpa using hq 0 q (by simp)
  have ih:=zEf g9 h G2 qs (i0+1) (fun i p hp=>by rw[show i0+1+i=i0+(i+1)from by omega];simp_all) eG;simp only[Jl,yA,Ln,ih]
  congr 1
  cases q with
  |slot s t=>exact zBp t [] [i0] (by grind[pHd])
  |zero u=>exact zFs u [i0] (h.zero u (by grind)) (by grind[pHd])
end
end Go.Ab

namespace Go.Ab
open Go
section
variable {P:Program}{Γ:Ctx}{E:Env}{o:Oper}{d:Nat}
theorem zIL{G G':Gh}{w':World}{s i:Nat}{t:T}{v:Option Value}(hv:v=dS (mkV G s t []))(gX:∀xs,t≠.tup xs)(hs:∀p,G'.hd s p=G.hd s p)(pF:∀z,G'.hd d (z++[i])=G.hd s z)
  (hr:R Γ.St G' w' d t [i]):Ent Γ G' w' v s (cpT d t [i]):=by
 have hz:∀z,G'.hd s (z++[])=G'.hd d (z++[i]):=fun z=>by rw[Jh,hs,pF]
 refine⟨?_,?_,sV d t [i]⟩
 ·rw[hv,zAP (G:=G') (G':=G') t [i] [] gX hz,zAn G s t [] gX,zCf t [] [i] (fun z=>by rw[pF,Jh])]
 ·exact zDY (G:=G') (G':=G') (fun _=>rfl) t [i] [] hz gX (yN.triv (fun _ _=>⟨rfl,rfl⟩) _) hr
theorem zBH{G:Gh}{a:Act}{w w':World}{ps:List yI}(g9:Rep Γ E G a.tmps w)(h:tD E d ps)(hd:d<Γ.N){cells:Array Value}{e:TypeId}(hw:w'.heap=w.heap.push (.cells cells e))
  (fF:∀(o:Nat)(v:Value),(ps.flatMap (sH G))[o]? =dS v→cells[o]? =dS v)
  (rt:T)(gW:Value)
  (eV:(∃k cap,rt=.sl k (ps.map yI.tree)∧(∀p∈ps,p.tree.size=k)∧gW=.slice (dS ⟨w.heap.size,0,dT⟩) ps.length cap∧ps.length≤cap∧cap≤maxLen∧cells.size=cap*k)∨
   ∃p,ps=[p]∧rt=.ptr p.tree∧gW=.pointer (dS ⟨w.heap.size,0,dT⟩)∧cells.size=p.tree.size)
  (ho:w'.os=w.os:=by rfl)(hq:w'.output=w.output:=by rfl):
  ∃G',Rep Γ (E.app ((d,dS rt)::pWr d ps 0) ((d,0)::tO ps)) G' (a.tmps.setIfInBounds d gW) w':=by
 obtain⟨f1,f0,f2,f3,f4,f5,f6⟩:=zGc g9 h;have hh:gW.oneCell'=dU:=by rcases eV with⟨k,cap,_,_,rfl,_⟩|⟨p,_,_,rfl,_⟩<;>rfl
 have c7:=Km.1 h.dist;obtain⟨g1,g2,g3,g4,g5⟩:=zDn g9.mem hw d (ps.map yI.tree) (zHd ps) (zI2 ps) (pHd G ps) gW (tO ps) f1 f2 hh f3 f4 f5
  (fun G2 eG o v hv=>fF o v (by rw[zEf g9 h G2 ps 0 (fun i q hq=>by simpa using hq) eG]at hv;exact hv)) f6 (ho:=ho) (hq:=hq)
 refine⟨_,wW g9 (by simp) g1 g2 ?_ ?_⟩
 ·intro s hs
  simp only[Wr.find]at hs;split at hs
  ·cases hs
  ·rename_i gc
   have hns:=zCE ps d 0 s hs;refine⟨fun n hn=>?_,by rw[Jc];simp[gc]⟩;simp only[Jq,Qj.injEq,tO,Je]at hn;rcases hn with⟨e1,_⟩|⟨y,hy,e1,_⟩
   ·exact gc e1.symm
   ·exact hns (e1▸hy)
 ·intro s t hs
  simp only[Wr.find]at hs;split at hs
  ·rename_i he
   subst he;simp at hs;subst hs;have cm:(G.nb d w.heap.size (ps.map yI.tree) (zHd ps) (zI2 ps) (pHd G ps) gW).hd d []=gW:=by simp[Gh.nb]
   have how:(G.nb d w.heap.size (ps.map yI.tree) (zHd ps) (zI2 ps) (pHd G ps) gW).ow w.heap.size=dS (d,[]):=by simp[Gh.nb]
   refine⟨?_,?_,?_⟩
   ·rw[Jc]
    rcases eV with⟨k,cap,rfl,_⟩|⟨p,_,rfl,_⟩<;>simp[g9.size,hd,mkV,cm]
   ·rcases eV with⟨k,cap,rfl,hk,h1,h2,h3,h4⟩|⟨p,rfl,rfl,h1,h4⟩
    ·simp only[R]
     rw[cm];refine .inr ⟨w.heap.size,0,cap,cells,e,by simpa using h1,g5,by simpa using h2,h3,by omega,how,?_,zRA _ _ _ _ _ (fun x hx=>?_) g3 g4⟩
     ·intro o ho _
      have gv:T.sizes (ps.map yI.tree)=(ps.map yI.tree).length*k:=wA _ (fun x hx=>by obtain⟨p,hp,rfl⟩:=Je.1 hx;exact hk p hp)
      simp[Gh.nb,zEd (ps.map yI.tree) [] 0 o (by omega)]
     ·obtain⟨p,hp,rfl⟩:=Je.1 hx
      exact hk p hp
    ·simp only[R]
     rw[cm];simp only[Jl,Hw,wV,RF]at g3 g4;exact⟨w.heap.size,cells,e,h1,g5,h4,how,g3.1,g4.1⟩
   ·rcases eV with⟨k,cap,rfl,_⟩|⟨p,rfl,rfl,_⟩
    ·simp only[Top];exact f0
    ·simp only[Top];exact f0.1
  ·rename_i gc
   obtain⟨i,u,h1,h2,h3⟩:=zCD ps d 0 s _ hs;simp only[Ja]at h3;simp at h3;subst h3;obtain⟨h4,h5,h6⟩:=h.slot s u (L7 h1);have gX:∀xs,u≠.tup xs:=by rintro xs rfl;simp[T.okTup]at h6
   have hi:(ps.map yI.tree)[i]? =dS u:=by simp[h1,yI.tree]
   have hr:=zBx _ [] 0 i u g4 hi;simp only[Ja]at hr;refine zIL (G:=G) (by rw[Jc];simp only[gc,if_false];exact(g9.ent s u h4).1) gX (fun p=>?_) (fun z=>?_) hr
   ·simp[Gh.nb,show s≠d from fun e=>gc e.symm]
   ·simp[Gh.nb,pHd,h1]
inductive zAy (E:Env):Operand→yI→Prop where
 |slot (s:Nat) (t:T):zAy E (.tmp s) (.slot s t)
 |zero (v:Value) (u:T) (h:tL u=v.cells.toList):zAy E (.const v) (.zero u)
theorem zAQ{G:Gh}{a:Act}{w:World}{ps:List yI}(g9:Rep Γ E G a.tmps w)(h:tD E d ps){x:Operand}{p:yI}(hp:p∈ps)(hx:zAy E x p):
  (a.eval x).cells.toList=sH G p:=by
 cases hx with
 |slot s t=>
  obtain⟨h1,h2,h3⟩:=h.slot s t hp;obtain⟨h4,_,_⟩:=g9.ent s t h1;rw[xK h4];cases t with
  |agg xs=>simp[mkV,Value.cells,vals,sH]
  |tup xs=>simp[T.okTup]at h3
  |_=>
   have:=g9.mem.one s [];simp only[mkV,vals,sH]
   generalize G.hd s []=v at this
   cases v<;>simp[Value.oneCell',Value.cells]at this ⊢
 |zero v u h=>simp[Act.eval,h,sH]
def vY(E:Env):List Operand→List yI→Prop
 | [],[]=>True
 |x::xs,p::ps=>zAy E x p∧vY E xs ps
 |_,_=>False
theorem vY.length:(xs:List Operand)→(ps:List yI)→vY E xs ps→xs.length=ps.length
 | [],[],_=>rfl
 |_::xs,_::ps,h=>by simp[vY.length xs ps h.2]
 | [],_::_,h=>by simp[vY]at h
 |_::_,[],h=>by simp[vY]at h
theorem vY.mem:(xs:List Operand)→(ps:List yI)→vY E xs ps→ ∀x∈xs,∃p,p∈ps∧zAy E x p
 | [],_,_,x,hx=>by simp at hx
 |y::xs,p::ps,h,x,hx=>by
  rcases Jq.1 hx with rfl|hx
  ·exact⟨p,by simp,h.1⟩
  ·obtain⟨q,hq,hxq⟩:=vY.mem xs ps h.2 x hx;exact⟨q,by simp[hq],hxq⟩
 |_::_,[],h,_,_=>by simp[vY]at h
theorem zHe{G:Gh}{a:Act}{w:World}{ps:List yI}(g9:Rep Γ E G a.tmps w)(h:tD E d ps):∀(xs:List Operand)(qs:List yI),(∀q∈qs,q∈ps)→vY E xs qs→
  ((xs.map a.eval).flatMap fun v=>v.cells.toList)=qs.flatMap (sH G)
 | [],[],_,_=>rfl
 |x::xs,q::qs,hq,hx=>by simp only[Jl,Ln,zAQ g9 h (hq q (by simp)) hx.1,zHe g9 h xs qs (fun p hp=>hq p (by simp[hp])) hx.2]
 | [],_::_,_,hx=>by simp[vY]at hx
 |_::_,[],_,hx=>by simp[vY]at hx
theorem zRB(T':TypeId)(ti:TypeInfo)(z:Value)(u:T)(ho:o.op=.alloc T')(gf:o.dst=dS d)(hd:d<Γ.N)
  (hi:P.info? T'=dS ti)(hz:ti.zero=dS z)(hu:u.zOk=dU)(hv:tL u=z.cells.toList)(gv:z.cells.size=u.size):
  xM P Γ o E (E.app [(d,dS (.ptr u))] [(d,0)]):=by
 refine xM.value gf fun a w G g9=>?_
 have gT:tD E d [.zero u]:=⟨fun s t h=>by simp at h,fun v h=>by simp at h;subst h;exact hu,by simp[xE]⟩;obtain⟨G',gm⟩:=zBH (w':=w.alloc (.cells z.cells T')) g9 gT hd (cells:=z.cells) (e:=T') rfl (fun o v h=>by simpa[hv,sH]using h) (.ptr u) (.pointer (dS ⟨w.heap.size,0,dT⟩)) (.inr ⟨.zero u,rfl,rfl,rfl,gv⟩);refine⟨_,_,?_,G',by simpa[pWr,tO,xE]using gm⟩;simp[execOp,ho,Instr.alloc,zeroValue,typeInfo,hi,hz,newVar,newRow]
theorem zYo(T':TypeId)(x:Operand)(p:yI)(ho:o.op=.box T' x)(gf:o.dst=dS d)(hd:d<Γ.N)(hx:zAy E x p)(gT:tD E d [p]):
  xM P Γ o E (E.app ((d,dS (.ptr p.tree))::pWr d [p] 0) ((d,0)::tO [p])):=by
 refine xM.value gf fun a w G g9=>?_
 have hc:=zAQ g9 gT (by simp) hx;have gv:(a.eval x).cells.size=p.tree.size:=by
  rw[←K7,hc];cases p with
  |slot s t=>
   obtain⟨_,_,h3⟩:=gT.slot s t (by simp);show(vals G s t []).length=t.size;exact wR t [] (by rintro xs rfl;simp[T.okTup]at h3)
  |zero u=>exact vA u (gT.zero u (by simp))
 obtain⟨G',gm⟩:=zBH (w':=w.alloc (.cells (a.eval x).cells T')) g9 gT hd (cells:=(a.eval x).cells) (e:=T') rfl (fun o v h=>by rw[←Kf,hc];simpa using h) (.ptr p.tree) (.pointer (dS ⟨w.heap.size,0,dT⟩)) (.inr ⟨p,rfl,rfl,rfl,gv⟩)
 refine⟨_,_,?_,G',gm⟩;simp[execOp,ho,Instr.box,newVar,newRow]
theorem zI3(t e:TypeId)(ti:TypeInfo)(z:Value)(k n:Nat)(xs:List Operand)(ps:List yI)(ho:o.op=.buildSlice t n ((xs.zipIdx 0).map fun x=>(x.2,x.1)).toArray)(gf:o.dst=dS d)(hd:d<Γ.N)
  (ht:P.underlying t=dS (.slice e))(hi:P.info? e=dS ti)(hz:ti.zero=dS z)(hk:ti.size=k)(eB:0<k)(hn:xs.length=n)(m9:0<n)(hsm:n*k≤2 ^ 24)
  (hx:vY E xs ps)(gT:tD E d ps)(gv:∀p∈ps,p.tree.size=k):
  xM P Γ o E (E.app ((d,dS (.sl k (ps.map yI.tree)))::pWr d ps 0) ((d,0)::tO ps)):=by
 refine xM.value gf fun a w G g9=>?_
 subst hk;have gk:xs.length=ps.length:=vY.length xs ps hx;have hc:=zHe g9 gT xs ps (fun _ h=>h) hx;have cP:∀v∈xs.map a.eval,v.cells.size=ti.size:=by
  intro v hv;obtain⟨x,mD,rfl⟩:=Je.1 hv;obtain⟨p,hp,hxp⟩:=vY.mem xs ps hx x mD;rw[←K7,zAQ g9 gT hp hxp,←gv p hp];cases p with
  |slot s t=>
   obtain⟨_,_,h3⟩:=gT.slot s t hp;show(vals G s t []).length=t.size;exact wR t [] (by rintro xs rfl;simp[T.okTup]at h3)
  |zero u=>exact vA u (gT.zero u hp)
 have bO:=Great.fill_whole eB (xs.map a.eval) ((Jak (n*ti.size)).map (z.cells[· %z.cells.size]!)) cP (by simp[hn]);have pZ:((((xs.zipIdx 0).map fun x=>(x.2,x.1)).toArray).map fun(i,x)=>(i,a.eval x)).toList=((xs.map a.eval).zipIdx 0).map fun x=>(x.2,x.1):=by simp[List.zipIdx_map,Function.comp_def]
 have gA:=run_buildSlice (P:=P) w t e n _ _ ti z ht hi hz (by omega) (by have:=Nat.mul_pos m9 eB;omega) (by rw[pZ];exact bO);have gQ:((xs.map a.eval).flatMap fun v=>v.cells.toList).toArray.size=n*ti.size:=by rw[Ja5,zEY (k:=ti.size) _ (fun v hv=>by rw[K7];exact cP v hv)];simp[hn]
 obtain⟨G',gm⟩:=zBH (w':=w.alloc (.cells ((xs.map a.eval).flatMap fun v=>v.cells.toList).toArray e)) g9 gT hd rfl (fun o v h=>by rw[hc];simpa using h) (.sl ti.size (ps.map yI.tree)) (.slice (dS ⟨w.heap.size,0,dT⟩) n n) (.inl ⟨ti.size,n,rfl,gv,by rw[←gk,hn],by omega,by have:n≤n*ti.size:=Jah n eB;simp only[maxLen];omega,gQ⟩)
 refine⟨_,_,?_,G',gm⟩;simp only[execOp,ho,Sem.run_bind,gA,Result.andThen_ok];rfl
where
 zEY {k:Nat} (vs:List Value) (h:∀v∈vs,v.cells.toList.length=k):(vs.flatMap fun v=>v.cells.toList).length=vs.length*k:=by
  induction vs with
  |nil=>simp
  |cons v vs ih=>simp[Ln,ih (fun u hu=>h u (by simp[hu])),L8];have:=h v (by simp);simp at this;omega
end
end Go.Ab

namespace Go.Ab
open Go
theorem zJV{α β:Type}(f:α→List β)(x:α)(k:Nat)(hk:(f x).length=k)(eB:0<k):∀(n o:Nat)(v:β),((J1 n x).flatMap f)[o]? =dS v→o<n*k∧(f x)[o%k]? =dS v
 |0,o,v,h=>by simp at h
 |n+1,o,v,h=>by
  rw[Kt,Ln,Kd]at h;split at h
  ·grind[Nat.mod_eq_of_lt]
  ·rename_i hge
   rw[hk]at h hge;obtain⟨h1,h2⟩:=zJV f x k hk eB n (o-k) v h
   grind[Nat.mod_eq_sub_mod]
section
variable {P:Program}{Γ:Ctx}{E:Env}{o:Oper}{d:Nat}
theorem zVl(t e:TypeId)(ti:TypeInfo)(z:Value)(u:T)(k:Nat)(x y:Operand)(n c:Nat)(kl kc:IntKind)(ho:o.op=.makeSlice t x y)(gf:o.dst=dS d)(hd:d<Γ.N)
  (ht:P.underlying t=dS (.slice e))(hi:P.info? e=dS ti)(hz:ti.zero=dS z)(hk:ti.size=k)(eB:0<k)(hu:u.zOk=dU)(hv:tL u=z.cells.toList)(fo:u.size=k)(hb:ti.bytes≤4096)
  (hx:opT E x=dS (.lit (.int kl n)))(hy:opT E y=dS (.lit (.int kc c)))(mN:n≤c)(hc:c≤68719476736):
  xM P Γ o E (E.app [(d,dS (.sl k (J1 n u)))] [(d,0)]):=by
 refine xM.value gf fun a w G g9=>?_
 have h1:=(yP g9 hx).1;have h2:=(yP g9 hy).1;subst hk;have gT:tD E d (J1 n (.zero u)):=⟨by simp,by grind,by
  have:∀m,xE (J1 m (.zero u))=[]:=by intro m;induction m with|zero=>rfl|succ m ih=>grind[xE]
  simp[this]⟩
 have mC:z.cells.size=ti.size:=by grind[vA]
 have mo:(ti.bytes:Int)*(c:Int)≤281474976710656:=by have:ti.bytes*c≤4096*68719476736:=Jy hb hc;omega
 have gA:=run_make (P:=P) w t e ti z ht hi hz kl kc n c (by omega) (by omega) mo (by omega);simp only[J8]at gA;obtain⟨G',gm⟩:=zBH (w':=w.alloc (.cells (madeCells z.cells (c*ti.size)) e)) g9 gT hd rfl (fun i v h=>by
  obtain⟨h3,h4⟩:=zJV (sH G) (.zero u) ti.size (by grind[sH]) eB n i v h
  grind[Qo,Kz,sH,madeCells]) (.sl ti.size (J1 n u)) (.slice (dS ⟨w.heap.size,0,dT⟩) n c)
  (.inl ⟨ti.size,c,by simp[yI.tree],fun p hp=>by simp at hp;obtain⟨_,rfl⟩:=hp;exact fo,by simp,by grind,by grind[maxLen],by simp[madeCells]⟩)
 refine⟨.slice (dS ⟨w.heap.size,0,dT⟩) n c,w.alloc (.cells (madeCells z.cells (c*ti.size)) e),?_,G',?_⟩
 ·simp only[execOp,ho,h1,h2,Sem.run_bind,gA,Result.andThen_ok]
  rfl
 ·have h6:∀m i,pWr d (J1 m (.zero u)) i=[]:=by intro m;induction m with|zero=>intro i;rfl|succ m ih=>grind[pWr]
  have h7:tO (J1 n (.zero u))=[]:=by
   have:∀m,xE (J1 m (.zero u))=[]:=by intro m;induction m with|zero=>rfl|succ m ih=>grind[xE]
   grind[tO]
  grind
theorem zHf(t e:TypeId)(ti:TypeInfo)(k:Nat)(ho:o.op=.buildSlice t 0 #[])(gf:o.dst=dS d)(hd:d<Γ.N)
  (ht:P.underlying t=dS (.slice e))(hi:P.info? e=dS ti):xM P Γ o E (E.app [(d,dS (.sl k []))] [(d,0)]):=by
 refine xM.value gf fun a w G g9=>?_
 have gT:tD E d []:=⟨by simp,by simp,by simp[xE]⟩;obtain⟨G',gm⟩:=zBH (w':=w.alloc (.cells #[] e)) g9 gT hd (cells:=#[]) rfl (by simp) (.sl k []) (.slice (dS ⟨w.heap.size,0,dT⟩) 0 0)
  (by simp)
 refine⟨_,_,?_,G',gm⟩;have h0:(Jak 0:Array Nat)= #[]:=by rfl
 simp[execOp,ho,Instr.buildSlice,run_underlying ht,sizeOf,typeInfo,hi,Instr.fill,newRow,h0]
theorem zLe(k:Nat)(x:Operand)(ho:o.op=.move x∨o.op=.assign x)(hx:x=.const (.slice dT 0 0))(gf:o.dst=dS d)(hd:d<Γ.N):xM P Γ o E (E.app [(d,dS (.sl k []))] [(d,0)]):=by
 refine xM.value gf fun a w G g9=>?_
 refine⟨.slice dT 0 0,w,?_,_,wI g9 rfl hd (fun _=>.slice dT 0 0) (fun _=>rfl) (.sl k []) (.slice dT 0 0) (by simp[mkV,Gh.put]) (by simp[R,Gh.put]) (by simp[Top,yK,xF])⟩;subst hx;rcases ho with ho|ho<;>simp[execOp,ho,Act.eval]
def Gh.nv(G:Gh)(d:Nat)(src:Nat→Option (Nat×List Nat))(φ:Nat→List Nat→Option (List Nat))(f:Nat→List Nat→Value):Gh where
 hd s z:=if s=d then(match z.getLast? with
  |some i=>f i z.dropLast
  |none=>.bool dV)else G.hd s z
 ad s z:=if s=d then(match z.getLast? with
  |some i=>(match src i with
   |some (x,q)=>G.ad x (z.dropLast++q)
   |none=>default)
  |none=>default)else G.ad s z
 lb b o:=match G.lb b o with
  |some (fl,s,z)=>(match φ s z with
   |some z'=>dS (fl,d,z')
   |none=>dS (fl,s,z))
  |none=>dT
 ow b:=match G.ow b with
  |some (s,z)=>(match φ s z with
   |some z'=>dS (d,z')
   |none=>dS (s,z))
  |none=>dT
theorem zVm{G:Gh}{a:Act}{w:World}{ps:List yI}(g9:Rep Γ E G a.tmps w)(h:tD E d ps)(hd:d<Γ.N):
  ∃G',Rep Γ (E.app ((d,dS (.agg (ps.map yI.tree)))::pWr d ps 0) ((d,0)::tO ps)) G' (a.tmps.setIfInBounds d (.agg (ps.flatMap (sH G)).toArray)) w:=by
 obtain⟨f1,f0,f2,f3,f4,f5,f6⟩:=zGc g9 h;have hm:=g9.mem;have gL:Blk w w:=fun b cs e' h=>⟨cs,h,rfl⟩
 generalize gm:G.nv d (zHd ps) (zI2 ps) (pHd G ps)=G'
 have ghd:∀i z,G'.hd d (z++[i])=pHd G ps i z:=by grind[Gh.nv]
 have ghd':∀s z,s≠d→G'.hd s z=G.hd s z:=by grind[Gh.nv]
 have glbm:∀b o fl x z z',G.lb b o=dS (fl,x,z)→zI2 ps x z=dS z'→G'.lb b o=dS (fl,d,z'):=by grind[Gh.nv]
 have gowm:∀b x z z',G.ow b=dS (x,z)→zI2 ps x z=dS z'→G'.ow b=dS (d,z'):=by grind[Gh.nv]
 have gc:∀s p,Off ((d,0)::tO ps) s p→s≠d:=fun s p h e=>absurd (h 0 (by simp[e])) (by simp)
 have gy:qN ((d,0)::tO ps) G w G' w:=by
  refine⟨by grind,fun s p h=>?_,fun b o fl s p _ hl h=>⟨?_,rfl⟩,fun b s p hl h=>?_,gL⟩
  ·grind[Gh.nv]
  all_goals grind[Gh.nv]
 have gu:Mem Γ G' w:=by
  refine⟨fun s p=>?_,fun b o l hl=>?_,fun b l hl=>?_,hm.st,hm.fr,hm.sz,hm.bk⟩
  ·rw[←gm]
   simp only[Gh.nv];split
   ·split
    ·grind
    ·rfl
   ·exact hm.one s p
  ·rw[←gm]at hl
   simp only[Gh.nv]at hl;split at hl
   ·rename_i hg;exact hm.lb b o _ hg
   ·cases hl
  ·rw[←gm]at hl
   simp only[Gh.nv]at hl;split at hl
   ·rename_i hg;exact hm.ow b _ hg
   ·cases hl
 have g4:RF Γ.St G' w d (ps.map yI.tree) [] 0:=by
  refine zOH _ [] 0 (fun i u hu=>?_);rw[Ja];cases hs:zHd ps i with
  |none=>grind
  |some xq=>
   obtain⟨x,q⟩:=xq;obtain⟨h1,h2,h3,h4⟩:=f4 i u x q hu hs;refine zLd u q [i] (zDn.okTups_get _ f1 i u hu) ⟨by grind,by grind[Gh.nv],by grind,
    by grind,gL⟩ (by grind[yN.mono]) h2
 refine⟨G',wW g9 (by simp) gy gu ?_ ?_⟩
 ·grind[Wr.find,zCE,tO]
 ·intro s t hs
  simp only[Wr.find]at hs;split at hs
  ·rename_i he
   subst he;simp at hs;subst hs;refine⟨?_,by simpa only[R]using g4,by simp only[Top];exact uB.of_clean _ f0⟩;rw[Jc];simp only[g9.size,hd,mkV,if_true];rw[zEf g9 h G' ps 0 (by simp) ghd]
  ·rename_i gc
   obtain⟨i,u,h1,h2,h3⟩:=zCD ps d 0 s _ hs;simp only[Ja]at h3;simp at h3;subst h3;obtain⟨h4,h5,h6⟩:=h.slot s u (by grind);have gX:∀xs,u≠.tup xs:=by rintro xs rfl;grind[T.okTup]
   have hi:(ps.map yI.tree)[i]? =dS u:=by simp[h1,yI.tree]
   have hr:=zBx _ [] 0 i u g4 hi;simp only[Ja]at hr;refine zIL (G:=G) (by rw[Jc];simp only[gc,if_false];exact(g9.ent s u h4).1) gX (by grind) (fun z=>?_) hr
   grind[pHd]
theorem zOJ(off:Nat):∀(vs:List Value)(i:Nat)(cs:Array Value)(k:Nat),off+i+vs.length≤cs.size→
  ((vs.zipIdx i).foldl (fun cs(x:Value×Nat)=>cs.setIfInBounds (off+x.2) x.1) cs)[k]? =if off+i≤k∧k<off+i+vs.length then vs[k-(off+i)]? else cs[k]?
 | [],i,cs,k,_=>by simp;omega
 |v::vs,i,cs,k,h=>by
  simp only[Jj]at h;simp only[List.zipIdx_cons,List.foldl_cons];rw[zOJ off vs (i+1) _ k (by simp;omega)]
  grind
theorem zHg{pv:yI→List Value}(place:Nat→Option (Nat×Nat)):∀(vs:List (Nat×Value))(qs:List (Nat×yI))(ps:List yI)(cs:Array Value),cs.toList=ps.flatMap pv→
  (∀i p,ps[i]? =dS p→place i=dS (((ps.take i).flatMap pv).length,(pv p).length))→
  vs.map (·.1)=qs.map (·.1)→(∀(j:Nat)(v:Nat×Value)(q:Nat×yI),vs[j]? =dS v→qs[j]? =dS q→v.2.cells.toList=pv q.2∧ ∃p,ps[q.1]? =dS p∧(pv p).length=(pv q.2).length)→
  ∃cs',Instr.fill place cs vs=dS cs'∧cs'.toList=(qs.foldl (fun ps q=>ps.set q.1 q.2) ps).flatMap pv
 | [],[],ps,cs,gZ,_,_,_=>⟨cs,rfl,gZ⟩
 | [],_::_,_,_,_,_,h,_=>by simp at h
 |_::_,[],_,_,_,_,h,_=>by simp at h
 |(i,v)::vs,(i',q)::qs,ps,cs,gZ,cu,hi,hq=>by
  simp only[Jl,Jaj.injEq]at hi;obtain⟨di,hi⟩:=hi;subst di;obtain⟨h1,p,h2,h3⟩:=hq 0 (i,v) (i,q) rfl rfl;dsimp only at h1 h2 h3;have aT:=cu i p h2;have gE:=(J9.1 h2).1;have pS:ps=ps.take i++p::ps.drop (i+1):=by grind[Ga,List.take_append_drop]
  have gx:ps.set i q=ps.take i++q::ps.drop (i+1):=by grind
  have eM:v.cells.size=(pv p).length:=by grind
  have gI:cs.size=((ps.take i).flatMap pv).length+((pv p).length+((ps.drop (i+1)).flatMap pv).length):=by grind[K7]
  have eg:(v.cells.zipIdx.foldl (fun cs(x:Value×Nat)=>cs.setIfInBounds (((ps.take i).flatMap pv).length+x.2) x.1) cs).toList=(ps.set i q).flatMap pv:=by
   rw[gx];simp only[Jao,Ln,←h1];apply L9;intro k;rw[←Array.foldl_toList,Kf,show v.cells.zipIdx.toList=v.cells.toList.zipIdx 0 from by simp,zOJ _ _ 0 cs k (by grind)];have dy:cs.toList=((ps.take i).flatMap pv)++(pv p++(ps.drop (i+1)).flatMap pv):=by grind
   have hvl2:v.cells.toList.length=(pv p).length:=by rw[h1,h3]
   rw[←Kf,dy]
   grind
  have aU:∀j p',(ps.set i q)[j]? =dS p'→place j=dS ((((ps.set i q).take j).flatMap pv).length,(pv p').length):=by
   intro j p' fT;have fR:(((ps.set i q).take j).flatMap pv).length=((ps.take j).flatMap pv).length:=by
    rw[gx]
    conv=>rhs;rw[pS]
    by_cases hj:j≤i
    ·grind
    ·rw[Qv,Qv]
     simp only[Jao,J7]
     congr 1
     have:j-(ps.take i).length=(j-(ps.take i).length-1)+1:=by simp;omega
     grind
   grind
  have hq':∀(j:Nat)(x:Nat×Value)(y:Nat×yI),vs[j]? =dS x→qs[j]? =dS y→x.2.cells.toList=pv y.2∧ ∃p,(ps.set i q)[y.1]? =dS p∧(pv p).length=(pv y.2).length:=by
   intro j x y hx hy;obtain⟨h6,p',h7,h8⟩:=hq (j+1) x y (by grind) (by grind)
   grind
  obtain⟨cs',h4,h5⟩:=zHg place vs qs (ps.set i q) _ eg aU hi hq'
  grind[Instr.fill]
theorem vP{t:TypeId}{it:TypeInfo}{fields:Array Field}{z:Value}{places:List (Nat×Nat)}(hi:P.info? t=dS it)(hu:P.underlying t=dS (.struct fields))(hz:it.zero=dS z)
  (hp:fields.toList.mapM (fun f=>(P.info? f.type).map fun i=>(f.offset,i.size))=dS places)(parts:List (Nat×Value)):P.built t parts=Instr.fill (places.toArray[·]?) z.cells parts:=by
 grind[Program.built]
theorem zLf{t e:TypeId}{n:Nat}{it ie:TypeInfo}{z:Value}(hi:P.info? t=dS it)(hu:P.underlying t=dS (.array n e))(hz:it.zero=dS z)
  (he:P.info? e=dS ie)(parts:List (Nat×Value)):P.built t parts=Instr.fill (fun i=>dS (i*ie.size,ie.size)) z.cells parts:=by
 grind[Program.built]
theorem zFt{G:Gh}:(zs:List T)→(zs.map yI.zero).flatMap (sH G)=sM zs
 | []=>rfl
 |z::zs=>by simp[sH,sM,←zFt (G:=G) zs]
theorem zRC(t:TypeId)(place:Nat→Option (Nat×Nat))(z:Value)(zs:List T)(pl:List (Nat×Operand))(qs:List (Nat×yI))(ps:List yI)(ho:o.op=.build t pl.toArray)(gf:o.dst=dS d)(hd:d<Γ.N)
  (hb:∀parts,P.built t parts=Instr.fill place z.cells parts)(hzv:sM zs=z.cells.toList)(hz:zAB zs=dU)(cu:∀i u,zs[i]? =dS u→place i=dS (T.sizes (zs.take i),u.size))
  (gT:qs.foldl (fun ps q=>ps.set q.1 q.2) (zs.map yI.zero)=ps)(gP:tD E d ps)(hix:pl.map (·.1)=qs.map (·.1))
  (hq:∀(j:Nat)(x:Nat×Operand)(q:Nat×yI),pl[j]? =dS x→qs[j]? =dS q→zAy E x.2 q.2∧q.2∈ps∧ ∃u,zs[q.1]? =dS u∧u.size=q.2.tree.size):
  xM P Γ o E (E.app ((d,dS (.agg (ps.map yI.tree)))::pWr d ps 0) ((d,0)::tO ps)):=by
 refine xM.value gf fun a w G g9=>?_
 obtain⟨G',gm⟩:=zVm g9 gP hd;have gv:∀(us:List T),zAB us=dU→((us.map yI.zero).flatMap (sH G)).length=T.sizes us:=by grind[zFt,zBy]
 obtain⟨cs',h1,h2⟩:=zHg (pv:=sH G) place (pl.map fun x=>(x.1,a.eval x.2)) qs (zs.map yI.zero) z.cells (by rw[zFt,hzv]) (fun i p hp=>by
   rw[Jm]at hp;cases hu:zs[i]? with
   |none=>grind
   |some u=>
    simp[hu]at hp;subst hp;rw[cu i u hu,←Ua,gv _ (zOks_take zs i hz),sH,vA u (zOks_get zs hz i u hu)])
  (by grind[Function.comp_def]) (fun j v q hv hqj=>by
   rw[Jm]at hv;cases hx:pl[j]? with
   |none=>grind
   |some x=>
    simp[hx]at hv;subst hv;obtain⟨h3,h4,u,h5,h6⟩:=hq j x q hx hqj;refine⟨zAQ g9 gP h4 h3,.zero u,by simp[h5],?_⟩;rw[sH,vA u (zOks_get zs hz _ u h5),h6];cases pt:q.2 with
    |slot s t=>
     rw[pt]at h4;obtain⟨_,_,h7⟩:=gP.slot s t h4;exact(wR t [] (by rintro xs rfl;grind[T.okTup])).symm
    |zero u'=>
     rw[pt]at h4;exact(vA u' (gP.zero u' h4)).symm)
 rw[gT]at h2;have h3:cs'=(ps.flatMap (sH G)).toArray:=by rw[←h2]
 refine⟨_,w,?_,G',gm⟩;have gA:=run_build (P:=P) w t (pl.map fun x=>(x.1,a.eval x.2)).toArray cs' (by grind);simp only[List.map_toArray,execOp,ho,Sem.run_bind]at gA ⊢
 simp_all
where
 zOks_get:(xs:List T)→zAB xs=dU→ ∀(i:Nat)(x:T),xs[i]? =dS x→x.zOk=dU
  | [],_,_,_,h=>by simp at h
  |y::ys,hk,i,x,h=>by
   simp only[zAB,J2]at hk;cases i with
   |zero=>grind
   |succ i=>exact zOks_get ys hk.2 i x (by grind)
 zOks_take:(xs:List T)→ ∀i,zAB xs=dU→zAB (xs.take i)=dU
  | [],i,_=>by simp[zAB]
  |y::ys,0,_=>by simp[zAB]
  |y::ys,i+1,hk=>by
   simp only[zAB,J2,Lj]at hk ⊢
   exact⟨hk.1,zOks_take ys i hk.2⟩
end
end Go.Ab

namespace Go.Ab
open Go
mutual
def wX:T→T→Bool
 |.agg xs,.agg ys=>zAd xs ys
 |.agg _,_=>dV
 |.tup _,_=>dV
 |_,.agg _=>dV
 |_,.tup _=>dV
 |.any,_|.lit _,_|.ro _,_|.same _ _,_|.addr _ _,_|.sub _ _ _ _ _,_|.sl _ _,_|.ptr _,_=>dU
def zAd:List T→List T→Bool
 | [],[]=>dU
 |x::xs,y::ys=>wX x y&&zAd xs ys
 | [],_::_=>dV
 |_::_,[]=>dV
end
mutual
theorem zCF:(x y:T)→wX x y=dU→x.size=y.size
 |.agg xs,.agg ys,h=>by simp only[wX]at h;simp only[T.size];exact zE7 xs ys h
 |.agg _,.any,h|.agg _,.lit _,h|.agg _,.ro _,h|.agg _,.same _ _,h|.agg _,.addr _ _,h|.agg _,.sub _ _ _ _ _,h|.agg _,.sl _ _,h|.agg _,.ptr _,h|.agg _,.tup _,h=>by grind[wX]
 |.tup _,_,h=>by grind[wX]
 |.any,y,h|.lit _,y,h|.ro _,y,h|.same _ _,y,h|.addr _ _,y,h|.sub _ _ _ _ _,y,h|.sl _ _,y,h|.ptr _,y,h=>by cases y<;>simp[wX]at h<;>simp[T.size]
theorem zE7:(xs ys:List T)→zAd xs ys=dU→T.sizes xs=T.sizes ys
 | [],[],_=>rfl
 |x::xs,y::ys,h=>by simp only[zAd,J2]at h;simp only[T.sizes,zCF x y h.1,zE7 xs ys h.2]
 | [],_::_,h=>by grind[zAd]
 |_::_,[],h=>by grind[zAd]
end
section
variable {G:Gh}{w:World}{s:Nat}
mutual
theorem zJW:(t:T)→ ∀(p:List Nat)(b o j:Nat),Loc G w s t p b o→j<t.size→ ∃y,G.lb b (o+j)=dS (dV,s,y++p)
 |.agg xs,p,b,o,j,h,hj=>by simp only[Loc,T.size]at h hj;exact zOK xs p 0 b o j h.2 hj
 |.any,p,b,o,j,h,hj|.lit _,p,b,o,j,h,hj|.ro _,p,b,o,j,h,hj|.same _ _,p,b,o,j,h,hj|.addr _ _,p,b,o,j,h,hj|.sub _ _ _ _ _,p,b,o,j,h,hj|.sl _ _,p,b,o,j,h,hj|.ptr _,p,b,o,j,h,hj=>by
  simp only[Loc,T.size]at h hj
  simp_all
 |.tup _,_,_,_,_,h,_=>by simp only[Loc]at h
theorem zOK:(xs:List T)→ ∀(p:List Nat)(i b o j:Nat),wV G w s xs p i b o→j<T.sizes xs→ ∃y,G.lb b (o+j)=dS (dV,s,y++p)
 | [],_,_,_,_,_,_,hj=>by grind[T.sizes]
 |x::xs,p,i,b,o,j,h,hj=>by
  simp only[wV,T.sizes]at h hj
  by_cases gE:j<x.size
  ·obtain⟨y,hy⟩:=zJW x (i::p) b o j h.1 gE
   exact⟨y++[i],by grind⟩
  ·obtain⟨y,hy⟩:=zOK xs p (i+1) b (o+x.size) (j-x.size) h.2 (by omega)
   grind
end
mutual
theorem zRD{G':Gh}{w':World}:(u u0:T)→ ∀(p:List Nat)(b o:Nat),wX u u0=dU→(∀y,u.inT y.reverse=dU→G'.ad s (y++p)=G.ad s (y++p))→
  (∀b o y,G.lb b o=dS (dV,s,y++p)→G'.lb b o=dS (dV,s,y++p))→(∀j v,(vals G' s u p)[j]? =dS v→yH w' b (o+j)=dS v)→Loc G w s u0 p b o→Loc G' w' s u p b o
 |.agg xs,.agg ys,p,b,o,h,ha,hl,hc,h0=>by
  simp only[Loc,wX]at h h0 ⊢
  refine⟨by have:=ha [] rfl;grind,zOL xs ys p 0 b o h (fun i x hx y hy=>?_) (by omega) (by grind[vals]) h0.2⟩
  grind[Hy,T.inT]
 |.agg _,.any,_,_,_,h,_,_,_,_|.agg _,.lit _,_,_,_,h,_,_,_,_|.agg _,.ro _,_,_,_,h,_,_,_,_|.agg _,.same _ _,_,_,_,h,_,_,_,_|.agg _,.addr _ _,_,_,_,h,_,_,_,_|.agg _,.sub _ _ _ _ _,_,_,_,h,_,_,_,_|.agg _,.sl _ _,_,_,_,h,_,_,_,_|.agg _,.ptr _,_,_,_,h,_,_,_,_|.agg _,.tup _,_,_,_,h,_,_,_,_=>by grind[wX]
 |.tup _,_,_,_,_,h,_,_,_,_=>by grind[wX]
 |.any,u0,p,b,o,h,ha,hl,hc,h0|.lit _,u0,p,b,o,h,ha,hl,hc,h0|.ro _,u0,p,b,o,h,ha,hl,hc,h0|.same _ _,u0,p,b,o,h,ha,hl,hc,h0|.addr _ _,u0,p,b,o,h,ha,hl,hc,h0|.sub _ _ _ _ _,u0,p,b,o,h,ha,hl,hc,h0|.sl _ _,u0,p,b,o,h,ha,hl,hc,h0|.ptr _,u0,p,b,o,h,ha,hl,hc,h0=>by have h1:=wJ (by cases u0<;>simp[wX]at h<;>rfl) h0;have h2:=ha [] rfl;rw[K6]at h2;simp only[Loc];exact⟨h2.trans h1.1,by simp_all,by simpa using hc 0 (G'.hd s p) (by simp[vals])⟩
theorem zOL{G':Gh}{w':World}:(xs ys:List T)→ ∀(p:List Nat)(j b o:Nat),zAd xs ys=dU→(∀i x,xs[i]? =dS x→ ∀y,x.inT y.reverse=dU→G'.ad s (y++((j+i)::p))=G.ad s (y++((j+i)::p)))→
  (∀b o y,G.lb b o=dS (dV,s,y++p)→G'.lb b o=dS (dV,s,y++p))→(∀i v,(yA G' s xs p j)[i]? =dS v→yH w' b (o+i)=dS v)→wV G w s ys p j b o→wV G' w' s xs p j b o
 | [],[],_,_,_,_,_,_,_,_,_=>by simp only[wV]
 |x::xs,y::ys,p,j,b,o,h,ha,hl,hc,h0=>by
  simp only[zAd,J2,wV]at h h0 ⊢
  have hs:=zCF x y h.1;have gX:∀zs,x≠.tup zs:=by rintro zs rfl;grind[wX]
  refine⟨zRD x y (j::p) b o h.1 (fun z hz=>by simpa using ha 0 x (by simp) z hz) (fun b o z hz=>by have:=hl b o (z++[j]) (by grind);grind) (fun i v hv=>hc i v ?_) h0.1,
   zOL xs ys p (j+1) b (o+x.size) h.2 (fun i z hz=>by have:=ha (i+1) z (by grind);grind) hl (fun i v hv=>?_) (by grind)⟩
  ·grind[yA]
  ·have:=hc (x.size+i) v (by
    grind[yA,wR])
   grind
 | [],_::_,_,_,_,_,h,_,_,_,_=>by grind[zAd]
 |_::_,[],_,_,_,_,h,_,_,_,_=>by grind[zAd]
end
end
def zGv(p:yI)(q:List Nat)(s:Nat)(z:List Nat):Option (List Nat):=
 match p with
 |.slot s0 t=>if tR t&&s0==s then dS (z++q)else dT
 |.zero _=>dT
def sHd(G:Gh)(p:yI)(y:List Nat):Value:=
 match p with
 |.slot s _=>G.hd s y
 |.zero u=>jZ (zhd u y.reverse)
def sWr(r:Nat)(q:List Nat):yI→Wr
 |.slot s t=>if tR t then[(s,dS (cpT r t q))]else[]
 |.zero _=>[]
def Gh.st(G:Gh)(r:Nat)(q:List Nat)(p:yI):Gh where
 hd s z:=if s=r∧q<:+z then sHd G p (z.take (z.length-q.length))else G.hd s z
 ad s z:=if s=r∧q<:+z∧p.tree.inT (z.take (z.length-q.length)).reverse=dV then(match p with
  |.slot s0 _=>G.ad s0 (z.take (z.length-q.length))
  |.zero _=>default)else G.ad s z
 lb b o:=match G.lb b o with
  |some (fl,s,z)=>(match zGv p q s z with
   |some z'=>dS (fl,r,z')
   |none=>dS (fl,s,z))
  |none=>dT
 ow b:=match G.ow b with
  |some (s,z)=>(match zGv p q s z with
   |some z'=>dS (r,z')
   |none=>dS (s,z))
  |none=>dT
mutual
theorem zLg{Γ:Ctx}{G:Gh}{w:World}(hm:Mem Γ G w){s:Nat}:(t:T)→ ∀(p:List Nat)(v:Value),v∈vals G s t p→v.oneCell'=dU
 |.agg xs,p,v,h=>by simp only[vals]at h;exact zDp hm xs p 0 v h
 |.any,p,v,h|.lit _,p,v,h|.ro _,p,v,h|.same _ _,p,v,h|.addr _ _,p,v,h|.sub _ _ _ _ _,p,v,h|.sl _ _,p,v,h|.ptr _,p,v,h|.tup _,p,v,h=>by simp only[vals,List.mem_singleton]at h;rw[h];exact hm.one s p
theorem zDp{Γ:Ctx}{G:Gh}{w:World}(hm:Mem Γ G w){s:Nat}:(xs:List T)→ ∀(p:List Nat)(j:Nat)(v:Value),v∈yA G s xs p j→v.oneCell'=dU
 | [],_,_,_,h=>by grind[yA]
 |x::xs,p,j,v,h=>by
  simp only[yA,Jv]at h;rcases h with h|h
  ·exact zLg hm x _ v h
  ·exact zDp hm xs p _ v h
end
mutual
theorem zFu:(u:T)→u.zOk=dU→ ∀v∈tL u,v.oneCell'=dU
 |.lit v,h,x,hx=>by simp only[tL,List.mem_singleton]at hx;rw[hx];exact h
 |.sl _ _,_,x,hx=>by simp only[tL,List.mem_singleton]at hx;rw[hx];rfl
 |.agg xs,h,x,hx=>by simp only[T.zOk]at h;simp only[tL]at hx;exact zHh xs h x hx
 |.any,h,_,_|.ro _,h,_,_|.same _ _,h,_,_|.addr _ _,h,_,_|.sub _ _ _ _ _,h,_,_|.ptr _,h,_,_|.tup _,h,_,_=>by grind[T.zOk]
theorem zHh:(xs:List T)→zAB xs=dU→ ∀v∈sM xs,v.oneCell'=dU
 | [],_,_,h=>by grind[sM]
 |x::xs,h,v,hv=>by
  simp only[zAB,J2]at h;simp only[sM,Jv]at hv;rcases hv with hv|hv
  ·exact zFu x h.1 v hv
  ·exact zHh xs h.2 v hv
end
theorem zLh(y q:List Nat):(y++q).take ((y++q).length-q.length)=y:=by simp
theorem zNo{Γ:Ctx}{G G':Gh}{w':World}{s d:Nat}{q:List Nat}{t:T}{v:Option Value}(hv:v=dS (mkV G s t []))(gX:∀xs,t≠.tup xs)(hs:∀p,G'.hd s p=G.hd s p)(pF:∀z,G'.hd d (z++q)=G.hd s z)
  (hr:R Γ.St G' w' d t q):Ent Γ G' w' v s (cpT d t q):=by
 have hz:∀z,G'.hd s (z++[])=G'.hd d (z++q):=by grind
 refine⟨?_,?_,sV d t q⟩
 ·rw[hv,zAP (G:=G') (G':=G') t q [] gX hz,zAn G s t [] gX,zCf t [] q (fun z=>by rw[pF,Jh])]
 ·exact zDY (G:=G') (G':=G') (fun _=>rfl) t q [] hz gX (yN.triv (fun _ _=>⟨rfl,rfl⟩) _) hr
section
variable {P:Program}{Γ:Ctx}{E:Env}{o:Oper}
theorem kA:(f:List Nat)→ ∀(t u:T),zQ t→zQ u→zQ (t.set f u)
 | [],t,u,_,hu=>by grind[T.set]
 |i::f,t,u,ht,hu=>by
  cases t with
  |sl k xs=>
   simp only[T.set];split
   ·rename_i x hx
    simp only[zQ,yN]at ht ⊢
    exact sets_clean xs i _ ht (kA f x u (vR xs ht i x hx) hu)
   ·exact ht
  |agg xs=>
   simp only[T.set];split
   ·rename_i x hx
    simp only[zQ,yN]at ht ⊢
    exact sets_clean xs i _ ht (kA f x u (vR xs ht i x hx) hu)
   ·exact ht
  |tup xs=>
   simp only[T.set];split
   ·rename_i x hx
    simp only[zQ,yN]at ht ⊢
    exact sets_clean xs i _ ht (kA f x u (vR xs ht i x hx) hu)
   ·exact ht
  |ptr t=>
   simp only[T.set];split
   ·simp only[zQ,yN]at ht ⊢
    exact kA f t u ht hu
   ·exact ht
  |_=>grind[T.set]
where sets_clean:(xs:List T)→ ∀(i:Nat)(y:T),yK xs→zQ y→yK (xs.set i y)
 | [],_,_,_,_=>by grind
 |x::xs,0,y,h,hy=>by simp only[Lf,yK,xF]at h ⊢;grind
 |x::xs,i+1,y,h,hy=>by simp only[Ks,yK,xF]at h ⊢;exact⟨h.1,sets_clean xs i y h.2 hy⟩
theorem zIM(T':TypeId)(ti:TypeInfo)(x y:Operand)(r:Nat)(q:List Nat)(tr u0:T)(p:yI)(ho:o.op=.store T' x y)(gf:o.dst=dT)
  (hi:P.info? T'=dS ti)(gv:ti.size=p.tree.size)(pY:0<ti.size)(hx:zC4 Γ E x r q)(hr:E r=dS tr)(tj:tr.single=dU)(hg:tr.get q.reverse=dS u0)(hl:tr.locd q.reverse=dU)
  (eU:wX p.tree u0=dU)(hy:zAy E y p)(gT:tD E r [p]):
  xM P Γ o E (E.app ((r,dS (tr.set q.reverse p.tree))::sWr r q p) ((r,q.length)::tO [p])):=by
 refine xM.skip gf fun a w G g9=>?_
 have hm:=g9.mem;have ms:=hx a w G g9;obtain⟨e3,e4,e5⟩:=g9.ent r _ hr;have mK:q≠[]:=by rintro rfl;simp[T.locd]at hl
 obtain⟨i0,f0,aP⟩:∃i f,q.reverse=i::f:=by
  cases h:q.reverse with
  |nil=>exact absurd (by simpa using h) mK
  |cons i f=>exact⟨i,f,rfl⟩
 have bh:∀v:T,(tr.set q.reverse v).single=dU∧zQ tr:=by
  intro v;rw[aP]at hg ⊢
  cases tr with
  |sl k xs=>exact⟨by simp only[T.set];split<;>rfl,by simpa only[Top,zQ,yN]using e5⟩
  |ptr t=>exact⟨by simp only[T.set];split<;>rfl,by simpa only[Top,zQ,yN]using e5⟩
  |agg xs=>simp[T.single]at tj
  |tup xs=>simp[T.single]at tj
  |_=>simp[T.get]at hg
 obtain⟨b,ob,cs,et,p8,gL,du⟩:=(zBD q.reverse tr u0 [] e4 hg).2 hl;simp only[rp,Ki,Jh]at p8;have hru0:=(zBD q.reverse tr u0 [] e4 hg).1;have fm:=zEa p8;have bl:=zCF _ _ eU;have hc:=zAQ g9 gT (by simp) hy;have cP:(a.eval y).cells.size=p.tree.size:=by
  rw[←K7,hc];cases p with
  |slot s t=>obtain⟨_,_,h3⟩:=gT.slot s t (by simp);exact wR t [] (by rintro xs rfl;simp[T.okTup]at h3)
  |zero u=>exact vA u (gT.zero u (by simp))
 have gp:∀v∈(a.eval y).cells.toList,v.oneCell'=dU:=by
  rw[hc];intro v hv;cases p with
  |slot s t=>exact zLg hm t [] v hv
  |zero u=>exact zFu u (gT.zero u (by simp)) v hv
 generalize eC:w.setRow b (cs.toList.take ob++(a.eval y).cells.toList++cs.toList.drop (ob+(a.eval y).cells.toList.length)).toArray=w'
 have eg:w'.heap[b]? =dS (.cells (cs.toList.take ob++(a.eval y).cells.toList++cs.toList.drop (ob+(a.eval y).cells.toList.length)).toArray et (0,0)):=by rw[←eC];exact setRow_heap w b cs _ et _ gL
 have gF:∀b',b'≠b→w'.heap[b']? =w.heap[b']?:=fun b' h=>by rw[←eC];exact setRow_other w b b' _ h
 have gQ:w'.heap.size=w.heap.size:=by rw[←eC];exact size_setRow w b _
 have gI:(a.eval y).cells.toList.length=u0.size:=by rw[K7,cP,bl]
 have eK:∀k,yH w' b k=if ob≤k∧k<ob+u0.size then(sH G p)[k-ob]? else yH w b k:=by
  intro k;simp only[yH,World.cell?,eg,gL,Q3,Lz,if_false];rw[←hc,←gI]at*
  rw[←Kf,←Kf (xs:=cs)];simp only[];have gZ:cs.toList.length=cs.size:=K7 ..
  generalize (a.eval y).cells.toList=V at*
  by_cases h1:k<ob
  ·rw[if_neg (by omega),Ji,Kg (by simp;omega),Ug h1]
  ·by_cases h2:k<ob+V.length
   ·rw[if_pos ⟨by omega,h2⟩,Ji,Jf (by simp;omega),Kg (by simp;omega)]
    congr 1;simp;omega
   ·rw[if_neg (by omega),Ji,Jf (by simp;omega),Jf (by simp;omega),La]
    congr 1;simp;omega
 have fH:∀b' o' fl s z,G.lb b' o'=dS (fl,s,z)→ ¬(s=r∧q<:+z)→yH w' b' o'=yH w b' o':=by
  intro b' o' fl s z h1 h2
  by_cases hb:b'=b
  ·subst hb
   rw[eK];split
   ·rename_i h3
    obtain⟨y',h4⟩:=zJW u0 q b' ob (o'-ob) p8 (by omega);rw[show ob+(o'-ob)=o' from by omega,h1]at h4;simp at h4;exact absurd ⟨h4.2.1,y',h4.2.2.symm⟩ h2
   ·rfl
  ·simp[yH,World.cell?,gF b' hb]
 have eh:Blk w w':=by
  intro b' cs' e' h1
  by_cases hb:b'=b
  ·subst hb
   rw[gL]at h1;simp at h1;obtain⟨rfl,rfl⟩:=h1;exact⟨_,eg,by simp;have:cs.toList.length=cs.size:=K7 ..;omega⟩
  ·exact⟨cs',by rw[gF b' hb];exact h1,rfl⟩
 generalize gm:G.st r q p=G'
 have ghd:∀y',G'.hd r (y'++q)=sHd G p y':=fun y'=>by rw[←gm];simp[Gh.st]
 have ghd':∀s z,¬(s=r∧q<:+z)→G'.hd s z=G.hd s z:=fun s z h=>by rw[←gm];simp only[Gh.st];rw[if_neg h]
 have gad:∀s z,¬(s=r∧q<:+z)→G'.ad s z=G.ad s z:=fun s z h=>by rw[←gm];simp only[Gh.st];rw[if_neg (fun h2=>h ⟨h2.1,h2.2.1⟩)]
 have gadf:∀y',p.tree.inT y'.reverse=dU→G'.ad r (y'++q)=G.ad r (y'++q):=fun y' h=>by rw[←gm];simp only[Gh.st,zLh];rw[if_neg (by simp[h])]
 have gadm:∀s0 t y',p=.slot s0 t→t.inT y'.reverse=dV→G'.ad r (y'++q)=G.ad s0 y':=fun s0 t y' h1 h2=>by subst h1;rw[←gm];simp only[Gh.st,zLh,yI.tree];rw[if_pos];simp[h2]
 have glb:∀b' o' fl s z,G.lb b' o'=dS (fl,s,z)→zGv p q s z=dT→G'.lb b' o'=dS (fl,s,z):=fun b' o' fl s z h1 h2=>by rw[←gm];simp[Gh.st,h1,h2]
 have glbm:∀b' o' fl s z z',G.lb b' o'=dS (fl,s,z)→zGv p q s z=dS z'→G'.lb b' o'=dS (fl,r,z'):=fun b' o' fl s z z' h1 h2=>by rw[←gm];simp[Gh.st,h1,h2]
 have gow:∀b' s z,G.ow b'=dS (s,z)→zGv p q s z=dT→G'.ow b'=dS (s,z):=fun b' s z h1 h2=>by rw[←gm];simp[Gh.st,h1,h2]
 have gowm:∀b' s z z',G.ow b'=dS (s,z)→zGv p q s z=dS z'→G'.ow b'=dS (r,z'):=fun b' s z z' h1 h2=>by rw[←gm];simp[Gh.st,h1,h2]
 have bA:∀s z,(∀n,(s,n)∉(r,q.length)::tO [p])→zGv p q s z=dT:=by
  intro s z h;cases p with
  |zero u=>rfl
  |slot s0 t=>
   simp only[zGv];rw[if_neg];intro h2;simp only[J2,beq_iff_eq]at h2;obtain⟨h3,rfl⟩:=h2;exact h 1 (by simp[tO,xE,h3])
 have cv:∀z,zGv p q r z=dT:=by
  intro z;cases p with
  |zero u=>rfl
  |slot s0 t=>
   simp only[zGv];rw[if_neg];intro h2;simp only[J2,beq_iff_eq]at h2;obtain⟨h3,rfl⟩:=h2;have:=(Km.1 gT.dist).1;simp[xE,h3]at this
 have pz:∀s z,Off ((r,q.length)::tO [p]) s z→ ¬(s=r∧q<:+z):=by
  rintro s z h ⟨rfl,h2⟩
  have:=h q.length (by simp);have:=h2.length_le;omega
 have gy:qN ((r,q.length)::tO [p]) G w G' w':=by
  refine⟨fun s z h=>ghd' s z (pz s z h),fun s z h=>gad s z (pz s z h),fun b' o' fl s z _ h1 h2=>⟨glb b' o' fl s z h1 (bA s z h2),fH b' o' fl s z h1 ?_⟩,fun b' s z h1 h2=>gow b' s z h1 (bA s z h2),eh⟩
  rintro⟨rfl,_⟩
  exact h2 q.length (by simp)
 have mT:zCA Γ w b:=by obtain⟨y',h4⟩:=zJW u0 q b ob 0 p8 (by omega);exact hm.lb _ _ _ h4
 have gu:Mem Γ G' w':=by
  refine⟨fun s z=>?_,fun b' o' l hl=>?_,fun b' l hl=>?_,fun b' x' ef=>?_,fun b' h1 h2=>?_,by rw[gQ];exact hm.sz,hm.bk.trans eh (by rw[←eC];rfl) (by rw[←eC];rfl)⟩
  ·by_cases h:s=r∧q<:+z
   ·obtain⟨rfl,y',rfl⟩:=h
    rw[ghd];unfold sHd;split
    ·exact hm.one _ _
    ·exact zBE _
   ·rw[ghd' s z h];exact hm.one s z
  ·have:∃l',G.lb b' o'=dS l':=by
    rw[←gm]at hl;simp only[Gh.st]at hl;split at hl
    ·exact⟨_,by assumption⟩
    ·cases hl
   obtain⟨l',me⟩:=this;have:=hm.lb b' o' l' me;exact⟨by rw[gQ];exact this.1,this.2⟩
  ·have:∃l',G.ow b'=dS l':=by
    rw[←gm]at hl;simp only[Gh.st]at hl;split at hl
    ·exact⟨_,by assumption⟩
    ·cases hl
   obtain⟨l',me⟩:=this;have:=hm.ow b' l' me;exact⟨by rw[gQ];exact this.1,this.2⟩
  ·have hb:b'≠b:=by rintro rfl;rw[mT.2.2]at ef;cases ef
   rw[gF b' hb];exact hm.st b' x' ef
  ·have hb:b'≠b:=by
    rintro rfl
    rcases mT.2.1 with h3|h3
    ·omega
    ·exact h2 h3
   rw[gF b' hb];exact hm.fr b' h1 h2
 have au:Upd G w G' w' r q:=by refine⟨fun z h=>ghd' r z (fun h2=>h h2.2),fun z h=>gad r z (fun h2=>h h2.2),fun b' o' fl z h1 h=>⟨glb b' o' fl r z h1 (cv z),fH b' o' fl r z h1 (fun h2=>h h2.2)⟩,fun b' z h1 _=>gow b' r z h1 (cv z),eh⟩
 have mJ:R Γ.St G' w' r p.tree q:=by
  cases hp:p with
  |zero u=>
   refine zJU u q (gT.zero u (by simp[hp])) (fun z=>by rw[ghd];simp[sHd,hp])
  |slot s0 t=>
   obtain⟨h1,h2,h3⟩:=gT.slot s0 t (by simp[hp]);have eV:=(g9.ent s0 t h1).2.1
   by_cases cy:tR t=dU
   ·have az:s0≠r:=by
     rintro rfl
     have:=(Km.1 gT.dist).1;simp[hp,xE,cy]at this
    refine zLd t [] q h3 ⟨fun z=>by rw[ghd,Jh];simp[sHd,hp],fun z hz=>by rw[Jh];exact gadm s0 t z hp hz,fun b' o' fl z _ h4=>?_,fun b' z h4=>?_,eh⟩ (yN.mono (fun _ _=>False.elim) t h2) eV
    ·rw[Jh]at h4
     exact⟨glbm b' o' fl s0 z _ h4 (by simp[zGv,hp,cy]),fH b' o' fl s0 z h4 (fun h5=>az h5.1)⟩
    ·rw[Jh]at h4
     exact gowm b' s0 z _ h4 (by simp[zGv,hp,cy])
   ·have hh:G'.hd r q=G.hd s0 []:=by have:=ghd [];rw[K6]at this;rw[this];simp[sHd,hp]
    cases t<;>simp[tR]at cy<;>simp only[R,yI.tree]at eV ⊢ <;>rw[hh]<;>exact eV
 have ce:vals G' r p.tree q=sH G p:=by
  cases hp:p with
  |zero u=>exact zFs u q (gT.zero u (by simp[hp])) (fun z=>by rw[ghd];simp[sHd,hp])
  |slot s0 t=>exact zBp t [] q (fun z=>by rw[ghd];simp[sHd,hp])
 have bG:∀b' o',Loc G w r u0 q b' o'→Loc G' w' r p.tree q b' o':=by
  intro b' o' h1;have h2:b'=b∧o'=ob:=by have:=(zEa h1).symm.trans fm;simp at this;exact this
  obtain⟨rfl,rfl⟩:=h2;refine zRD p.tree u0 q b' o' eU (fun y' h=>gadf y' h) (fun b2 o2 y' h=>glb b2 o2 dV r _ h (cv _)) (fun j v hv=>?_) h1;rw[ce]at hv;have hj:=(J9.1 hv).1;have cu:(sH G p).length=u0.size:=by rw[←hc,gI]
  rw[eK,if_pos ⟨by omega,by omega⟩,show o'+j-o'=j from by omega];exact hv
 have bp:R Γ.St G' w' r (tr.set q.reverse p.tree) []:=by
  have cR:rp q.reverse []=q:=by simp[rp]
  refine zGW q.reverse tr p.tree u0 [] (by rw[cR];exact au) e4 hg bl (yN.mono (fun _ _=>False.elim) tr (bh .any).2) (by rw[cR];exact bG) (by rw[cR];exact mJ)
 have gJ:=run_storeCells_at P b ob et (a.eval y).cells.toList 0 cs w gL (by omega) gp;simp only[Jam]at gJ;rw[eC]at gJ;refine⟨w',?_,G',wW g9 rfl gy gu ?_ ?_⟩
 ·have aw:(a.eval y).cells.size=ti.size:=by rw[cP,gv]
  simp[execOp,ho,ms,fm,Instr.storeAt,uO,storeVar,sizeOf,typeInfo,hi,aw,gJ]
 ·intro s hs
  simp only[Wr.find]at hs;split at hs
  ·cases hs
  ·rename_i gc
   refine⟨fun n hn=>?_,rfl⟩;simp only[Jq,Qj.injEq]at hn;rcases hn with⟨h1,_⟩|hn
   ·exact gc h1.symm
   ·cases p with
    |zero u=>simp[tO,xE]at hn
    |slot s0 t=>
     by_cases cy:tR t=dU
     ·simp[tO,xE,cy]at hn
      simp[sWr,cy,Wr.find,hn.1.symm]at hs
     ·simp[tO,xE,cy]at hn
 ·intro s t hs
  simp only[Wr.find]at hs;split at hs
  ·rename_i he
   subst he;simp at hs;subst hs;refine⟨?_,bp,Top.of_clean _ (kA _ _ _ (bh .any).2 ?_)⟩
   ·rw[e3,yR (bh p.tree).1,yR tj]
    congr 1
    exact(ghd' r [] (fun h=>mK (by simpa using h.2))).symm
   ·cases p with
    |zero u=>exact(zBF u (gT.zero u (by simp))).1
    |slot s0 t=>exact(gT.slot s0 t (by simp)).2.1
  ·rename_i gc
   cases hp:p with
   |zero u=>simp[sWr,hp,Wr.find]at hs
   |slot s0 t0=>
    by_cases cy:tR t0=dU
    ·simp only[sWr,hp,cy,if_true,Wr.find]at hs
     split at hs
     ·rename_i he
      subst he;simp at hs;subst hs;obtain⟨h1,h2,h3⟩:=gT.slot s0 t0 (by simp[hp]);refine zNo (G:=G) (g9.ent s0 t0 h1).1 (by rintro xs rfl;simp[T.okTup]at h3) (fun z=>ghd' s0 z (fun h=>gc h.1.symm)) (fun z=>by rw[ghd];simp[sHd,hp]) (by rw[hp]at mJ;exact mJ)
     ·cases hs
    ·simp[sWr,hp,cy,Wr.find]at hs
theorem zLi(T':TypeId)(ti:TypeInfo)(x y:Operand)(r:Nat)(q:List Nat)(tr u0:T)(p:yI)(ho:o.op=.store T' x y)(gf:o.dst=dT)
  (hi:P.info? T'=dS ti)(gv:ti.size=p.tree.size)(pY:0<ti.size)(hx:opT E x=dS (.addr r q))(hr:E r=dS tr)(tj:tr.single=dU)(hg:tr.get q.reverse=dS u0)(hl:tr.locd q.reverse=dU)
  (eU:wX p.tree u0=dU)(hy:zAy E y p)(gT:tD E r [p]):
  xM P Γ o E (E.app ((r,dS (tr.set q.reverse p.tree))::sWr r q p) ((r,q.length)::tO [p])):=
 by grind[zIM,zC4.addr]
end
end Go.Ab

namespace Go.Ab
open Go
section
variable {G G':Gh}{s:Nat}
theorem zNp(xs:List T):∀(p:List Nat)(j:Nat),(∀k,j≤k→ ∀z,G'.hd s (z++(k::p))=G.hd s (z++(k::p)))→yA G' s xs p j=yA G s xs p j:=by
 induction xs with
 |nil=>grind[yA]
 |cons z zs ih=>
  intro p j h;simp only[yA];rw[zBp z (j::p) (j::p) (h j (Jd _)),ih p (j+1) (by grind)]
theorem zQd(xs:List T):∀(p:List Nat)(j i:Nat)(x y:T),xs[i]? =dS x→(∀k,k≠j+i→ ∀z,G'.hd s (z++(k::p))=G.hd s (z++(k::p)))→
  vals G' s y ((j+i)::p)=vals G s x ((j+i)::p)→yA G' s (xs.set i y) p j=yA G s xs p j:=by
 induction xs with
 |nil=>simp
 |cons z zs ih=>
  intro p j i x y h hz hy;cases i with
  |zero=>
   grind[yA,zNp]
  |succ i=>
   simp only[Ks,yA];rw[zBp z (j::p) (j::p) (hz j (by omega)),ih p (j+1) i x y (by grind) (by grind) (by grind)]
theorem zLj:(f:List Nat)→ ∀(t u u0:T)(p:List Nat),t.get f=dS u0→u0.single=dU→u.single=dU→(∀z,(rp f p<:+z→z=rp f p)→G'.hd s z=G.hd s z)→vals G' s (t.set f u) p=vals G s t p
 | [],t,u,u0,p,hg,h0,h1,hh=>by simp[T.get]at hg;subst hg;have:G'.hd s p=G.hd s p:=hh p (by simp[rp]);simp only[T.set];cases t<;>simp[T.single]at h0<;>cases u<;>simp[T.single]at h1<;>simp[vals,this]
 |i::f,t,u,u0,p,hg,h0,h1,hh=>by
  rw[zBn]at hh;have hp:G'.hd s p=G.hd s p:=by grind[zAb]
  cases t with
  |agg xs=>
   simp only[T.get]at hg;cases hx:xs[i]? with
   |none=>grind
   |some x=>
    rw[hx]at hg;simp only[T.set,hx,vals];refine zQd xs p 0 i x _ hx (by grind[jW]) ?_;rw[Ja];exact zLj f x u u0 (i::p) hg h0 h1 hh
  |tup xs=>
   grind[T.set,vals]
  |sl k xs=>grind[T.set,vals]
  |ptr t=>grind[T.set,vals]
  |_=>grind[T.get]
theorem zLk(f:List Nat)(t u u0:T)(p:List Nat)(hg:t.get f=dS u0)(h0:u0.single=dU)(h1:u.single=dU)(hh:∀z,(rp f p<:+z→z=rp f p)→G'.hd s z=G.hd s z)(gX:∀xs,t≠.tup xs):
  tQ G' s (t.set f u) p=tQ G s t p:=by
 have h:=zLj f t u u0 p hg h0 h1 hh;cases f with
 |nil=>
  simp[T.get]at hg;subst hg;have:G'.hd s p=G.hd s p:=hh p (by simp[rp]);simp only[T.set];cases t<;>simp[T.single]at h0<;>cases u<;>simp[T.single]at h1<;>simp[tQ,this]
 |cons i f=>
  rw[zBn]at hh;have hp:G'.hd s p=G.hd s p:=by grind[zAb]
  cases t with
  |agg xs=>
   grind[T.set,vals,tQ]
  |tup xs=>grind
  |sl k xs=>grind[T.set,tQ]
  |ptr t=>grind[T.set,tQ]
  |_=>grind[T.get]
theorem zQe(xs:List T):∀(p:List Nat)(j:Nat),(∀k,j≤k→ ∀z,G'.hd s (z++(k::p))=G.hd s (z++(k::p)))→zAm G' s xs p j=zAm G s xs p j:=by
 induction xs with
 |nil=>grind[zAm]
 |cons z zs ih=>
  intro p j h;simp only[zAm];rw[zCf z (j::p) (j::p) (h j (Jd _)),ih p (j+1) (by grind)]
theorem zRE(xs:List T):∀(p:List Nat)(j i:Nat)(x y:T),xs[i]? =dS x→(∀k,k≠j+i→ ∀z,G'.hd s (z++(k::p))=G.hd s (z++(k::p)))→
  tQ G' s y ((j+i)::p)=tQ G s x ((j+i)::p)→zAm G' s (xs.set i y) p j=zAm G s xs p j:=by
 induction xs with
 |nil=>simp
 |cons z zs ih=>
  intro p j i x y h hz hy;cases i with
  |zero=>
   grind[zAm,zQe]
  |succ i=>
   simp only[Ks,zAm];rw[zCf z (j::p) (j::p) (hz j (by omega)),ih p (j+1) i x y (by grind) (by grind) (by grind)]
def xU:T→Bool
 |.tup xs=>xs.all fun x=>match x with
  |.tup _=>dV
  |_=>dU
 |_=>dU
theorem zOM(f:List Nat)(t u u0:T)(p:List Nat)(hg:t.get f=dS u0)(h0:u0.single=dU)(h1:u.single=dU)(hh:∀z,(rp f p<:+z→z=rp f p)→G'.hd s z=G.hd s z)(pG:xU t=dU):
  mkV G' s (t.set f u) p=mkV G s t p:=by
 by_cases ht:∃xs,t=.tup xs
 ·obtain⟨xs,rfl⟩:=ht
  cases f with
  |nil=>grind[T.get,T.single]
  |cons i f=>
   rw[zBn]at hh;simp only[T.get]at hg;cases hx:xs[i]? with
   |none=>grind
   |some x=>
    rw[hx]at hg;simp only[T.set,hx,mkV];rw[zRE xs p 0 i x _ hx (fun k hk z=>hh _ (fun h=>absurd h (jW (by omega) z)))];rw[Ja];refine zLk f x u u0 (i::p) hg h0 h1 hh ?_
    rintro ys rfl
    simp only[xU]at pG;have:=K3.1 pG _ (L7 hx)
    grind
 ·have gX:∀xs,t≠.tup xs:=by grind
  rw[zAn G s t p gX,←zLk f t u u0 p hg h0 h1 hh gX];refine zAn G' s _ p ?_
  rintro xs ek
  cases f with
  |nil=>grind[T.set,T.single]
  |cons i f=>cases t<;>simp only[T.set]at ek<;>first|grind|grind|cases ek
end
theorem zGC:(f:List Nat)→ ∀(t u:T),Top t→zQ u→Top (t.set f u)
 | [],t,u,_,hu=>by grind[T.set,Top.of_clean]
 |i::f,t,u,ht,hu=>by
  cases t with
  |sl k xs=>
   refine Top.of_clean _ (kA (i::f) _ u (by simpa only[Top,zQ,yN]using ht) hu)
  |ptr t=>exact Top.of_clean _ (kA (i::f) _ u (by simpa only[Top,zQ,yN]using ht) hu)
  |agg xs=>
   simp only[T.set];split
   ·rename_i x hx
    simp only[Top]at ht ⊢
    exact tops_set xs i _ ht (zGC f x u (tops_get xs ht i x hx) hu)
   ·exact ht
  |tup xs=>
   simp only[T.set];split
   ·rename_i x hx
    simp only[Top]at ht ⊢
    exact tops_set xs i _ ht (zGC f x u (tops_get xs ht i x hx) hu)
   ·exact ht
  |_=>grind[T.set]
where
 tops_set:(xs:List T)→ ∀(i:Nat)(y:T),uB xs→Top y→uB (xs.set i y)
  | [],_,_,_,_=>by simp[uB]
  |x::xs,0,y,h,hy=>by simp only[Lf,uB]at h ⊢;grind
  |x::xs,i+1,y,h,hy=>by simp only[Ks,uB]at h ⊢;exact⟨h.1,tops_set xs i y h.2 hy⟩
 tops_get:(xs:List T)→uB xs→ ∀(i:Nat)(x:T),xs[i]? =dS x→Top x
  | [],_,_,_,h=>by simp at h
  |y::ys,hk,i,x,h=>by
   simp only[uB]at hk;cases i with
   |zero=>grind
   |succ i=>exact tops_get ys hk.2 i x (by grind)
def Gh.tr(G:Gh)(d:Nat)(g:List Nat)(r:Nat)(p:List Nat):Gh where
 hd s z:=if s=d∧g<:+z then G.hd r (z.take (z.length-g.length)++p)else G.hd s z
 ad s z:=if s=d∧g<:+z∧z≠g then G.ad r (z.take (z.length-g.length)++p)else G.ad s z
 lb b o:=match G.lb b o with
  |some (fl,s,z)=>if s=r∧p<:+z∧(fl=dU∨z≠p)then dS (fl,d,z.take (z.length-p.length)++g)else dS (fl,s,z)
  |none=>dT
 ow b:=match G.ow b with
  |some (s,z)=>if s=r∧p<:+z then dS (d,z.take (z.length-p.length)++g)else dS (s,z)
  |none=>dT
theorem zGd{t:T}(h:t.single=dU):t.size=1:=by cases t<;>simp[T.single]at h<;>simp[T.size]
theorem zHi{Γ:Ctx}{E:Env}{G:Gh}{tmps:Array Value}{w:World}(g9:Rep Γ E G tmps w)(d:Nat)(g:List Nat)(r:Nat)(p:List Nat)(td tr u v0:T)(hd:E d=dS td)(hg:td.get g.reverse=dS v0)(bc:v0.single=dU)(hZ:G.hd d g=G.hd r p)(hr:E r=dS tr)
  (hp:tr.get p.reverse=dS u)(hu:u.single=dU)(eH:zQ u)(gW:d≠r)(m0:td.okB [(d,g.length+1),(r,p.length+1)]=dU)(p6:tr.okB [(d,g.length+1),(r,p.length+1)]=dU)(cG:xU td=dU)(fj:xU tr=dU):
  Rep Γ (E.app [(d,dS (td.set g.reverse u)),(r,dS (if p=[]then .same d g else tr.set p.reverse .any))] [(d,g.length+1),(r,p.length+1)]) (G.tr d g r p) tmps w∧ ∀s z,¬(s=d∧g<:+z∧z≠g)→(G.tr d g r p).hd s z=G.hd s z:=by
 obtain⟨d1,d2,d3⟩:=g9.ent d td hd;obtain⟨r1,r2,r3⟩:=g9.ent r tr hr;have hm:=g9.mem;have mJ:=(zBD p.reverse tr u [] r2 hp).1;simp only[rp,Ki,Jh]at mJ;have gL:Blk w w:=fun b cs e' h=>⟨cs,h,rfl⟩
 generalize gm:G.tr d g r p=G'
 have ghd:∀z,G'.hd d (z++g)=G.hd r (z++p):=fun z=>by rw[←gm];simp[Gh.tr]
 have ghd0:∀s z,¬(s=d∧g<:+z∧z≠g)→G'.hd s z=G.hd s z:=by
  intro s z h;rw[←gm];simp only[Gh.tr]
  by_cases h2:s=d∧g<:+z
  ·have h3:z=g:=by
    rcases Decidable.em (z=g)with e|e
    ·exact e
    ·exact absurd ⟨h2.1,h2.2,e⟩ h
   subst h3;rw[if_pos h2,h2.1];simpa using hZ.symm
  ·rw[if_neg h2]
 have gad0:∀s z,¬(s=d∧g<:+z∧z≠g)→G'.ad s z=G.ad s z:=fun s z h=>by rw[←gm];simp only[Gh.tr];rw[if_neg h]
 have gad:∀z,z≠[]→G'.ad d (z++g)=G.ad r (z++p):=fun z h=>by rw[←gm];simp only[Gh.tr];rw[if_pos (by simpa using h)];simp
 have glb0:∀b o fl s z,G.lb b o=dS (fl,s,z)→ ¬(s=r∧p<:+z∧(fl=dU∨z≠p))→G'.lb b o=dS (fl,s,z):=fun b o fl s z h1 h2=>by rw[←gm];simp only[Gh.tr,h1];rw[if_neg h2]
 have glb:∀b o fl z,G.lb b o=dS (fl,r,z++p)→(fl=dU∨z≠[])→G'.lb b o=dS (fl,d,z++g):=fun b o fl z h1 h2=>by rw[←gm];simp only[Gh.tr,h1];rw[if_pos (by simpa using h2)];simp
 have gow0:∀b s z,G.ow b=dS (s,z)→ ¬(s=r∧p<:+z)→G'.ow b=dS (s,z):=fun b s z h1 h2=>by rw[←gm];simp only[Gh.tr,h1];rw[if_neg h2]
 have gow:∀b z,G.ow b=dS (r,z++p)→G'.ow b=dS (d,z++g):=fun b z h1=>by rw[←gm];simp only[Gh.tr,h1];rw[if_pos (by simp)];simp
 have gK:∀s z,Off [(d,g.length+1),(r,p.length+1)] s z→ ¬(s=d∧g<:+z∧z≠g):=by
  rintro s z h ⟨rfl,⟨y,rfl⟩,h3⟩
  have:=h (g.length+1) (by simp);have:y=[]:=Jz (by simp at this;omega);exact h3 (by simp[this])
 have gy:qN [(d,g.length+1),(r,p.length+1)] G w G' w:=by
  refine⟨fun s z h=>ghd0 s z (gK s z h),fun s z h=>gad0 s z (gK s z h),fun b o fl s z _ h1 h2=>⟨glb0 b o fl s z h1 ?_,rfl⟩,fun b s z h1 h2=>gow0 b s z h1 ?_,gL⟩
  ·rintro⟨rfl,_⟩;exact h2 (p.length+1) (by simp)
  ·rintro⟨rfl,_⟩;exact h2 (p.length+1) (by simp)
 have gu:Mem Γ G' w:=by
  refine⟨fun s z=>?_,fun b o l hl=>?_,fun b l hl=>?_,hm.st,hm.fr,hm.sz,hm.bk⟩
  ·rw[←gm]
   simp only[Gh.tr];split
   ·exact hm.one _ _
   ·exact hm.one _ _
  ·have:∃l',G.lb b o=dS l':=by
    rw[←gm]at hl;simp only[Gh.tr]at hl;split at hl
    ·exact⟨_,by assumption⟩
    ·cases hl
   obtain⟨l',me⟩:=this;exact hm.lb b o l' me
  ·have:∃l',G.ow b=dS l':=by
    rw[←gm]at hl;simp only[Gh.tr]at hl;split at hl
    ·exact⟨_,by assumption⟩
    ·cases hl
   obtain⟨l',me⟩:=this;exact hm.ow b l' me
 have cR:∀q:List Nat,rp q.reverse []=q:=fun q=>by simp[rp]
 have hud:R Γ.St G' w d u g:=by
  refine zAa (G:=G) (w:=w) (s:=r) (p:=p) ⟨⟨ghd,gad,fun b o f z hz _ hl=>⟨glb b o f z hl (.inr hz),rfl⟩,fun b z _ hl=>gow b z hl,gL⟩,fun b o _ hl=>⟨by simpa using glb b o dU [] (by simpa using hl) (.inl rfl),rfl⟩,fun b hl=>by simpa using gow b [] (by simpa using hl)⟩ u
   (yN.mono (fun _ _=>False.elim) u eH) mJ
 have be:Upd G w G' w d g:=⟨fun z h=>ghd0 d z (fun h2=>h h2.2.1),fun z h=>gad0 d z (fun h2=>h h2.2.1),fun b o f z h1 _=>⟨glb0 b o f d z h1 (fun h2=>gW h2.1),rfl⟩,fun b z h1 _=>gow0 b d z h1 (fun h2=>gW h2.1),gL⟩;have bH:∀b o,Loc G w d v0 g b o→Loc G' w d u g b o:=by intro b o h1;obtain⟨h2,h3,h4⟩:=wJ bc h1;have h5:G'.ad d g=⟨b,o,dT⟩∧G'.lb b o=dS (dV,d,g)∧yH w b o=dS (G'.hd d g):=⟨(gad0 d g (fun h=>h.2.2 rfl)).trans h2,glb0 b o dV d g h3 (fun h=>gW h.1),by rw[h4,ghd0 d g (fun h=>h.2.2 rfl)]⟩;cases u<;>simp[T.single]at hu<;>simpa only[Loc]using h5
 have bZ:R Γ.St G' w d (td.set g.reverse u) []:=
  zGW g.reverse td u v0 [] (by rw[cR];exact be) d2 hg (by rw[zGd bc,zGd hu]) (gy.keepR (zBo td d3 m0)) (by rw[cR];exact bH) (by rw[cR];exact hud)
 have hVd:mkV G' d (td.set g.reverse u) []=mkV G d td []:=
  zOM g.reverse td u v0 [] hg bc hu (fun z hz=>ghd0 d z (fun h2=>h2.2.2 (by rw[cR]at hz;exact hz h2.2.1))) cG
 have hRr:p≠[]→R Γ.St G' w r (tr.set p.reverse .any) []:=by intro mL;refine zGW p.reverse tr .any u [] (by rw[cR];exact⟨fun z _=>ghd0 r z (fun h2=>gW h2.1.symm),fun z _=>gad0 r z (fun h2=>gW h2.1.symm),fun b o f z h1 h=>⟨glb0 b o f r z h1 (fun h2=>h h2.2.1),rfl⟩,fun b z h1 h=>gow0 b r z h1 (fun h2=>h h2.2),gL⟩) r2 hp (by cases u<;>simp[T.single]at hu<;>simp[T.size]) (gy.keepR (zBo tr r3 p6)) ?_ (by simp only[R]);rw[cR];intro b o h1;obtain⟨h2,h3,h4⟩:=wJ hu h1;simp only[Loc];exact⟨(gad0 r p (fun h=>gW h.1.symm)).trans h2,glb0 b o dV r p h3 (by simp),by rw[h4,ghd0 r p (fun h=>gW h.1.symm)]⟩
 have hVr:p≠[]→mkV G' r (tr.set p.reverse .any) []=mkV G r tr []:=fun _=>
  zOM p.reverse tr .any u [] hp hu rfl (fun z _=>ghd0 r z (fun h2=>gW h2.1.symm)) fj
 refine⟨wW g9 rfl gy gu ?_ ?_,ghd0⟩
 ·intro s hs
  simp only[Wr.find]at hs;split at hs
  ·cases hs
  ·rename_i h1
   split at hs
   ·cases hs
   ·rename_i h2
    refine⟨fun n hn=>?_,rfl⟩;simp only[Jq,Qj.injEq,List.not_mem_nil,or_false]at hn;rcases hn with⟨e,_⟩|⟨e,_⟩
    ·exact h1 e.symm
    ·exact h2 e.symm
 ·intro s t hs
  simp only[Wr.find]at hs;split at hs
  ·rename_i he
   subst he;simp at hs;subst hs;exact⟨by rw[d1,hVd],bZ,zGC _ _ _ d3 eH⟩
  ·split at hs
   ·rename_i he
    subst he;simp at hs
    by_cases mL:p=[]
    ·rw[if_pos mL]at hs
     subst hs;subst mL;simp[T.get]at hp;subst hp;refine⟨?_,?_,by simp[Top]⟩
     ·rw[r1,yR hu,yR rfl,ghd0 r [] (fun h=>gW h.1.symm)]
     ·simp only[R]
      rw[ghd0 r [] (fun h=>gW h.1.symm)];have:=ghd [];simpa using this.symm
    ·rw[if_neg mL]at hs
     subst hs;exact⟨by rw[r1,hVr mL],hRr mL,zGC _ _ _ r3 (by simp[zQ,yN])⟩
   ·cases hs
theorem zNq{Γ:Ctx}{E:Env}{a:Act}{w:World}(h:Sim Γ E a w)(d:Nat)(g:List Nat)(r:Nat)(p:List Nat)(td tr u:T)(hd:E d=dS td)(hg:td.get g.reverse=dS (.same r p))(hr:E r=dS tr)
  (hp:tr.get p.reverse=dS u)(hu:u.single=dU)(eH:zQ u)(gW:d≠r)(m0:td.okB [(d,g.length+1),(r,p.length+1)]=dU)(p6:tr.okB [(d,g.length+1),(r,p.length+1)]=dU)(cG:xU td=dU)(fj:xU tr=dU):
  Sim Γ (E.app [(d,dS (td.set g.reverse u)),(r,dS (if p=[]then .same d g else tr.set p.reverse .any))] [(d,g.length+1),(r,p.length+1)]) a w:=by
 obtain⟨gR,G,g9⟩:=h;have hZ:=(zBD g.reverse td _ [] (g9.ent d td hd).2.1 hg).1;simp only[rp,Ki,Jh,R]at hZ;exact⟨gR,_,(zHi g9 d g r p td tr u _ hd hg rfl hZ hr hp hu eH gW m0 p6 cG fj).1⟩
end Go.Ab

namespace Go.Ab
open Go
theorem zEg{St:Stb}{G:Gh}{w:World}{s:Nat}{k:Nat}:(xs:List T)→ ∀(p:List Nat)(j b o:Nat),(∀i x,xs[i]? =dS x→Loc G w s x ((j+i)::p) b (o+i*k)∧x.size=k∧R St G w s x ((j+i)::p))→RL St G w s xs p j b o k
 | [],_,_,_,_,_=>by simp only[RL]
 |x::xs,p,j,b,o,h=>by
  obtain⟨h1,h2,h3⟩:=h 0 x (by simp);simp only[RL];refine⟨⟨by simpa using h1,h2⟩,by simpa using h3,zEg xs p (j+1) b (o+k) (fun i y hy=>?_)⟩;have:=h (i+1) y (by simpa using hy)
  rwa [show j+(i+1)=j+1+i from by omega,show o+(i+1)*k=o+k+i*k from by rw[L8];omega]at this
theorem kD{St:Stb}{G:Gh}{w:World}{s:Nat}{k:Nat}:(xs:List T)→ ∀(p:List Nat)(j b o:Nat),RL St G w s xs p j b o k→wV G w s xs p j b o
 | [],_,_,_,_,_=>by simp only[wV]
 |x::xs,p,j,b,o,h=>by simp only[RL]at h;simp only[wV];exact⟨h.1.1,kD xs p (j+1) b (o+x.size) (by rw[h.1.2];exact h.2.2)⟩
theorem zBI{St:Stb}{G:Gh}{w:World}{s:Nat}{k:Nat}:(xs:List T)→ ∀(p:List Nat)(j b o:Nat),RL St G w s xs p j b o k→RF St G w s xs p j∧ ∀x∈xs,x.size=k
 | [],_,_,_,_,_=>by simp[RF]
 |x::xs,p,j,b,o,h=>by simp only[RL]at h;obtain⟨h1,h2⟩:=zBI xs p (j+1) b (o+k) h.2.2;exact⟨by simp only[RF];exact⟨h.2.1,h1⟩,fun y hy=>by rcases Jq.1 hy with rfl|hy;exact h.1.2;exact h2 y hy⟩
section
variable {G:Gh}{w:World}{G':Gh}{w':World}{s s':Nat}
mutual
theorem zE8:(t:T)→ ∀(p p':List Nat)(b o:Nat),(∀z,G'.hd s' (z++p')=G.hd s (z++p))→(∀z,G'.ad s' (z++p')=G.ad s (z++p))→
  (∀b o z,G.lb b o=dS (dV,s,z++p)→G'.lb b o=dS (dV,s',z++p')∧yH w' b o=yH w b o)→Loc G w s t p b o→Loc G' w' s' t p' b o
 |.agg xs,p,p',b,o,hh,ha,hl,h=>by
  simp only[Loc]at h ⊢
  exact⟨by have:=ha [];simp at this;rw[this];exact h.1,zIN xs p p' 0 b o hh ha hl h.2⟩
 |.any,p,p',b,o,hh,ha,hl,h|.lit _,p,p',b,o,hh,ha,hl,h|.ro _,p,p',b,o,hh,ha,hl,h|.same _ _,p,p',b,o,hh,ha,hl,h|.addr _ _,p,p',b,o,hh,ha,hl,h|.sub _ _ _ _ _,p,p',b,o,hh,ha,hl,h|.sl _ _,p,p',b,o,hh,ha,hl,h|.ptr _,p,p',b,o,hh,ha,hl,h=>by
  simp only[Loc]at h ⊢
  have h1:=hl b o [] (by simpa using h.2.1);have h2:=ha [];have h3:=hh [];simp only[K6]at h1 h2 h3;exact⟨h2.trans h.1,h1.1,by rw[h1.2,h.2.2,h3]⟩
 |.tup _,_,_,_,_,_,_,_,h=>by simp only[Loc]at h
theorem zIN:(xs:List T)→ ∀(p p':List Nat)(j b o:Nat),(∀z,G'.hd s' (z++p')=G.hd s (z++p))→(∀z,G'.ad s' (z++p')=G.ad s (z++p))→
  (∀b o z,G.lb b o=dS (dV,s,z++p)→G'.lb b o=dS (dV,s',z++p')∧yH w' b o=yH w b o)→wV G w s xs p j b o→wV G' w' s' xs p' j b o
 | [],_,_,_,_,_,_,_,_,_=>by simp only[wV]
 |x::xs,p,p',j,b,o,hh,ha,hl,h=>by
  simp only[wV]at h ⊢
  exact⟨zE8 x (j::p) (j::p') b o (fun z=>by have:=hh (z++[j]);simpa using this) (fun z=>by have:=ha (z++[j]);simpa using this) (fun b o z hz=>by have:=hl b o (z++[j]) (by simpa using hz);simpa using this) h.1,
   zIN xs p p' (j+1) b _ hh ha hl h.2⟩
end
end
theorem zE9(G:Gh)(s:Nat):∀(xs us:List T)(p:List Nat)(j:Nat),yA G s (xs++us) p j=yA G s xs p j++yA G s us p (j+xs.length)
 | [],us,p,j=>by simp[yA]
 |x::xs,us,p,j=>by simp[yA,zE9 G s xs us p (j+1),Ll,Nat.add_comm 1]
theorem zEA:∀(xs us:List T),T.sizes (xs++us)=T.sizes xs+T.sizes us
 | [],us=>by simp[T.sizes]
 |x::xs,us=>by simp[T.sizes,zEA xs us,Ll]
theorem zDM:∀(xs us:List T),yE xs=dU→yE us=dU→yE (xs++us)=dU
 | [],us,_,h=>h
 |x::xs,us,h,h'=>by
  simp only[yE,J2,Hv]at h ⊢
  exact⟨h.1,zDM xs us h.2 h'⟩
theorem zDN:∀(xs us:List T),yK xs→yK us→yK (xs++us)
 | [],us,_,h=>h
 |x::xs,us,h,h'=>by
  simp only[yK,xF,Hv]at h ⊢
  exact⟨h.1,zDN xs us h.2 h'⟩
theorem zAe{St:Stb}{G:Gh}{w:World}{s:Nat}{k:Nat}:(xs:List T)→ ∀(p:List Nat)(j b o:Nat),wV G w s xs p j b o→yE xs=dU
 | [],_,_,_,_,_=>rfl
 |x::xs,p,j,b,o,h=>by simp only[wV]at h;simp only[yE,J2];exact⟨one x (j::p) b o h.1,zAe (St:=St) (k:=k) xs p (j+1) b _ h.2⟩
where
 one:(t:T)→ ∀(p:List Nat)(b o:Nat),Loc G w s t p b o→t.okTup=dU
  |.agg xs,p,b,o,h=>by simp only[Loc]at h;simp only[T.okTup];exact zAe (St:=St) (k:=k) xs p 0 b o h.2
  |.tup _,_,_,_,h=>by simp only[Loc]at h
  |.any,_,_,_,_|.lit _,_,_,_,_|.ro _,_,_,_,_|.same _ _,_,_,_,_|.addr _ _,_,_,_,_|.sub _ _ _ _ _,_,_,_,_|.sl _ _,_,_,_,_|.ptr _,_,_,_,_=>rfl
section
variable {P:Program}
structure zHj (P:Program) (t2:TypeId) (e:TypeId) (ti:TypeInfo) (xv:Value) (m:Nat) (nv:List Value) (w:World):Prop where
 arg:(∃e2 xa c,P.underlying t2=dS (.slice e2)∧xv=.slice xa m c∧ ∀w2:World,w2.heap=w.heap→(Builtin.firstCells ti.size m (.slice xa m c)).run P w2=.ok nv.toArray w2)∨
  ∃k2 k3 z,P.underlying t2=dS (.int k2)∧xv=.int k3 (m:Int)∧ti.zero=dS z∧nv.toArray=Builtin.zeroCells z.cells m∧m*ti.bytes≤2 ^ 47∧z.cells.size=ti.size
theorem zEB{t t2 ty e:TypeId}{ti:TypeInfo}{xv:Value}{m:Nat}{nv:List Value}{w w':World}(ht:P.underlying t=dS (.slice e))(hi:P.info? e=dS ti)
  (hx:zHj P t2 e ti xv m nv w)(hm:m≤68719476736){base:Option Addr}{n cap:Nat}(gS:n+m≤cap)
  (gJ:(if let dS a:=base then storeCells (a.add (n*ti.size)) nv else pure ():Sem Unit).run P w=.ok () w'):
  (Builtin.append_ #[t,t2] ty #[.slice base n cap,xv]).run P w=.ok (.slice base (n+m) cap) w':=by
 rcases hx.arg with⟨e2,xa,c,h1,rfl,h2⟩|⟨k2,k3,z,h1,rfl,h2,h3,h4,h5⟩
 ·have h2:=h2 w rfl
  cases base with
  |none=>
   simp at gJ;subst gJ;simp[Builtin.append_,run_underlying ht,run_underlying h1,sizeOf,typeInfo,hi,Builtin.lenOf,gS,h2]
  |some a=>
   simp only at gJ;simp[Builtin.append_,run_underlying ht,run_underlying h1,sizeOf,typeInfo,hi,Builtin.lenOf,gS,h2,gJ]
 ·have pK:IntKind.i64.wrap (m:Int)=m:=by rw[IntKind.wrap_i64];omega
  have mB:¬(281474976710656<(m:Int)*(ti.bytes:Int)):=by
   have:((m*ti.bytes:Nat):Int)≤2 ^ 47:=by exact_mod_cast h4
   rw[Ls]at this;omega
  have fC:¬((m:Int)<0):=by omega
  have mM:nv=(Builtin.zeroCells z.cells m).toList:=by rw[←h3]
  by_cases hz:m*ti.size=0
  ·have m6:nv=[]:=by
    apply Jz;rw[mM];simp[Builtin.zeroCells,h5,hz]
   subst m6;cases base with
   |none=>
    simp at gJ;subst gJ;simp[Builtin.append_,run_underlying ht,run_underlying h1,sizeOf,typeInfo,hi,asInt,asIntOf,pK,mB,fC,gS,hz]
   |some a=>
    simp only[storeCells,Sem.run_pure]at gJ;cases gJ;simp[Builtin.append_,run_underlying ht,run_underlying h1,sizeOf,typeInfo,hi,asInt,asIntOf,pK,mB,fC,gS,hz,storeCells]
  ·cases base with
   |none=>
    simp at gJ;subst gJ;simp[Builtin.append_,run_underlying ht,run_underlying h1,sizeOf,typeInfo,zeroValue,hi,h2,asInt,asIntOf,pK,mB,fC,gS]
   |some a=>
    simp only[mM]at gJ;simp[Builtin.append_,run_underlying ht,run_underlying h1,sizeOf,typeInfo,zeroValue,hi,h2,asInt,asIntOf,pK,mB,fC,gS,hz,gJ]
theorem zJX{t t2 ty e:TypeId}{ti:TypeInfo}{z xv:Value}{m:Nat}{nv olds:List Value}{w:World}(ht:P.underlying t=dS (.slice e))(hi:P.info? e=dS ti)(hz:ti.zero=dS z)
  (hx:zHj P t2 e ti xv m nv w){base:Option Addr}{n cap:Nat}(gV:cap<n+m)(c0:n+m≤68719476736)(hb:ti.bytes≤2048)
  (gF:∀w2:World,w2.heap=w.heap→(Builtin.firstCells ti.size n (.slice base n cap)).run P w2=.ok olds.toArray w2):
  (Builtin.append_ #[t,t2] ty #[.slice base n cap,xv]).run P w=.ok (.slice (dS ⟨w.heap.size,0,dT⟩) (n+m) (grownCap w (n+m) cap e))
    (w.drew.alloc (.cells ((olds++nv).toArray++Builtin.zeroCells z.cells (grownCap w (n+m) cap e-(n+m))) e)):=by
 have hn:¬(n+m≤cap):=by omega
 have mz:¬(9223372036854775807<((n:Int)+(m:Int))):=by omega
 have du:=growslice_fits (need:=n+m) (old:=cap) (bytes:=ti.bytes) gV (Ht (Jy c0 hb) (by decide));have mA:¬(281474976710656<Builtin.nextslicecap (n+m) cap*ti.bytes):=by omega
 have ho:=gF w.drew rfl;rcases hx.arg with⟨e2,xa,c,h1,rfl,h2⟩|⟨k2,k3,z',h1,rfl,h2,h3,h4,h5⟩
 ·have h2:=h2 w.drew rfl
  simp[Builtin.append_,run_underlying ht,run_underlying h1,sizeOf,typeInfo,zeroValue,hi,hz,Builtin.lenOf,hn,mz,mA,Question.forced,h2,ho,newRow,grownCap]
  congr 2
  apply Jap;simp
 ·have pK:IntKind.i64.wrap (m:Int)=m:=by rw[IntKind.wrap_i64];omega
  have mB:¬(281474976710656<(m:Int)*(ti.bytes:Int)):=by
   have:((m*ti.bytes:Nat):Int)≤2 ^ 47:=by exact_mod_cast h4
   rw[Ls]at this;omega
  have fC:¬((m:Int)<0):=by omega
  have mM:nv=(Builtin.zeroCells z'.cells m).toList:=by rw[←h3]
  rw[hz]at h2;simp at h2;subst h2
  by_cases cN:m*ti.size=0
  ·have m6:nv=[]:=by
    apply Jz;rw[mM];simp[Builtin.zeroCells,h5,cN]
   subst m6;simp[Builtin.append_,run_underlying ht,run_underlying h1,sizeOf,typeInfo,zeroValue,hi,hz,asInt,asIntOf,pK,mB,fC,hn,mz,mA,Question.forced,cN,ho,newRow,grownCap]
  ·simp[Builtin.append_,run_underlying ht,run_underlying h1,sizeOf,typeInfo,zeroValue,hi,hz,asInt,asIntOf,pK,mB,fC,hn,mz,mA,Question.forced,cN,ho,newRow,grownCap,←h3]
   congr 2
   apply Jap;simp
end
def zEh(s0:Nat)(y:Option Nat)(n:Nat)(s:Nat)(z:List Nat):Option (List Nat):=
 if s=s0 then dS z else if y=dS s then(match z.getLast? with
  |some j=>dS (z.dropLast++[n+j])
  |none=>dT)else dT
def Gh.ip(G:Gh)(d s0:Nat)(y:Option Nat)(b n k oa:Nat)(us:List T)(f2:Nat→List Nat→Value)(gW:Value):Gh where
 hd s z:=if s=d then(match z.getLast? with
  |some i=>if i<n then G.hd s0 z else f2 (i-n) z.dropLast
  |none=>gW)else G.hd s z
 ad s z:=if s=d then(match z.getLast? with
  |some i=>if i<n then G.ad s0 z else if(T.agg us).inT ((i-n)::z.dropLast.reverse)then⟨b,oa+(T.agg us).offT ((i-n)::z.dropLast.reverse),dT⟩else(match y with
   |some y=>G.ad y (z.dropLast++[i-n])
   |none=>default)
  |none=>default)else G.ad s z
 lb b' o:=if b'=b∧oa≤o∧o<oa+us.length*k then(match zCC us [] n (o-oa)with
  |some p=>dS (dV,d,p)
  |none=>dT)else match G.lb b' o with
  |some (fl,s,z)=>(match zEh s0 y n s z with
   |some z'=>dS (fl,d,z')
   |none=>dS (fl,s,z))
  |none=>dT
 ow b':=match G.ow b' with
  |some (s,z)=>(match zEh s0 y n s z with
   |some z'=>dS (d,z')
   |none=>dS (s,z))
  |none=>dT
def aWr(d s0:Nat)(y:Option Nat)(k:Nat)(ts:List T):Wr:=(d,dS (.sl k ts))::(s0,dS .any)::(match y with
 |some y=>[(y,dS .any)]
 |none=>[])
def zBj(d s0:Nat)(y:Option Nat):Chg:=(d,0)::(s0,1)::(match y with
 |some y=>[(y,1)]
 |none=>[])
structure zHk (Γ:Ctx) (E:Env) (G:Gh) (d s0:Nat) (y:Option Nat) (k n:Nat) (us:List T) (f2:Nat→List Nat→Value) (nv:List Value):Prop where
 size:∀u∈us,u.size=k
 tup:yE us=dU
 clean:yK us
 one:∀j z,(f2 j z).oneCell'=dU
 len:nv.length=us.length*k
 slot:∀y',y=dS y'→y'≠d∧y'≠s0∧E y'=dS (.sl k us)∧ ∀j z,f2 j z=G.hd y' (z++[j])
 none:y=dT→ ∀(j:Nat) u,us[j]? =dS u→ ∀(G2:Gh)(w2:World),(∀z,G2.hd d (z++[n+j])=f2 j z)→R Γ.St G2 w2 d u [n+j]
 vals:∀(G2:Gh),(∀j z,G2.hd d (z++[n+j])=f2 j z)→ ∀(o:Nat)(v:Value),(yA G2 d us [] n)[o]? =dS v→nv[o]? =dS v
theorem zLl{G G2:Gh}{s d:Nat}:(xs:List T)→ ∀(p:List Nat)(j:Nat),(∀i,i<xs.length→ ∀z,G2.hd d (z++((j+i)::p))=G.hd s (z++((j+i)::p)))→yA G2 d xs p j=yA G s xs p j
 | [],_,_,_=>by simp only[yA]
 |x::xs,p,j,h=>by
  simp only[yA];have ih:yA G2 d xs p (j+1)=yA G s xs p (j+1):=zLl xs p (j+1) (fun i hi z=>by rw[show j+1+i=j+(i+1)from by omega];exact h (i+1) (by simpa using hi) z)
  rw[zBp x (j::p) (j::p) (by simpa using h 0 (by simp)),ih]
theorem zDO(z:List Nat):z=[]∨ ∃y i,z=y++[i]:=by
 rcases List.eq_nil_or_concat z with h|⟨y,i,h⟩
 ·exact .inl h
 ·exact .inr ⟨y,i,by simpa using h⟩
section
variable {P:Program}{Γ:Ctx}{E:Env}{d:Nat}
theorem zCh{G:Gh}{a:Act}{w:World}(g9:Rep Γ E G a.tmps w)(hd:d<Γ.N){t t2 ty e:TypeId}{ti:TypeInfo}{z:Value}{k:Nat}(ht:P.underlying t=dS (.slice e))(hi:P.info? e=dS ti)(hz:ti.zero=dS z)
  (hk:ti.size=k)(_hk0:0<k)(fw:z.cells.size=k)(hb:ti.bytes≤2048){s0:Nat}{y:Option Nat}{xs us:List T}{f2:Nat→List Nat→Value}{nv:List Value}(e6:E s0=dS (.sl k xs))(eZ:s0≠d)
  (hn:zHk Γ E G d s0 y k xs.length us f2 nv){xv:Value}(hx:zHj P t2 e ti xv us.length nv w)(gp:∀v∈nv,v.oneCell'=dU)(c0:xs.length+us.length≤68719476736):
  ∃v w',(Builtin.append_ #[t,t2] ty #[G.hd s0 [],xv]).run P w=.ok v w'∧ ∃G',Rep Γ (E.app (aWr d s0 y k (xs++us)) (zBj d s0 y)) G' (a.tmps.setIfInBounds d v) w':=by
 have hm:=g9.mem;obtain⟨e1,e2,e3⟩:=g9.ent s0 _ e6;simp only[Top]at e3;simp only[R]at e2;have pR:T.sizes us=us.length*k:=wA us hn.size;have fin:∀(G':Gh)(w':World)(v:Value),qN (zBj d s0 y) G w G' w'→Mem Γ G' w'→G'.hd d []=v→R Γ.St G' w' d (.sl k (xs++us)) []→(∀s p,s≠d→G'.hd s p=G.hd s p)→
   Rep Γ (E.app (aWr d s0 y k (xs++us)) (zBj d s0 y)) G' (a.tmps.setIfInBounds d v) w':=by
  intro G' w' v gy gu hdv bZ hother;refine wW g9 (by simp) gy gu ?_ ?_
  ·intro s hs
   have gc:s≠d:=by rintro rfl;simp[aWr,Wr.find]at hs
   have ff:s≠s0:=by rintro rfl;simp[aWr,Wr.find,gc.symm]at hs
   have d6:∀y',y=dS y'→s≠y':=by
    rintro y' rfl rfl
    simp[aWr,Wr.find,gc.symm,ff.symm]at hs
   refine⟨fun n' hn'=>?_,by rw[Jc];simp[gc.symm]⟩;simp only[zBj,Jq,Qj.injEq]at hn';rcases hn' with⟨h1,_⟩|⟨h1,_⟩|hn'
   ·exact gc h1
   ·exact ff h1
   ·cases y with
    |none=>simp at hn'
    |some y'=>simp at hn';exact d6 y' rfl hn'.1
  ·intro s t' hs
   by_cases h1:s=d
   ·subst h1
    simp[aWr,Wr.find]at hs;subst hs;refine⟨?_,bZ,by simp only[Top];exact zDN xs us e3 hn.clean⟩;rw[Jc];simp[g9.size,hd,mkV,hdv]
   ·have h3:t'=.any∧(s=s0∨y=dS s):=by
     simp only[aWr,Wr.find]at hs;rw[if_neg (fun h=>h1 h.symm)]at hs;split at hs
     ·rename_i h2;simp at hs;exact⟨hs.symm,.inl h2.symm⟩
     ·cases y with
      |none=>simp[Wr.find]at hs
      |some y'=>
       simp only[Wr.find]at hs;split at hs
       ·rename_i h2;simp at hs;exact⟨hs.symm,.inr (by rw[h2])⟩
       ·cases hs
    obtain⟨rfl,h3⟩:=h3;refine⟨?_,by simp only[R],by simp[Top]⟩;rw[Jc];simp only[Ne.symm h1,if_false,mkV];rw[hother s [] h1];rcases h3 with rfl|h3
    ·exact e1
    ·obtain⟨_,_,h4,_⟩:=hn.slot s h3
     exact(g9.ent s _ h4).1
 have cw:∀s p,(∀n',(s,n')∉zBj d s0 y)→zEh s0 y xs.length s p=dT:=by
  intro s p h;have h1:s≠s0:=fun e=>h 1 (by simp[zBj,e])
  have h2:y≠dS s:=fun e=>h 1 (by simp[zBj,e])
  simp[zEh,h1,h2]
 by_cases gS:∃a' c,G.hd s0 []=.slice a' xs.length c∧xs.length+us.length≤c
 ·
  obtain⟨a',c,hh,gS⟩:=gS;rcases e2 with⟨rfl,a1,h1⟩|⟨b,o0,cap,cs,et,h1,h2,h3,h4,h5,h6,h7,h8⟩
  ·rw[h1]at hh
   simp at hh;obtain⟨rfl,rfl⟩:=hh;have fo:us=[]:=Jz (by simp only[U5]at gS;omega);subst fo;have mM:nv=[]:=Jz (by have:=hn.len;simp at this;simp[this]);subst mM;have gA:=zEB (P:=P) (t:=t) (ty:=ty) (w':=w) ht hi hx (by simp) (base:=a1) (n:=0) (cap:=0) (by simp) (by cases a1<;>rfl);refine⟨.slice a1 0 0,w,by rw[h1];exact gA,G.put d (fun _=>.slice a1 0 0),fin _ w _ ?_ (hm.put rfl d _ (fun _=>rfl)) (by rw[Gh.put_self]) (by simp[R,Gh.put]) (fun s p h=>G.put_other _ p h)⟩;have:=G.put_keep (w:=w) (w':=w) rfl d (fun _=>.slice a1 0 0);exact⟨fun s p h=>this.hd s p (fun n hn=>h n (by simp at hn;simp[zBj,hn])),fun s p h=>this.ad s p (fun n hn=>h n (by simp at hn;simp[zBj,hn])),fun b o f s p h0 h1 h2=>this.lb b o f s p h0 h1 (fun n hn=>h2 n (by simp at hn;simp[zBj,hn])),fun b s p h1 h2=>this.ow b s p h1 (fun n hn=>h2 n (by simp at hn;simp[zBj,hn])),this.blk⟩
  ·rw[h1]at hh
   simp at hh;obtain⟨rfl,rfl⟩:=hh;have hmk0:us.length*k+xs.length*k≤cap*k:=by rw[←Lv];exact Kz _ (by omega)
   have aY:∀o,o0+(xs.length*k+us.length*k)≤o→o0+xs.length*k≤o:=fun o h=>by omega
   generalize hoa:o0+xs.length*k=oa at h7 aY
   have hmk':oa+us.length*k≤o0+cap*k:=by omega
   have hmk:us.length*k+oa≤cs.size:=by omega
   generalize eC:w.setRow b (cs.toList.take (oa)++nv++cs.toList.drop (oa+nv.length)).toArray=w'
   have eg:w'.heap[b]? =dS (.cells (cs.toList.take (oa)++nv++cs.toList.drop (oa+nv.length)).toArray et (0,0)):=by rw[←eC];exact setRow_heap w b cs _ et _ h2
   have gF:∀b',b'≠b→w'.heap[b']? =w.heap[b']?:=fun b' h=>by rw[←eC];exact setRow_other w b b' _ h
   have gQ:w'.heap.size=w.heap.size:=by rw[←eC];exact size_setRow w b _
   have hcsl:cs.toList.length=cs.size:=K7 ..;have fN:=hn.len;have eK:∀i,yH w' b i=if oa≤i∧i<oa+us.length*k then nv[i-oa]? else yH w b i:=by
    intro i;simp only[yH,World.cell?,eg,h2,Q3,Lz,if_false];rw[←Kf,←Kf (xs:=cs)];simp only[]
    by_cases g1:i<oa
    ·rw[if_neg (by omega),Ji,Kg (by simp;omega),Ug g1]
    ·by_cases g2:i<oa+us.length*k
     ·rw[if_pos ⟨by omega,g2⟩,Ji,Jf (by simp;omega),Kg (by simp;omega)]
      congr 1;simp;omega
     ·rw[if_neg (by omega),Ji,Jf (by simp;omega),Jf (by simp;omega),La]
      congr 1;simp;omega
   have gN:∀b' o fl s p,G.lb b' o=dS (fl,s,p)→(fl,s,p)≠(dU,s0,[])→ ¬(b'=b∧oa≤o∧o<oa+us.length*k):=by
    rintro b' o fl s p g1 g2 ⟨rfl,g3,g4⟩
    rw[h7 o g3 (by omega)]at g1;simp at g1;exact g2 (by simp[←g1.1,←g1.2.1,←g1.2.2])
   have eY:∀b' o,¬(b'=b∧oa≤o∧o<oa+us.length*k)→yH w' b' o=yH w b' o:=by
    intro b' o g
    by_cases eL:b'=b
    ·subst eL
     rw[eK,if_neg (fun g2=>g ⟨rfl,g2⟩)]
    ·simp[yH,World.cell?,gF b' eL]
   have cx:((cs.toList.take (oa)++nv++cs.toList.drop (oa+nv.length)).toArray).size=cs.size:=by simp;omega
   have eh:Blk w w':=by
    intro b' cs' e' g1
    by_cases eL:b'=b
    ·subst eL
     rw[h2]at g1;simp at g1;obtain⟨rfl,rfl⟩:=g1;exact⟨_,eg,cx⟩
    ·exact⟨cs',by rw[gF b' eL];exact g1,rfl⟩
   generalize gm:G.ip d s0 y b xs.length k oa us f2 (.slice (dS ⟨b,o0,dT⟩) (xs.length+us.length) cap)=G'
   have ghdr:G'.hd d []=.slice (dS ⟨b,o0,dT⟩) (xs.length+us.length) cap:=by rw[←gm];simp[Gh.ip]
   have ghd1:∀i z,i<xs.length→G'.hd d (z++[i])=G.hd s0 (z++[i]):=fun i z g=>by rw[←gm];simp[Gh.ip,g]
   have ghd2:∀j z,G'.hd d (z++[xs.length+j])=f2 j z:=fun j z=>by rw[←gm];simp[Gh.ip,show¬xs.length+j<xs.length from by omega]
   have ghd0:∀s z,s≠d→G'.hd s z=G.hd s z:=fun s z g=>by rw[←gm];simp[Gh.ip,g]
   have gad0:∀s z,s≠d→G'.ad s z=G.ad s z:=fun s z g=>by rw[←gm];simp[Gh.ip,g]
   have gad1:∀i z,i<xs.length→G'.ad d (z++[i])=G.ad s0 (z++[i]):=fun i z g=>by rw[←gm];simp[Gh.ip,g]
   have gad2:∀j f,(T.agg us).inT (j::f)=dU→G'.ad d (f.reverse++[xs.length+j])=⟨b,oa+(T.agg us).offT (j::f),dT⟩:=fun j f g=>by rw[←gm];simp[Gh.ip,g,show¬xs.length+j<xs.length from by omega]
   have gad3:∀y' j z,y=dS y'→(T.agg us).inT (j::z.reverse)=dV→G'.ad d (z++[xs.length+j])=G.ad y' (z++[j]):=fun y' j z g1 g2=>by rw[←gm];simp[Gh.ip,g1,g2,show¬xs.length+j<xs.length from by omega]
   have glb2:∀i p,i<us.length*k→zCC us [] xs.length i=dS p→G'.lb b (oa+i)=dS (dV,d,p):=fun i p g1 g2=>by rw[←gm];simp only[Gh.ip];rw[if_pos (by simp;omega),show oa+i-oa=i from by omega,g2]
   have glb0:∀b' o fl s p,G.lb b' o=dS (fl,s,p)→ ¬(b'=b∧oa≤o∧o<oa+us.length*k)→zEh s0 y xs.length s p=dT→G'.lb b' o=dS (fl,s,p):=fun b' o fl s p g1 g2 g3=>by rw[←gm];simp only[Gh.ip];rw[if_neg g2,g1];simp[g3]
   have glb1:∀b' o fl s p p',G.lb b' o=dS (fl,s,p)→ ¬(b'=b∧oa≤o∧o<oa+us.length*k)→zEh s0 y xs.length s p=dS p'→G'.lb b' o=dS (fl,d,p'):=fun b' o fl s p p' g1 g2 g3=>by rw[←gm];simp only[Gh.ip];rw[if_neg g2,g1];simp[g3]
   have gow0:∀b' s p,G.ow b'=dS (s,p)→zEh s0 y xs.length s p=dT→G'.ow b'=dS (s,p):=fun b' s p g1 g2=>by rw[←gm];simp[Gh.ip,g1,g2]
   have gow1:∀b' s p p',G.ow b'=dS (s,p)→zEh s0 y xs.length s p=dS p'→G'.ow b'=dS (d,p'):=fun b' s p p' g1 g2=>by rw[←gm];simp[Gh.ip,g1,g2]
   have fd:∀p,zEh s0 y xs.length s0 p=dS p:=fun p=>by simp[zEh]
   have px:∀y' z j,y=dS y'→y'≠s0→zEh s0 y xs.length y' (z++[j])=dS (z++[xs.length+j]):=fun y' z j g1 g2=>by simp[zEh,g1,g2]
   have gc:∀s p,Off (zBj d s0 y) s p→s≠d:=fun s p h e=>absurd (h 0 (by simp[zBj,e])) (by simp)
   have gy:qN (zBj d s0 y) G w G' w':=by
    refine⟨fun s p h=>ghd0 s p (gc s p h),fun s p h=>gad0 s p (gc s p h),fun b' o fl s p _ g1 g2=>?_,fun b' s p g1 g2=>gow0 b' s p g1 (cw s p g2),eh⟩;have hs:s≠s0:=fun e=>g2 1 (by simp[zBj,e])
    have g3:=gN b' o fl s p g1 (by simp[hs]);exact⟨glb0 b' o fl s p g1 g3 (cw s p g2),eY b' o g3⟩
   have mT:=hm.ow b _ h6;have gu:Mem Γ G' w':=by
    refine⟨fun s z=>?_,fun b' o' l hl=>?_,fun b' l hl=>?_,fun b' x' ef=>?_,fun b' g1 g2=>?_,by rw[gQ];exact hm.sz,hm.bk.trans eh (by rw[←eC];rfl) (by rw[←eC];rfl)⟩
    ·by_cases g:s=d
     ·subst g
      rcases zDO z with rfl|⟨z',i,rfl⟩
      ·rw[ghdr];rfl
      ·by_cases g1:i<xs.length
       ·rw[ghd1 i z' g1];exact hm.one _ _
       ·have:=ghd2 (i-xs.length) z'
        rw[show xs.length+(i-xs.length)=i from by omega]at this;rw[this];exact hn.one _ _
     ·rw[ghd0 s z g];exact hm.one _ _
    ·have:zCA Γ w b':=by
      rw[←gm]at hl;simp only[Gh.ip]at hl;split at hl
      ·rename_i g;rw[g.1];exact mT
      ·split at hl
       ·rename_i g;exact hm.lb _ _ _ g
       ·cases hl
     exact⟨by rw[gQ];exact this.1,this.2⟩
    ·have:zCA Γ w b':=by
      rw[←gm]at hl;simp only[Gh.ip]at hl;split at hl
      ·rename_i g;exact hm.ow _ _ g
      ·cases hl
     exact⟨by rw[gQ];exact this.1,this.2⟩
    ·have eL:b'≠b:=by rintro rfl;rw[mT.2.2]at ef;cases ef
     rw[gF b' eL];exact hm.st b' x' ef
    ·have eL:b'≠b:=by
      rintro rfl
      rcases mT.2.1 with g3|g3
      ·omega
      ·exact g2 g3
     rw[gF b' eL];exact hm.fr b' g1 g2
   have ma:wV G' w' d us [] xs.length b (oa):=by
    refine zGB us [] xs.length b (oa) hn.tup (fun i x ef f hf=>?_) (fun i p' g1 g2=>glb2 i p' (by omega) g2) (fun i v hv=>?_)
    ·have:=gad2 i f (by simp only[T.inT,ef];exact hf)
     simpa[T.offT,ef]using this
    ·have g1:=hn.vals G' ghd2 i v hv
     have g2:=(J9.1 g1).1;rw[eK,if_pos ⟨by omega,by omega⟩,show oa+i-oa=i from by omega];exact g1
   have bZ:R Γ.St G' w' d (.sl k (xs++us)) []:=by
    simp only[R];rw[ghdr];refine .inr ⟨b,o0,cap,_,et,by simp,eg,by simp;omega,h4,by rw[cx];exact h5,gow1 b s0 [] [] h6 (fd []),?_,zEg _ _ _ _ _ (fun i x ef=>?_)⟩
    ·intro o g1 g2
     rw[J7,Lv]at g1;exact glb1 b o dU s0 [] [] (h7 o (by omega) g2) (by omega) (fd [])
    ·rw[Kd]at ef
     simp only[Ja];split at ef
     ·rename_i gE
      obtain⟨g1,g2,g3⟩:=sL xs [] 0 b o0 k i x h8 ef;simp only[Ja]at g1 g3;have mc:∀b' o fl z,G.lb b' o=dS (fl,s0,z++[i])→G'.lb b' o=dS (fl,d,z++[i])∧yH w' b' o=yH w b' o:=fun b' o fl z g=>by have g4:=gN b' o fl s0 _ g (by simp);exact⟨glb1 b' o fl s0 _ _ g g4 (fd _),eY b' o g4⟩
      refine⟨zE8 x [i] [i] b _ (fun z=>ghd1 i z gE) (fun z=>gad1 i z gE) (fun b' o z g=>mc b' o dV z g) g1,g2,?_⟩;refine zAa (G:=G) (w:=w) (s:=s0) (p:=[i]) ⟨⟨fun z=>ghd1 i z gE,fun z _=>gad1 i z gE,fun b' o f z _ _ g=>mc b' o f z g,fun b' z _ g=>gow1 b' s0 _ _ g (fd _),eh⟩,fun b' o _ g=>?_,fun b' g=>gow1 b' s0 _ _ g (fd _)⟩ x (yN.mono (fun _ _=>False.elim) x (vR xs e3 i x ef)) g3;have:=mc b' o dU [] (by simpa using g);simpa using this
     ·rename_i hge
      obtain⟨j,rfl⟩:∃j,i=xs.length+j:=⟨i-xs.length,by omega⟩;rw[show xs.length+j-xs.length=j from by omega]at ef;have g1:=zE5 us [] xs.length b (oa) j x ma ef;rw[show T.sizes (us.take j)=j*k from by rw[wA _ (fun u hu=>hn.size u (List.mem_of_mem_take hu)),L5,H4 (by have:=(J9.1 ef).1;omega)],show oa+j*k=o0+(xs.length+j)*k from by rw[Lv];omega]at g1
      refine⟨g1,hn.size x (L7 ef),?_⟩;cases hy:y with
      |none=>exact hn.none hy j x ef G' w' (fun z=>ghd2 j z)
      |some y'=>
       obtain⟨y1,y2,y3,y4⟩:=hn.slot y' hy;obtain⟨_,y5,_⟩:=g9.ent y' _ y3;simp only[R]at y5;rcases y5 with⟨rfl,_⟩|⟨b2,o2,cap2,cs2,et2,_,_,_,_,_,_,_,y6⟩
       ·simp at ef
       ·obtain⟨_,_,y7⟩:=sL us [] 0 b2 o2 k j x y6 ef
        simp only[Ja]at y7;refine zLd x [j] [xs.length+j] (zDn.okTups_get us hn.tup j x ef) ⟨fun z=>by rw[ghd2,y4],fun z g=>gad3 y' j z hy (by simp only[T.inT,ef];exact g),fun b' o fl z _ g=>?_,fun b' z g=>gow1 b' y' _ _ g (px y' z j hy y2),eh⟩ (yN.mono (fun _ _=>False.elim) x (vR us hn.clean j x ef)) y7;have g4:=gN b' o fl y' _ g (by simp[y2]);exact⟨glb1 b' o fl y' _ _ g g4 (px y' z j hy y2),eY b' o g4⟩
   have gJ:=run_storeCells_at P b (oa) et nv 0 cs w h2 (by omega) gp;simp only[Jam]at gJ;rw[eC]at gJ;have gA:=zEB (P:=P) (t:=t) (ty:=ty) (w':=w') ht hi hx (by omega) (base:=dS ⟨b,o0,dT⟩) gS (by simp only[hk,vJ,hoa];exact gJ);refine⟨_,w',by rw[h1];exact gA,G',fin G' w' _ gy gu ghdr bZ ghd0⟩
 ·
  have bV:∃a' c,G.hd s0 []=.slice a' xs.length c∧ ∀w2:World,w2.heap=w.heap→(Builtin.firstCells ti.size xs.length (.slice a' xs.length c)).run P w2=.ok (yA G s0 xs [] 0).toArray w2:=by
   rcases e2 with⟨rfl,a1,h1⟩|⟨b,o0,cap,cs,et,h1,h2,h3,h4,h5,h6,h7,h8⟩
   ·exact⟨a1,0,h1,fun w2 _=>by cases a1<;>simp[Builtin.firstCells,loadCells,loadCellsFrom,yA]⟩
   ·refine⟨_,_,h1,fun w2 mF=>?_⟩
    have hl:=kD xs [] 0 b o0 h8;refine run_firstCells_some (P:=P) w2 ti.size xs.length ⟨b,o0,dT⟩ _ _ _ ?_ (fun j v hv=>?_)
    ·rw[xT,hk]
     exact wA xs (zBI xs [] 0 b o0 h8).2
    ·have:=zAL xs [] 0 b o0 hl j v hv
     rw[vJ];simp only[yH]at this;simpa[World.cell?,mF]using this
  obtain⟨a',c,hh,gF⟩:=bV;have ek:yE xs=dU∧(∀x∈xs,x.size=k)∧ ∀i x,xs[i]? =dS x→R Γ.St G w s0 x [i]:=by
   rcases e2 with⟨rfl,a1,h1⟩|⟨b,o0,cap,cs,et,h1,h2,h3,h4,h5,h6,h7,h8⟩
   ·simp[yE]
   ·refine⟨zAe (St:=Γ.St) (k:=k) xs [] 0 b o0 (kD xs [] 0 b o0 h8),(zBI xs [] 0 b o0 h8).2,fun i x ef=>?_⟩
    have:=(sL xs [] 0 b o0 k i x h8 ef).2.2;simpa using this
  have gV:c<xs.length+us.length:=by
   rcases Js c (xs.length+us.length)with g|g
   ·exact g
   ·exact absurd ⟨a',c,hh,g⟩ gS
  have gA:=zJX (P:=P) (t:=t) (ty:=ty) ht hi hz hx gV c0 hb gF;have hge:=grownCap_ge w (xs.length+us.length) c e;have a9:=grownCap_le_maxLen w (xs.length+us.length) c e (by simp only[maxLen];omega)
  generalize grownCap w (xs.length+us.length) c e=cap' at gA hge a9
  generalize eC:w.drew.alloc (.cells ((yA G s0 xs [] 0++nv).toArray++Builtin.zeroCells z.cells (cap'-(xs.length+us.length))) e)=w' at gA
  have hwh:w'.heap=w.heap.push (.cells ((yA G s0 xs [] 0++nv).toArray++Builtin.zeroCells z.cells (cap'-(xs.length+us.length))) e):=by rw[←eC];rfl
  have pg:T.sizes xs=xs.length*k:=wA xs ek.2.1;obtain⟨g1,g2,g3,g4,g5⟩:=zDn hm hwh d (xs++us) (fun i=>if i<xs.length then dS (s0,[i])else y.map fun y'=>(y',[i-xs.length])) (zEh s0 y xs.length) (fun i z=>if i<xs.length then G.hd s0 (z++[i])else f2 (i-xs.length) z) (.slice (dS ⟨w.heap.size,0,dT⟩) (xs.length+us.length) cap') ((zBj d s0 y).tail)
   (zDM xs us ek.1 hn.tup) (fun i z=>by split;exact hm.one _ _;exact hn.one _ _) rfl
   (fun i u x q z' hu hs=>by
    split at hs
    ·simp at hs;obtain⟨rfl,rfl⟩:=hs;simp[zEh]
    ·rename_i fh
     cases y with
     |none=>simp at hs
     |some y'=>
      simp at hs;obtain⟨rfl,rfl⟩:=hs;have:=(hn.slot y' rfl).2.1;simp[zEh,this,show xs.length+(i-xs.length)=i from by omega])
   (fun i u x q hu hs=>by
    rw[Kd]at hu;split at hs
    ·rename_i gE
     rw[if_pos gE]at hu;simp at hs;obtain⟨rfl,rfl⟩:=hs;exact⟨fun z'=>by simp[gE],ek.2.2 i u hu,vR xs e3 i u hu,eZ⟩
    ·rename_i fh
     rw[if_neg fh]at hu;cases hy:y with
     |none=>rw[hy]at hs;simp at hs
     |some y'=>
      rw[hy]at hs;simp at hs;obtain⟨rfl,rfl⟩:=hs;obtain⟨y1,y2,y3,y4⟩:=hn.slot y' hy;obtain⟨_,y5,_⟩:=g9.ent y' _ y3;simp only[R]at y5;refine⟨fun z'=>by simp[fh,y4],?_,vR us hn.clean _ u hu,y1⟩;rcases y5 with⟨rfl,_⟩|⟨b2,o2,cap2,cs2,et2,_,_,_,_,_,_,_,y6⟩
      ·simp at hu
      ·have:=(sL us [] 0 b2 o2 k _ u y6 hu).2.2
       simpa using this)
   (fun i u hu hs G2 w2 eG=>by
    rw[Kd]at hu;split at hs
    ·cases hs
    ·rename_i fh
     rw[if_neg fh]at hu;cases hy:y with
     |some y'=>rw[hy]at hs;simp at hs
     |none=>
      have:=hn.none hy (i-xs.length) u hu G2 w2 (fun z'=>by rw[show xs.length+(i-xs.length)=i from by omega,eG,if_neg fh])
      rwa [show xs.length+(i-xs.length)=i from by omega]at this)
   (fun G2 eG o v hv=>by
    rw[zE9,Ja]at hv;have h1:yA G2 d xs [] 0=yA G s0 xs [] 0:=zLl xs [] 0 (fun i ey z'=>by rw[Ja,eG,if_pos ey]);rw[h1]at hv;have mc:(yA G s0 xs [] 0).length=xs.length*k:=by rw[xT,pg]
    have df:(yA G2 d us [] xs.length).length=us.length*k:=by rw[xT,pR]
    have ho:o<xs.length*k+us.length*k:=by have:=(J9.1 hv).1;rw[J7]at this;omega
    have fN:=hn.len;rw[Array.getElem?_append_left (by simp;omega),List.getElem?_toArray];rw[Kd]at hv ⊢
    split at hv
    ·rename_i gE;rw[if_pos gE];exact hv
    ·rename_i fh;rw[if_neg fh]
     exact hn.vals G2 (fun j z'=>by rw[eG,if_neg (by omega),show xs.length+j-xs.length=j from by omega]) _ v hv)
   (fun s p h=>cw s p (by simpa[zBj]using h)) (ho:=by rw[←eC];rfl) (hq:=by rw[←eC];rfl)
  refine⟨_,w',by rw[hh];exact gA,_,fin _ w' _ (by simpa[zBj]using g1) g2 (by simp[Gh.nb]) ?_ (fun s p h=>by simp[Gh.nb,h])⟩;simp only[R];refine .inr ⟨w.heap.size,0,cap',_,e,by simp[Gh.nb],g5,by simpa using hge,a9,?_,by simp[Gh.nb],?_,zRA _ _ _ _ _ (fun x ef=>?_) g3 g4⟩
  ·have mc:(yA G s0 xs [] 0).length=xs.length*k:=by rw[xT,pg]
   have fN:=hn.len;simp only[Array.size_append,Ja5,J7,size_zeroCells,fw,mc,fN,←Lv];rw[Ja];exact Kz _ (by omega)
  ·intro o ho _
   rw[J7,Lv]at ho;simp[Gh.nb,zEd (xs++us) [] 0 o (by rw[zEA];omega)]
  ·rcases Jv.1 ef with h|h
   ·exact ek.2.1 x h
   ·exact hn.size x h
end
end Go.Ab

namespace Go.Ab
open Go
mutual
def T.flat:T→Bool
 |.lit _|.ro _=>dU
 |.agg xs=>zA8 xs
 |.any|.same _ _|.addr _ _|.sub _ _ _ _ _|.sl _ _|.ptr _|.tup _=>dV
def zA8:List T→Bool
 | []=>dU
 |x::xs=>x.flat&&zA8 xs
end
section
variable {St:Stb}{G G2:Gh}{w w2:World}{s d:Nat}
mutual
theorem zJY:(t:T)→ ∀(p p':List Nat),t.flat=dU→(∀z,G2.hd d (z++p')=G.hd s (z++p))→R St G w s t p→R St G2 w2 d t p'
 |.lit _,p,p',_,h,hr=>by have:=h [];simp only[K6]at this;simp only[R]at hr ⊢;rw[this];exact hr
 |.ro _,p,p',_,h,hr=>by have:=h [];simp only[K6]at this;simp only[R]at hr ⊢;rw[this];exact hr
 |.agg xs,p,p',hf,h,hr=>by simp only[R,T.flat]at hr hf ⊢;exact zON xs p p' 0 hf h hr
 |.any,_,_,hf,_,_|.same _ _,_,_,hf,_,_|.addr _ _,_,_,hf,_,_|.sub _ _ _ _ _,_,_,hf,_,_|.sl _ _,_,_,hf,_,_|.ptr _,_,_,hf,_,_|.tup _,_,_,hf,_,_=>by simp[T.flat]at hf
theorem zON:(xs:List T)→ ∀(p p':List Nat)(j:Nat),zA8 xs=dU→(∀z,G2.hd d (z++p')=G.hd s (z++p))→RF St G w s xs p j→RF St G2 w2 d xs p' j
 | [],_,_,_,_,_,_=>by simp only[RF]
 |x::xs,p,p',j,hf,h,hr=>by
  simp only[RF,zA8,J2]at hr hf ⊢
  exact⟨zJY x (j::p) (j::p') hf.1 (fun z=>by have:=h (z++[j]);simpa using this) hr.1,zON xs p p' (j+1) hf.2 h hr.2⟩
end
end
mutual
theorem zHl:(t:T)→t.flat=dU→zQ t∧t.okTup=dU
 |.lit _,_|.ro _,_=>by simp[zQ,yN,T.okTup]
 |.agg xs,h=>by simp only[T.flat]at h;simpa only[zQ,yN,T.okTup]using zAp xs h
 |.any,h|.same _ _,h|.addr _ _,h|.sub _ _ _ _ _,h|.sl _ _,h|.ptr _,h|.tup _,h=>by simp[T.flat]at h
theorem zAp:(xs:List T)→zA8 xs=dU→yK xs∧yE xs=dU
 | [],_=>by simp[yK,xF,yE]
 |x::xs,h=>by simp only[zA8,J2]at h;simp only[yK,xF,yE,J2];exact⟨⟨(zHl x h.1).1,(zAp xs h.2).1⟩,(zHl x h.1).2,(zAp xs h.2).2⟩
end
theorem zIO:(xs:List T)→zA8 xs=dU→ ∀(i:Nat)(x:T),xs[i]? =dS x→x.flat=dU
 | [],_,_,_,h=>by simp at h
 |y::ys,hk,i,x,h=>by
  simp only[zA8,J2]at hk;cases i with
  |zero=>simp at h;subst h;exact hk.1
  |succ i=>exact zIO ys hk.2 i x (by simpa using h)
mutual
def zFv:T→Bool
 |.lit _=>dU
 |.sl _ xs=>zBJ xs
 |.agg xs=>zBJ xs
 |.ptr t=>zFv t
 |.any|.ro _|.same _ _|.addr _ _|.sub _ _ _ _ _|.tup _=>dV
def zBJ:List T→Bool
 | []=>dU
 |x::xs=>zFv x&&zBJ xs
end
theorem zLm:(ys:List T)→zBJ ys=dU→ ∀u∈ys,∀xs,u≠.tup xs
 | [],_,_,h,_=>by simp at h
 |y::ys,hr,u,h,xs=>by
  simp only[zBJ,J2]at hr;rcases Jq.1 h with rfl|h
  ·rintro rfl;simp[zFv]at hr
  ·exact zLm ys hr.2 u h xs
theorem zGe:(ys:List T)→(roT.roTs ys).length=ys.length
 | []=>rfl
 |y::ys=>by simp[roT.roTs,zGe ys]
theorem zHm{k:Nat}:(ys:List T)→(∀u∈ys,u.size=k)→(∀u∈ys,∀xs,u≠.tup xs)→ ∀u∈roT.roTs ys,u.size=k
 | [],_,_,u,h=>by simp[roT.roTs]at h
 |y::ys,h1,h2,u,h=>by
  simp only[roT.roTs,Jq]at h;rcases h with rfl|h
  ·rw[zE6 y (h2 y (by simp))];exact h1 y (by simp)
  ·exact zHm ys (fun v hv=>h1 v (by simp[hv])) (fun v hv=>h2 v (by simp[hv])) u h
theorem zLn:(ys:List T)→ ∀(j:Nat)(u:T),(roT.roTs ys)[j]? =dS u→ ∃u0,ys[j]? =dS u0∧u=roT u0
 | [],_,_,h=>by simp[roT.roTs]at h
 |y::ys,j,u,h=>by
  cases j with
  |zero=>simp[roT.roTs]at h;exact⟨y,by simp,h.symm⟩
  |succ j=>
   obtain⟨u0,h1,h2⟩:=zLn ys j u (by simpa[roT.roTs]using h);exact⟨u0,by simpa using h1,h2⟩
theorem zOO{St:Stb}{G2:Gh}{d:Nat}:(ys:List T)→ ∀(cs':Array Value)(o' k n:Nat),RoL St ys cs' o' k→(∀u∈ys,u.size=k)→(∀j u,ys[j]? =dS u→ ∀z',G2.hd d (z'++[n+j])=jZ (zEc u cs' (o'+j*k) z'.reverse))→
  ∀(i:Nat)(v:Value),(yA G2 d (roT.roTs ys) [] n)[i]? =dS v→cs'[o'+i]? =dS v
 | [],_,_,_,_,_,_,_,i,v,hv=>by simp[roT.roTs,yA]at hv
 |y::ys,cs',o',k,n,h,hs,hd,i,v,hv=>by
  simp only[RoL]at h;simp only[roT.roTs,yA]at hv;have gX:∀xs,y≠.tup xs:=by rintro xs rfl;simp only[RoC]at h;exact h.1
  have aZ:∀xs,roT y≠.tup xs:=fun xs e=>by cases y<;>simp[roT]at e
  have hl:(vals G2 d (roT y) [n]).length=k:=by rw[wR _ _ aZ,zE6 y gX,hs y (by simp)]
  rw[Kd]at hv;split at hv
  ·exact zGY y cs' o' [n] (fun z'=>by simpa using hd 0 y (by simp) z') h.1 i v hv
  ·have:=zOO ys cs' (o'+k) k (n+1) h.2 (fun u hu=>hs u (by simp[hu])) (fun j u hu z'=>by
    have:=hd (j+1) u (by simpa using hu) z'
    rwa [show n+(j+1)=n+1+j from by omega,show o'+(j+1)*k=o'+k+j*k from by rw[L8];omega]at this) _ v hv
   rwa [hl,show o'+k+(i-k)=o'+i from by omega]at this
mutual
theorem zQf{G:Gh}(hg:∀s z,(G.hd s z).oneCell'=dU){s:Nat}:(t:T)→ ∀(p:List Nat)(v:Value),v∈vals G s t p→v.oneCell'=dU
 |.agg xs,p,v,h=>by simp only[vals]at h;exact zEi hg xs p 0 v h
 |.any,p,v,h|.lit _,p,v,h|.ro _,p,v,h|.same _ _,p,v,h|.addr _ _,p,v,h|.sub _ _ _ _ _,p,v,h|.sl _ _,p,v,h|.ptr _,p,v,h|.tup _,p,v,h=>by simp only[vals,List.mem_singleton]at h;rw[h];exact hg s p
theorem zEi{G:Gh}(hg:∀s z,(G.hd s z).oneCell'=dU){s:Nat}:(xs:List T)→ ∀(p:List Nat)(j:Nat)(v:Value),v∈yA G s xs p j→v.oneCell'=dU
 | [],_,_,_,h=>by simp[yA]at h
 |x::xs,p,j,v,h=>by
  simp only[yA,Jv]at h;rcases h with h|h
  ·exact zQf hg x _ v h
  ·exact zEi hg xs p _ v h
end
theorem zCG{G G2:Gh}{s d:Nat}:(us:List T)→ ∀(n j:Nat),(∀i z,G2.hd d (z++[n+i])=G.hd s (z++[j+i]))→yA G2 d us [] n=yA G s us [] j
 | [],_,_,_=>by simp only[yA]
 |x::xs,n,j,h=>by
  have ih:yA G2 d xs [] (n+1)=yA G s xs [] (j+1):=zCG xs (n+1) (j+1) (fun i z=>by rw[show n+1+i=n+(i+1)from by omega,show j+1+i=j+(i+1)from by omega];exact h (i+1) z)
  simp only[yA];rw[ih,zBp x [j] [n] (by simpa using h 0)]
theorem zEC{G G2:Gh}{s d:Nat}:(us:List T)→ ∀(n j:Nat)(q:List Nat),(∀i z,G2.hd d (z++[n+i])=G.hd s (z++((j+i)::q)))→yA G2 d us [] n=yA G s us q j
 | [],_,_,_,_=>by simp only[yA]
 |x::xs,n,j,q,h=>by
  have ih:yA G2 d xs [] (n+1)=yA G s xs q (j+1):=zEC xs (n+1) (j+1) q (fun i z=>by rw[show n+1+i=n+(i+1)from by omega,show j+1+i=j+(i+1)from by omega];exact h (i+1) z)
  simp only[yA];rw[ih,zBp x (j::q) [n] (by simpa using h 0)]
section
variable {P:Program}{Γ:Ctx}{E:Env}{o:Oper}{d:Nat}
theorem zOP{St:Stb}{G:Gh}{w:World}{r:Nat}{q:List Nat}{k:Nat}{us:List T}(h:R St G w r (.sl k us) q){size:Nat}(hk:size=k):
  ∃xa c,G.hd r q=.slice xa us.length c∧ ∀w2:World,w2.heap=w.heap→(Builtin.firstCells size us.length (.slice xa us.length c)).run P w2=.ok (yA G r us q 0).toArray w2:=by
 simp only[R]at h;rcases h with⟨rfl,a1,h1⟩|⟨b,o0,cap,cs,et,h1,h2,h3,h4,h5,h6,h7,h8⟩
 ·exact⟨a1,0,h1,fun w2 _=>by cases a1<;>simp[Builtin.firstCells,loadCells,loadCellsFrom,yA]⟩
 ·refine⟨_,_,h1,fun w2 mF=>?_⟩
  have hl:=kD us q 0 b o0 h8;refine run_firstCells_some (P:=P) w2 size us.length ⟨b,o0,dT⟩ _ _ _ ?_ (fun j v hv=>?_)
  ·rw[xT,hk]
   exact wA us (zBI us q 0 b o0 h8).2
  ·have:=zAL us q 0 b o0 hl j v hv
   rw[vJ];simp only[yH]at this;simpa[World.cell?,mF]using this
theorem zBK{G:Gh}{a:Act}{w:World}(g9:Rep Γ E G a.tmps w){s:Nat}{t:T}(h:E s=dS t)(ht:t.single=dU):a.eval (.tmp s)=G.hd s []:=by rw[xK (g9.ent s t h).1,yR ht]
theorem zJZ(t e:TypeId)(ti:TypeInfo)(z:Value)(k s0 y:Nat)(xs us:List T)(ho:o.op=.call { callee:=.builtin .append,args:=#[.tmp s0,.tmp y],argTypes:=#[t,t] })(gf:o.dst=dS d)(hd:d<Γ.N)
  (ht:P.underlying t=dS (.slice e))(hi:P.info? e=dS ti)(hz:ti.zero=dS z)(hk:ti.size=k)(eB:0<k)(fw:z.cells.size=k)(hb:ti.bytes≤2048)
  (e6:E s0=dS (.sl k xs))(hy:E y=dS (.sl k us))(eZ:s0≠d)(fI:y≠d)(t7:y≠s0)(c0:xs.length+us.length≤68719476736):
  xM P Γ o E (E.app (aWr d s0 (dS y) k (xs++us)) (zBj d s0 (dS y))):=by
 refine xM.value gf fun a w G g9=>?_
 obtain⟨_,y2,y3⟩:=g9.ent y _ hy;simp only[Top]at y3;obtain⟨xa,c,h1,h2⟩:=zOP (P:=P) y2 hk;have fo:yE us=dU∧ ∀u∈us,u.size=k:=by
  simp only[R]at y2;rcases y2 with⟨rfl,_⟩|⟨b,o0,cap,cs,et,_,_,_,_,_,_,_,h8⟩
  ·simp[yE]
  ·exact⟨zAe (St:=Γ.St) (k:=k) us [] 0 b o0 (kD us [] 0 b o0 h8),(zBI us [] 0 b o0 h8).2⟩
 have hn:zHk Γ E G d s0 (dS y) k xs.length us (fun j z'=>G.hd y (z'++[j])) (yA G y us [] 0):=
  ⟨fo.2,fo.1,y3,fun j z'=>g9.mem.one _ _,by rw[xT];exact wA us fo.2,fun y' hy'=>by simp at hy';subst hy';exact⟨fI,t7,hy,fun _ _=>rfl⟩,fun h=>by simp at h,
   fun G2 eG o v hv=>by rw[←zCG us xs.length 0 (fun i z'=>by rw[eG,Ja])];exact hv⟩
 obtain⟨v,w',gA,G',gm⟩:=zCh (P:=P) (ty:=o.type) g9 hd ht hi hz hk eB fw hb e6 eZ hn (xv:=a.eval (.tmp y)) ⟨.inl ⟨e,xa,c,ht,by rw[zBK g9 hy rfl,h1],h2⟩⟩ (fun v hv=>zDp g9.mem us [] 0 v hv) c0;refine⟨v,w',?_,G',gm⟩;rw[←zBK g9 e6 rfl]at gA;simp[execOp,ho,resolve,invoke,builtin,gA]
theorem zKa(t e:TypeId)(ti:TypeInfo)(z:Value)(k s0:Nat)(y:Operand)(r:Nat)(q:List Nat)(xs us:List T)(ho:o.op=.call { callee:=.builtin .append,args:=#[.tmp s0,y],argTypes:=#[t,t] })(gf:o.dst=dS d)(hd:d<Γ.N)
  (ht:P.underlying t=dS (.slice e))(hi:P.info? e=dS ti)(hz:ti.zero=dS z)(hk:ti.size=k)(eB:0<k)(fw:z.cells.size=k)(hb:ti.bytes≤2048)
  (e6:E s0=dS (.sl k xs))(hy:uT E y=dS (r,q,.sl k us))(hf:zA8 us=dU)(eZ:s0≠d)(c0:xs.length+us.length≤68719476736):
  xM P Γ o E (E.app (aWr d s0 dT k (xs++us)) (zBj d s0 dT)):=by
 refine xM.value gf fun a w G g9=>?_
 obtain⟨y2,y1⟩:=qB g9 hy rfl;obtain⟨xa,c,h1,h2⟩:=zOP (P:=P) y2 hk;have fo:(∀u∈us,u.size=k)∧ ∀j u,us[j]? =dS u→R Γ.St G w r u (j::q):=by
  simp only[R]at y2;rcases y2 with⟨rfl,_⟩|⟨b,o0,cap,cs,et,_,_,_,_,_,_,_,h8⟩
  ·simp
  ·refine⟨(zBI us q 0 b o0 h8).2,fun j u hu=>?_⟩
   have:=(sL us q 0 b o0 k j u h8 hu).2.2;simpa using this
 have gI:=zAp us hf;have hn:zHk Γ E G d s0 dT k xs.length us (fun j z'=>G.hd r (z'++(j::q))) (yA G r us q 0):=
  ⟨fo.1,gI.2,gI.1,fun j z'=>g9.mem.one _ _,by rw[xT];exact wA us fo.1,fun y' hy'=>by simp at hy',
   fun _ j u hu G2 w2 eG=>zJY u (j::q) [xs.length+j] (zIO us hf j u hu) (fun z'=>eG z') (fo.2 j u hu),
   fun G2 eG o v hv=>by rw[←zEC us xs.length 0 q (fun i z'=>by rw[eG,Ja])];exact hv⟩
 obtain⟨v,w',gA,G',gm⟩:=zCh (P:=P) (ty:=o.type) g9 hd ht hi hz hk eB fw hb e6 eZ hn (xv:=a.eval y) ⟨.inl ⟨e,xa,c,ht,by rw[y1,h1],h2⟩⟩ (fun v hv=>zDp g9.mem us q 0 v hv) c0;refine⟨v,w',?_,G',gm⟩;rw[←zBK g9 e6 rfl]at gA;simp[execOp,ho,resolve,invoke,builtin,gA]
mutual
theorem zRF:(u:T)→zFv u=dU→(roT u).flat=dU
 |.agg xs,h=>by simp only[zFv]at h;simp only[roT,T.flat];exact zFw xs h
 |.lit _,_|.sl _ _,_|.ptr _,_=>by simp[roT,T.flat]
 |.any,h|.ro _,h|.same _ _,h|.addr _ _,h|.sub _ _ _ _ _,h|.tup _,h=>by simp[zFv]at h
theorem zFw:(xs:List T)→zBJ xs=dU→zA8 (roT.roTs xs)=dU
 | [],_=>by simp[roT.roTs,zA8]
 |x::xs,h=>by simp only[zBJ,J2]at h;simp only[roT.roTs,zA8,J2];exact⟨zRF x h.1,zFw xs h.2⟩
end
theorem zKb(t e:TypeId)(ti:TypeInfo)(z:Value)(k s0:Nat)(y:Operand)(r:Nat)(q:List Nat)(xs ys:List T)(ho:o.op=.call { callee:=.builtin .append,args:=#[.tmp s0,y],argTypes:=#[t,t] })(gf:o.dst=dS d)(hd:d<Γ.N)
  (ht:P.underlying t=dS (.slice e))(hi:P.info? e=dS ti)(hz:ti.zero=dS z)(hk:ti.size=k)(eB:0<k)(fw:z.cells.size=k)(hb:ti.bytes≤2048)
  (e6:E s0=dS (.sl k xs))(hy:uT E y=dS (r,q,.ro (.sl k ys)))(hro:zBJ ys=dU)(t7:∀u∈ys,u.size=k)(eZ:s0≠d)(c0:xs.length+ys.length≤68719476736):
  xM P Γ o E (E.app (aWr d s0 dT k (xs++roT.roTs ys)) (zBj d s0 dT)):=by
 refine xM.value gf fun a w G g9=>?_
 obtain⟨y2,y1⟩:=qB g9 hy rfl;obtain⟨xa,c,h1,h2,h3,h4⟩:=zDm y2;have hf:=zFw ys hro;have gI:=zAp _ hf;have gk:(roT.roTs ys).length=ys.length:=zGe ys;have gv:∀u∈roT.roTs ys,u.size=k:=zHm ys t7 (fun u hu=>zLm ys hro u hu);obtain⟨cs',o',h5,h6⟩:∃(cs':Array Value)(o':Nat),RoL Γ.St ys cs' o' k∧(ys≠[]→ ∃b et fr,xa=dS ⟨b,o',dT⟩∧Γ.St b=dS (.cells cs' et fr)):=by
  by_cases gc:ys=[]
  ·subst gc;exact⟨#[],0,by simp[RoL],fun h=>absurd rfl h⟩
  ·obtain⟨b,o',cs',et,fr,h5,h6,h7⟩:=h4 gc
   exact⟨cs',o',h7,fun _=>⟨b,et,fr,h5,h6⟩⟩
 let f2:Nat→List Nat→Value:=fun j z'=>match ys[j]? with
  |some u=>jZ (zEc u cs' (o'+j*k) z'.reverse)
  |none=>.bool dV
 have hf2:∀j u,ys[j]? =dS u→ ∀z',f2 j z'=jZ (zEc u cs' (o'+j*k) z'.reverse):=fun j u hu z'=>by simp[f2,hu]
 let G0:Gh:={ G with hd:=fun s z'=>if s=d then(match z'.getLast? with
  |some j=>f2 j z'.dropLast
  |none=>.bool dV)else G.hd s z' }
 have hG0:∀j z',G0.hd d (z'++[j])=f2 j z':=fun j z'=>by simp[G0]
 have ce:∀(G2:Gh)(n:Nat),(∀j z',G2.hd d (z'++[n+j])=f2 j z')→ ∀(i:Nat)(v:Value),(yA G2 d (roT.roTs ys) [] n)[i]? =dS v→cs'[o'+i]? =dS v:=by intro G2 n eG i v hv;exact zOO ys cs' o' k n h5 t7 (fun j u hu z'=>by rw[eG,hf2 j u hu]) i v hv
 have bI:∀w2:World,w2.heap=w.heap→(Builtin.firstCells ti.size ys.length (.slice xa ys.length c)).run P w2=.ok (yA G0 d (roT.roTs ys) [] 0).toArray w2:=by
  intro w2 mF
  by_cases gc:ys=[]
  ·subst gc
   cases xa<;>simp[Builtin.firstCells,loadCells,loadCellsFrom,roT.roTs,yA]
  ·obtain⟨b,et,fr,rfl,h7⟩:=h6 gc
   refine run_firstCells_some (P:=P) w2 ti.size ys.length ⟨b,o',dT⟩ _ _ _ ?_ (fun j v hv=>?_)
   ·rw[xT,hk,wA _ gv,gk]
   ·have:=ce G0 0 (fun j z'=>by rw[Ja];exact hG0 j z') j v hv
    rw[vJ];have h8:=g9.mem.st b _ h7;simp[World.cell?,mF,h8,this]
 have py:∀j z',(f2 j z').oneCell'=dU:=fun j z'=>by
  dsimp only[f2];split
  ·exact zBE _
  ·rfl
 have hn:zHk Γ E G d s0 dT k xs.length (roT.roTs ys) f2 (yA G0 d (roT.roTs ys) [] 0):=by
  refine⟨gv,gI.2,gI.1,py,by rw[xT];exact wA _ gv,fun y' hy'=>by simp at hy',fun _ j u hu G2 w2 eG=>?_,fun G2 eG i v hv=>?_⟩
  ·obtain⟨u0,tg,rfl⟩:=zLn ys j u hu
   exact zR5 u0 cs' (o'+j*k) [xs.length+j] (fun z'=>by rw[eG z',hf2 j u0 tg]) (zGA ys cs' o' k j u0 h5 tg)
  ·rw[←zCG (roT.roTs ys) xs.length 0 (fun i z'=>by rw[eG,Ja];exact(hG0 i z').symm)]
   exact hv
 have bC:∀v∈yA G0 d (roT.roTs ys) [] 0,v.oneCell'=dU:=by
  intro v hv;refine zEi (fun s z'=>?_) _ [] 0 v hv;simp only[G0];split
  ·split
   ·exact py _ _
   ·rfl
  ·exact g9.mem.one _ _
 have mq:zHj P t e ti (a.eval y) (roT.roTs ys).length (yA G0 d (roT.roTs ys) [] 0) w:=⟨.inl ⟨e,xa,c,ht,by rw[y1,h1,gk],by rw[gk];exact bI⟩⟩;obtain⟨v,w',gA,G',gm⟩:=zCh (P:=P) (ty:=o.type) g9 hd ht hi hz hk eB fw hb e6 eZ hn mq bC (by rw[gk];exact c0);refine⟨v,w',?_,G',gm⟩;rw[←zBK g9 e6 rfl]at gA;simp[execOp,ho,resolve,invoke,builtin,gA]
end
end Go.Ab

namespace Go.Ab
open Go
theorem zGf:(us:List T)→sM us=us.flatMap tL
 | []=>rfl
 |u::us=>by simp[sM,zGf us]
theorem zCH(u:T)(h:u.zOk=dU):∀m,zAB (J1 m u)=dU
 |0=>rfl
 |m+1=>by simp[Kt,zAB,h,zCH u h m]
section
variable {P:Program}{Γ:Ctx}{E:Env}{o:Oper}{d:Nat}
theorem zHn(t t2 e:TypeId)(k2:IntKind)(ti:TypeInfo)(z:Value)(u:T)(k s0:Nat)(y:Operand)(kd:IntKind)(m:Nat)(xs:List T)(ho:o.op=.call { callee:=.builtin .append,args:=#[.tmp s0,y],argTypes:=#[t,t2] })(gf:o.dst=dS d)(hd:d<Γ.N)
  (ht:P.underlying t=dS (.slice e))(ci:P.underlying t2=dS (.int k2))(hi:P.info? e=dS ti)(hz:ti.zero=dS z)(hk:ti.size=k)(eB:0<k)(hb:ti.bytes≤2048)(hu:u.zOk=dU)(hv:tL u=z.cells.toList)(fo:u.size=k)
  (e6:E s0=dS (.sl k xs))(hy:opT E y=dS (.lit (.int kd m)))(eZ:s0≠d)(c0:xs.length+m≤68719476736):
  xM P Γ o E (E.app (aWr d s0 dT k (xs++J1 m u)) (zBj d s0 dT)):=by
 refine xM.value gf fun a w G g9=>?_
 have fw:z.cells.size=k:=by grind[vA]
 have hzo:=zCH u hu m;have gI:=zCg _ hzo
 let f2:Nat→List Nat→Value:=fun _ z'=>jZ (zhd u z'.reverse)
 have hnvl:((Builtin.zeroCells z.cells m).toList).length=m*k:=by grind[Builtin.zeroCells]
 have hn:zHk Γ E G d s0 dT k xs.length (J1 m u) f2 (Builtin.zeroCells z.cells m).toList:=by
  refine⟨by grind,gI.2,gI.1,fun _ _=>zBE _,by grind,by simp,fun _ j x hx G2 w2 eG=>?_,fun G2 eG i v hv'=>?_⟩
  ·grind[zJU]
  ·have h1:yA G2 d (J1 m u) [] xs.length=sM (J1 m u):=by grind[zEe]
   rw[h1,zGf]at hv';obtain⟨h2,h3⟩:=zJV tL u k (by grind) eB m i v hv'
   grind[Builtin.zeroCells]
 have gp:∀v∈(Builtin.zeroCells z.cells m).toList,v.oneCell'=dU:=by
  intro v hv';simp only[Builtin.zeroCells,Array.toList_map,Array.toList_range,Je,Jx]at hv';obtain⟨i,ey,rfl⟩:=hv'
  grind[Nat.mod_lt,zFu]
 have mq:zHj P t2 e ti (a.eval y) (J1 m u).length (Builtin.zeroCells z.cells m).toList w:=by
  refine⟨.inr ⟨k2,kd,z,ci,?_,hz,by simp,?_,by omega⟩⟩
  ·rw[(yP g9 hy).1];simp
  ·simp only[Kk]
   exact Ht (Jy (show m≤68719476736 by omega) hb) (by decide)
 obtain⟨v,w',gA,G',gm⟩:=zCh (P:=P) (ty:=o.type) g9 hd ht hi hz hk eB fw hb e6 eZ hn mq gp (by grind);refine⟨v,w',?_,G',gm⟩;rw[←zBK g9 e6 rfl]at gA;simp[execOp,ho,resolve,invoke,builtin,gA]
end
end Go.Ab

namespace Go.Ab
open Go
def zLo(G:Gh)(nd:List (Nat×List Nat×T)):Value:=
 match nd with
 | [x]=>tQ G x.1 x.2.2 x.2.1
 |nd=>.tuple (nd.map fun x=>tQ G x.1 x.2.2 x.2.1).toArray
def FnC(P:Program)(f:FuncId)(us:List T)(res:List T)(rws:List (Nat×T)):Prop:=
 ∀(St:Stb)(W:Nat→Prop)(w:World)(G:Gh)(vs:Array Value),vs.size=us.length→
  (∀(i:Nat) u,us[i]? =dS u→vs[i]? =dS (mkV G i u [])∧R St G w i u [])→Mem ⟨St,W,w,0⟩ G w→
  Calls P f vs w fun e w'=> ∃(S':Stb)(G':Gh)(nd:List (Nat×List Nat×T)),zDE St S' W w.heap.size∧e=.returned (zLo G' nd)∧Mem ⟨S',W,w,0⟩ G' w'∧nd.map (·.2.2)=res∧
   (∀x∈nd,R S' G' w' x.1 x.2.2 x.2.1∧us.length≤x.1)∧(nd.map (·.1)).Nodup∧
   ∀i u',(i,u')∈rws→R S' G' w' i u' []∧ ∃u,us[i]? =dS u∧mkV G' i u' []=mkV G i u []
mutual
def wK:T→Bool
 |.ro _=>dV
 |.sl _ xs|.agg xs|.tup xs=>vB xs
 |.ptr t=>wK t
 |.any|.lit _|.same _ _|.addr _ _|.sub _ _ _ _ _=>dU
def vB:List T→Bool
 | []=>dU
 |x::xs=>wK x&&vB xs
end
section
variable {St St':Stb}{G:Gh}{w:World}{s:Nat}
mutual
theorem zNr:(t:T)→ ∀(p:List Nat),wK t=dU→R St G w s t p→R St' G w s t p
 |.ro _,_,h,_=>by simp[wK]at h
 |.sl k xs,p,h,hr=>by
  simp only[wK,R]at h hr ⊢
  rcases hr with hr|⟨b,o0,cap,cs,e,h1,h2,h3,h4,h5,h6,h7,h8⟩
  ·exact .inl hr
  ·exact .inr ⟨b,o0,cap,cs,e,h1,h2,h3,h4,h5,h6,h7,zXw xs p 0 b o0 k h h8⟩
 |.agg xs,p,h,hr|.tup xs,p,h,hr=>by simp only[wK,R]at h hr ⊢;exact zXx xs p 0 h hr
 |.ptr t,p,h,hr=>by
  simp only[wK,R]at h hr ⊢
  obtain⟨b,cs,e,h1,h2,h3,h6,h4,h5⟩:=hr;exact⟨b,cs,e,h1,h2,h3,h6,h4,zNr t _ h h5⟩
 |.any,_,_,hr|.lit _,_,_,hr|.same _ _,_,_,hr|.addr _ _,_,_,hr|.sub _ _ _ _ _,_,_,hr=>by first|(simp only[R];done)|simpa only[R]using hr
theorem zXw:(xs:List T)→ ∀(p:List Nat)(i b o k:Nat),vB xs=dU→RL St G w s xs p i b o k→RL St' G w s xs p i b o k
 | [],_,_,_,_,_,_,_=>by simp only[RL]
 |x::xs,p,i,b,o,k,h,hr=>by
  simp only[vB,J2,RL]at h hr ⊢
  exact⟨hr.1,zNr x _ h.1 hr.2.1,zXw xs p (i+1) b _ k h.2 hr.2.2⟩
theorem zXx:(xs:List T)→ ∀(p:List Nat)(i:Nat),vB xs=dU→RF St G w s xs p i→RF St' G w s xs p i
 | [],_,_,_,_=>by simp only[RF]
 |x::xs,p,i,h,hr=>by
  simp only[vB,J2,RF]at h hr ⊢
  exact⟨zNr x _ h.1 hr.1,zXx xs p (i+1) h.2 hr.2⟩
end
end
section
variable {St St':Stb} (h:∀b x,St b=dS x→St' b=dS x)
 include h
mutual
theorem uG:(t:T)→ ∀(cs:Array Value)(o:Nat),RoC St t cs o→RoC St' t cs o
 |.sl k xs,cs,o,hr=>by
  simp only[RoC]at hr ⊢
  obtain⟨a,c,h1,h2,h3,h4⟩:=hr;refine⟨a,c,h1,h2,h3,fun gc=>?_⟩;obtain⟨b,o',cs',e,fr,h5,h6,h7⟩:=h4 gc;exact⟨b,o',cs',e,fr,h5,h b _ h6,zLp xs cs' o' k h7⟩
 |.agg xs,cs,o,hr=>by simp only[RoC]at hr ⊢;exact zLq xs cs o hr
 |.ptr t,cs,o,hr=>by
  simp only[RoC]at hr ⊢
  obtain⟨b,o',cs',e,fr,h5,h6,h7⟩:=hr;exact⟨b,o',cs',e,fr,h5,h b _ h6,uG t cs' o' h7⟩
 |.ro u,cs,o,hr=>by
  simp only[RoC]at hr ⊢
  obtain⟨f,vs,h1,h2,h3⟩:=hr;exact⟨f,vs,h1,h2,uG u _ _ h3⟩
 |.any,_,_,hr|.lit _,_,_,hr|.same _ _,_,_,hr|.addr _ _,_,_,hr|.sub _ _ _ _ _,_,_,hr|.tup _,_,_,hr=>by first|(simp only[RoC]at hr;done)|simpa only[RoC]using hr
theorem zLp:(xs:List T)→ ∀(cs:Array Value)(o k:Nat),RoL St xs cs o k→RoL St' xs cs o k
 | [],_,_,_,_=>by have _:=h;simp only[RoL]
 |x::xs,cs,o,k,hr=>by simp only[RoL]at hr ⊢;exact⟨uG x cs o hr.1,zLp xs cs _ k hr.2⟩
theorem zLq:(xs:List T)→ ∀(cs:Array Value)(o:Nat),RoF St xs cs o→RoF St' xs cs o
 | [],_,_,_=>by have _:=h;simp only[RoF]
 |x::xs,cs,o,hr=>by simp only[RoF]at hr ⊢;exact⟨uG x cs o hr.1,zLq xs cs _ hr.2⟩
end
end
section
variable {St St':Stb}{G:Gh}{w:World}{s:Nat} (h:∀b x,St b=dS x→St' b=dS x)
 include h
mutual
theorem zKc:(t:T)→ ∀(p:List Nat),R St G w s t p→R St' G w s t p
 |.ro t,_,hr=>by simp only[R]at hr ⊢;exact uG h t _ _ hr
 |.sl k xs,p,hr=>by
  simp only[R]at hr ⊢
  rcases hr with hr|⟨b,o0,cap,cs,e,h1,h2,h3,h4,h5,h6,h7,h8⟩
  ·exact .inl hr
  ·exact .inr ⟨b,o0,cap,cs,e,h1,h2,h3,h4,h5,h6,h7,zOQ xs p 0 b o0 k h8⟩
 |.agg xs,p,hr|.tup xs,p,hr=>by simp only[R]at hr ⊢;exact zOR xs p 0 hr
 |.ptr t,p,hr=>by
  simp only[R]at hr ⊢
  obtain⟨b,cs,e,h1,h2,h3,h6,h4,h5⟩:=hr;exact⟨b,cs,e,h1,h2,h3,h6,h4,zKc t _ h5⟩
 |.any,_,hr|.lit _,_,hr|.same _ _,_,hr|.addr _ _,_,hr|.sub _ _ _ _ _,_,hr=>by first|(simp only[R];done)|simpa only[R]using hr
theorem zOQ:(xs:List T)→ ∀(p:List Nat)(i b o k:Nat),RL St G w s xs p i b o k→RL St' G w s xs p i b o k
 | [],_,_,_,_,_,_=>by have _:=h;simp only[RL]
 |x::xs,p,i,b,o,k,hr=>by simp only[RL]at hr ⊢;exact⟨hr.1,zKc x _ hr.2.1,zOQ xs p (i+1) b _ k hr.2.2⟩
theorem zOR:(xs:List T)→ ∀(p:List Nat)(i:Nat),RF St G w s xs p i→RF St' G w s xs p i
 | [],_,_,_=>by have _:=h;simp only[RF]
 |x::xs,p,i,hr=>by simp only[RF]at hr ⊢;exact⟨zKc x _ hr.1,zOR xs p (i+1) hr.2⟩
end
end
mutual
def strip:T→T
 |.lit v=>.lit v
 |.ro u=>if u.single then u else .any
 |.sl k xs=>.sl k (wB xs)
 |.agg xs=>.agg (wB xs)
 |.ptr t=>.ptr (strip t)
 |.any|.same _ _|.addr _ _|.sub _ _ _ _ _|.tup _=>.any
def wB:List T→List T
 | []=>[]
 |x::xs=>strip x::wB xs
end
theorem zAf:(xs:List T)→(wB xs).length=xs.length
 | []=>rfl
 |x::xs=>by simp[wB,zAf xs]
mutual
theorem zEj:(t:T)→(strip t).size=t.size
 |.agg xs=>by simp only[strip,T.size];exact zGg xs
 |.ro u=>by
  simp only[strip];split
  ·rename_i h;cases u<;>simp[T.single]at h<;>simp[T.size]
  ·simp[T.size]
 |.lit _|.sl _ _|.ptr _|.any|.same _ _|.addr _ _|.sub _ _ _ _ _|.tup _=>by simp[strip,T.size]
theorem zGg:(xs:List T)→T.sizes (wB xs)=T.sizes xs
 | []=>rfl
 |x::xs=>by simp only[wB,T.sizes,zEj x,zGg xs]
end
theorem tS{St:Stb}{u:T}(hu:u.single=dU){v:Value}{cs:Array Value}{o:Nat}(h:RoC St u #[v] 0)(hc:cs[o]? =dS v):RoC St u cs o:=by
 cases u<;>simp[T.single]at hu<;>simp only[RoC]at h ⊢ <;>simp at h<;>first
  |exact⟨v,hc,h⟩
  |(obtain⟨rfl,h2⟩:=h;exact⟨hc,h2⟩)
  |(obtain⟨f,vs,rfl,h2⟩:=h;exact⟨f,vs,hc,h2⟩)
  |(obtain⟨a,c,rfl,h2⟩:=h;exact⟨a,c,hc,by simpa using h2⟩)
  |(obtain⟨b,o',rfl,h2⟩:=h;obtain⟨cs',⟨e,f1,f2,h3⟩,h4⟩:=h2;exact⟨b,o',cs',e,(f1,f2),hc,h3,h4⟩)
section
variable {St Sc:Stb}{G:Gh}{w:World}{s:Nat} (gp:∀s p,(G.hd s p).oneCell'=dU) (eb:∀b x,St b=dS x→Sc b=dS x) (ee:∀b,(∃y,G.ow b=dS (s,y))→Sc b=w.heap[b]?)
 include gp eb ee
mutual
theorem frz:(t:T)→ ∀(p:List Nat)(b o:Nat)(cs:Array Value)(e:TypeId)(fr:Nat×Nat),w.heap[b]? =dS (.cells cs e fr)→Loc G w s t p b o→R St G w s t p→RoC Sc (strip t) cs o
 |.agg xs,p,b,o,cs,e,fr,hb,hl,hr=>by simp only[Loc,R,strip,RoC]at hl hr ⊢;exact yAn xs p 0 b o cs e fr hb hl.2 hr
 |.tup _,_,_,_,_,_,_,_,hl,_=>by have _:=ee;simp only[Loc]at hl
 |.any,p,b,o,cs,e,fr,hb,hl,hr|.same _ _,p,b,o,cs,e,fr,hb,hl,hr|.addr _ _,p,b,o,cs,e,fr,hb,hl,hr|.sub _ _ _ _ _,p,b,o,cs,e,fr,hb,hl,hr=>by have h1:=(wJ rfl hl).2.2;simp only[yH,World.cell?,hb]at h1;simp only[strip,RoC];exact⟨_,by simpa using h1,gp s p⟩
 |.lit v,p,b,o,cs,e,fr,hb,hl,hr=>by
  have h1:=(wJ rfl hl).2.2;simp only[yH,World.cell?,hb]at h1;simp only[strip,RoC,R]at hr ⊢
  exact⟨by rw[←hr];simpa using h1,by rw[←hr];exact gp s p⟩
 |.ro u,p,b,o,cs,e,fr,hb,hl,hr=>by
  have h1:=(wJ rfl hl).2.2;simp only[yH,World.cell?,hb]at h1;simp only[strip,R]at hr ⊢
  split
  ·rename_i hu
   exact tS hu (uG eb u _ _ hr) (by simpa using h1)
  ·simp only[RoC];exact⟨_,by simpa using h1,gp s p⟩
 |.sl k xs,p,b,o,cs,e,fr,hb,hl,hr=>by have h1:=(wJ rfl hl).2.2;simp only[yH,World.cell?,hb]at h1;exact tS rfl (zLr (.sl k xs) p rfl hr) (by simpa using h1)
 |.ptr t,p,b,o,cs,e,fr,hb,hl,hr=>by have h1:=(wJ rfl hl).2.2;simp only[yH,World.cell?,hb]at h1;exact tS rfl (zLr (.ptr t) p rfl hr) (by simpa using h1)
theorem yAn:(xs:List T)→ ∀(p:List Nat)(j b o:Nat)(cs:Array Value)(e:TypeId)(fr:Nat×Nat),w.heap[b]? =dS (.cells cs e fr)→wV G w s xs p j b o→RF St G w s xs p j→RoF Sc (wB xs) cs o
 | [],_,_,_,_,_,_,_,_,_,_=>by have _:=gp;have _:=eb;have _:=ee;simp only[wB,RoF]
 |x::xs,p,j,b,o,cs,e,fr,hb,hl,hr=>by
  simp only[wV,RF,wB,RoF]at hl hr ⊢
  exact⟨frz x _ b o cs e fr hb hl.1 hr.1,by rw[zEj];exact yAn xs p (j+1) b _ cs e fr hb hl.2 hr.2⟩
theorem yAo:(xs:List T)→ ∀(p:List Nat)(i b o k:Nat)(cs:Array Value)(e:TypeId)(fr:Nat×Nat),w.heap[b]? =dS (.cells cs e fr)→RL St G w s xs p i b o k→RoL Sc (wB xs) cs o k
 | [],_,_,_,_,_,_,_,_,_,_=>by have _:=gp;have _:=eb;have _:=ee;simp only[wB,RoL]
 |x::xs,p,i,b,o,k,cs,e,fr,hb,hr=>by
  simp only[RL,wB,RoL]at hr ⊢
  exact⟨frz x _ b o cs e fr hb hr.1.1 hr.2.1,yAo xs p (i+1) b _ k cs e fr hb hr.2.2⟩
theorem zLr:(t:T)→ ∀(p:List Nat),t.single=dU→R St G w s t p→RoC Sc (strip t) #[G.hd s p] 0
 |.agg _,_,h,_|.tup _,_,h,_=>by simp[T.single]at h
 |.any,p,_,_|.same _ _,p,_,_|.addr _ _,p,_,_|.sub _ _ _ _ _,p,_,_=>by simp only[strip,RoC];exact⟨_,by simp,gp s p⟩
 |.lit v,p,_,hr=>by simp only[strip,RoC,R]at hr ⊢;exact⟨by simp[hr],by rw[←hr];exact gp s p⟩
 |.ro u,p,_,hr=>by
  simp only[strip,R]at hr ⊢
  split
  ·exact uG eb u _ _ hr
  ·simp only[RoC];exact⟨_,by simp,gp s p⟩
 |.sl k xs,p,_,hr=>by
  simp only[strip,R,RoC]at hr ⊢
  rw[zAf];rcases hr with⟨rfl,a,h1⟩|⟨b,o0,cap,cs,e,h1,h2,h3,h4,h5,h6,h7,h8⟩
  ·exact⟨a,0,by simp[h1],by simp,by simp[maxLen],fun h=>by simp[wB]at h⟩
  ·exact⟨dS ⟨b,o0,dT⟩,cap,by simp[h1],h3,h4,fun _=>⟨b,o0,cs,e,(0,0),rfl,by rw[ee b ⟨_,h6⟩];exact h2,yAo xs p 0 b o0 k cs e (0,0) h2 h8⟩⟩
 |.ptr t,p,_,hr=>by
  simp only[strip,R,RoC]at hr ⊢
  obtain⟨b,cs,e,h1,h2,h3,h6,h4,h5⟩:=hr;exact⟨b,0,cs,e,(0,0),by simp[h1],by rw[ee b ⟨_,h6⟩];exact h2,frz t _ b 0 cs e (0,0) h2 h4 h5⟩
end
end
end Go.Ab

namespace Go.Ab
open Go
mutual
def clo(E:Env):T→T
 |.agg ts=>.agg (zBL E ts)
 |.lit v=>.lit v
 |.ro u=>.ro u
 |.same r q=>match qA E 4 r q with
  |some (_,_,.ro u)=>.ro u
  |some (_,_,.lit v)=>.lit v
  |some (_,_,t)=>if t.single then .ro (strip t)else .any
  |none=>.any
 |.sub r q k lo hi=>match qA E 4 r q with
  |some (_,_,.sl k' xs)=>if k=k'∧lo≤hi∧hi≤xs.length then .ro (.sl k (((wB xs).drop lo).take (hi-lo)))else .any
  |_=>.any
 |.sl k xs=>.ro (strip (.sl k xs))
 |.ptr t=>.ro (strip (.ptr t))
 |.any|.addr _ _|.tup _=>.any
def zBL(E:Env):List T→List T
 | []=>[]
 |x::xs=>clo E x::zBL E xs
end
mutual
def sJ(E:Env)(rs:List Nat)(s:Nat):T→Bool
 |.agg ts=>zAR E rs s ts
 |.same r q|.sub r q _ _ _=>match qA E 4 r q with
  |some (r',_,_)=> !rs.contains r'
  |none=>dU
 |.sl _ _|.ptr _=> !rs.contains s
 |.lit _|.ro _|.any|.addr _ _=>dU
 |.tup _=>dV
def zAR(E:Env)(rs:List Nat)(s:Nat):List T→Bool
 | []=>dU
 |x::xs=>sJ E rs s x&&zAR E rs s xs
end
theorem zVn{St:Stb}{k:Nat}{xs:List T}{v:Value}{lo hi:Nat}(h:RoC St (.sl k xs) #[v] 0)(h1:lo≤hi)(h2:hi≤xs.length):RoC St (.sl k ((xs.drop lo).take (hi-lo))) #[zAN v k lo hi] 0:=by
 simp only[RoC]at h ⊢
 obtain⟨a',c,g4,g5,g6,g7⟩:=h;have hv:v=.slice a' xs.length c:=by grind
 subst hv;have gk:((xs.drop lo).take (hi-lo)).length=hi-lo:=by simp;omega
 refine⟨if c=lo then a' else a'.map (·.add (lo*k)),c-lo,by grind[zAN],by omega,by omega,?_⟩;intro gc;have ew:xs≠[]:=by grind
 obtain⟨b,o',cs',e',fr,rfl,h3,h4⟩:=g7 ew;have gI:c≠lo:=by grind
 grind[vJ,zHa,zGZ]
section
variable {Γ:Ctx}{E:Env}{G Gc:Gh}{a:Act}{w:World}{Sc:Stb}{rs:List Nat}{s i:Nat} (g9:Rep Γ E G a.tmps w) (eb:∀b x,Γ.St b=dS x→Sc b=dS x) (ee:∀r,r∉rs→ ∀b,(∃y,G.ow b=dS (r,y))→Sc b=w.heap[b]?) (gG:∀z,Gc.hd i z=G.hd s z)
 include g9 eb ee gG
mutual
theorem zXy:(t:T)→ ∀(p:List Nat),sJ E rs s t=dU→R Γ.St G w s t p→R Sc Gc w i (clo E t) p
 |.agg ts,p,h,hr=>by simp only[sJ,clo,R]at h hr ⊢;exact zRG ts p 0 h hr
 |.tup _,_,h,_=>by grind[sJ]
 |.lit v,p,_,hr=>by simp only[clo,R]at hr ⊢;grind
 |.ro u,p,_,hr=>by simp only[clo,R]at hr ⊢;grind[uG]
 |.any,_,_,_|.addr _ _,_,_,_=>by simp only[clo,R]
 |.sl k xs,p,h,hr=>by
  simp only[sJ,G1,Lr,decide_eq_false_iff_not]at h;have:=zLr (fun s p=>g9.mem.one s p) eb (ee s h) (.sl k xs) p rfl hr;simp only[clo,R]
  grind
 |.ptr t,p,h,hr=>by
  simp only[sJ,G1,Lr,decide_eq_false_iff_not]at h;have:=zLr (fun s p=>g9.mem.one s p) eb (ee s h) (.ptr t) p rfl hr;simp only[clo,R]
  grind
 |.same r q,p,h,hr=>by
  simp only[sJ,clo,R]at h hr ⊢
  cases hf:qA E 4 r q with
  |none=>simp only[R]
  |some x=>
   obtain⟨r',q',t⟩:=x;simp only[hf,G1,Lr,decide_eq_false_iff_not]at h;obtain⟨h1,h2,_⟩:=zDl g9 4 r q r' q' t hf;have h3:Gc.hd i p=G.hd r' q':=by grind
   by_cases hs:t.single=dU
   ·have h4:=zLr (fun s p=>g9.mem.one s p) eb (ee r' h) t q' hs h1
    cases t with
    |ro u=>simp only[R]at h1 ⊢;grind[uG]
    |lit v=>simp only[R]at h1 ⊢;grind
    |agg _=>grind[T.single]
    |tup _=>grind[T.single]
    |_=>simp only[hs,if_true,R];grind
   ·cases t<;>simp[T.single]at hs<;>simp[T.single,R]
 |.sub r q k lo hi,p,h,hr=>by
  simp only[sJ,clo,R]at h hr ⊢
  cases hf:qA E 4 r q with
  |none=>simp only[R]
  |some x=>
   obtain⟨r',q',t⟩:=x;simp only[hf,G1,Lr,decide_eq_false_iff_not]at h;obtain⟨h1,h2,_⟩:=zDl g9 4 r q r' q' t hf;cases t with
   |sl k' xs=>
    simp only[];split
    ·rename_i hc
     obtain⟨rfl,cG,fj⟩:=hc;have h4:=zLr (fun s p=>g9.mem.one s p) eb (ee r' h) (.sl k xs) q' rfl h1;simp only[strip]at h4;simp only[R]
     grind[zVn,zAf]
    ·simp only[R]
   |_=>simp only[R]
theorem zRG:(ts:List T)→ ∀(p:List Nat)(j:Nat),zAR E rs s ts=dU→RF Γ.St G w s ts p j→RF Sc Gc w i (zBL E ts) p j
 | [],_,_,_,_=>by have _:=g9;have _:=eb;have _:=ee;have _:=gG;simp only[zBL,RF]
 |x::xs,p,j,h,hr=>by
  simp only[zAR,J2,zBL,RF]at h hr ⊢
  exact⟨zXy x _ h.1 hr.1,zRG xs p (j+1) h.2 hr.2⟩
end
end
section
variable {E:Env}{G Gc:Gh}{rs:List Nat}{s i:Nat}
theorem zHo(t:T)(h:t.single=dU):(clo E t).single=dU:=by cases t<;>simp[T.single]at h<;>simp only[clo]<;>first|rfl|(split<;>first|rfl|(split<;>rfl))
mutual
theorem zRH(gG:∀z,Gc.hd i z=G.hd s z):(t:T)→ ∀(p:List Nat),sJ E rs s t=dU→vals Gc i (clo E t) p=vals G s t p
 |.agg ts,p,h=>by simp only[sJ,clo,vals]at h ⊢;exact zFx gG ts p 0 h
 |.tup _,_,h=>by grind[sJ]
 |.lit _,p,_|.ro _,p,_|.any,p,_|.addr _ _,p,_|.sl _ _,p,_|.ptr _,p,_|.same _ _,p,_|.sub _ _ _ _ _,p,_=>by
  have h1:∀u:T,u.single=dU→vals Gc i u p=[G.hd s p]:=fun u hu=>by cases u<;>simp[T.single]at hu<;>simp[vals,gG]
  rw[h1 _ (zHo _ rfl)];simp[vals]
theorem zFx(gG:∀z,Gc.hd i z=G.hd s z):(ts:List T)→ ∀(p:List Nat)(j:Nat),zAR E rs s ts=dU→yA Gc i (zBL E ts) p j=yA G s ts p j
 | [],_,_,_=>by rfl
 |x::xs,p,j,h=>by simp only[zAR,J2]at h;simp only[zBL,yA];rw[zRH gG x _ h.1,zFx gG xs p _ h.2]
end
theorem zKd(gG:∀z,Gc.hd i z=G.hd s z)(t:T)(h:sJ E rs s t=dU):mkV Gc i (clo E t) []=mkV G s t []:=by
 cases t with
 |agg ts=>grind[sJ,clo,mkV,zFx]
 |tup _=>grind[sJ]
 |_=>rw[yR (zHo _ rfl),yR rfl,gG]
end
end Go.Ab
