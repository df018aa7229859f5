/- The program's CoverMap returns what the reference's returns,for all arguments;no conditions. -/
import Derived.Orders
import Derived.Laws.AppendOwn
import Derived.Laws.MakeOwn
import Derived.Great.BuildSlice
import Derived.Laws.Tables
open List renaming replicate→J1,mem_cons→J7,length_cons→J8,length_append→J9,length_replicate→Jc,mem_append→Jd,append_nil→Jf,append_assoc→Jj,getElem?_append_right→Jk,mem_map→Jl,replicate_succ→Jq,map_cons→Jr,getElem?_eq_some_iff→Jv,nil_append→K0,getElem?_map→K3,cons_append→K5,all_eq_true→Kc,reverse_reverse→Kh,getElem?_append→Ki,length_take→Kk,ext_getElem?→Km,getElem?_append_left→Kn,nodup_cons→Kv,set_cons_succ→Kx,set_cons_zero→Kz,take_succ_cons→Lj,mem_range→Ln,flatMap_cons→Lp,eq_nil_of_length_eq_zero→Ly,contains_eq_mem→H3,drop_eq_getElem_cons→Hl,getElem?_drop→Hq,mem_of_getElem?→Hv,foldl_cons→G6,map_nil→Ub,not_mem_nil→Ut,reverse_cons→Uw,cons→Q2,reverse_nil→Q8,map_take→Ja6,getElem?_take_of_lt→Ja9,reverse_append→Jac,take_append_drop→Jao,take_append→Jaz,isEmpty_iff→Jb3,length_set→Jb7,size_toArray→Jbf,map_toArray→Jbt,getElem?_cons_succ→Jcc,flatMap_append→Jcz
open Bool renaming and_eq_true→J2,false_eq_true→Ho,not_eq_true'→Gm,false_and→Jbe
open Int renaming toNat_natCast→J6
open Nat renaming zero_add→Ja,le_refl→Jh,mul_le_mul→Jm,mul_le_mul_right→K6,succ_mul→K8,le_trans→H2,mod_lt→Hb,add_mul→Ua,min_eq_left→Ud,add_zero→Q6,add_assoc→Qd,lt_of_lt_of_le→Jal,le_mul_of_pos_right→Jam,mul_pos→Jbc
open Array renaming getElem?_setIfInBounds→Jp,getD_eq_getD_getElem?→Kg,length_toList→Kt,getElem?_toList→Ky,getElem?_eq_some_iff→Ga,range→Jbu
open Option renaming isSome_none→Uj,map_none→Jak
open Prod renaming mk→Jba
open Option renaming some→iF,none→iG
open Bool renaming true→iH,false→iI
theorem iJ{p:Prop}[h:Decidable p](a:¬p):decide p=false:=decide_eq_false a
theorem iL{p:Prop}[h:Decidable p](a:p):decide p=true:=decide_eq_true a
namespace Go.Ab
open Go
variable {i k r n s d:Nat}{f q:List Nat}{w':World}{a:Act}{v z xv:Value}{tmps:Array Value}{ti:TypeInfo}{e t2 ty:TypeId}
inductive T where
 |any
 |lit (v:Value)
 |ro (t:T)
 |same (r:Nat) (p:List Nat)
 |addr (r:Nat) (p:List Nat)
 |sub (r:Nat) (p:List Nat) (k lo hi:Nat)
 |sl (k:Nat) (xs:List T)
 |agg (xs:List T)
 |ptr (t:T)
 |tup (xs:List T)
 deriving Inhabited
variable {xs:List T}{u:T}
abbrev Stb:=Nat→Option Obj
variable {St:Stb}
mutual
def T.size:T→Nat
 |.agg xs=>T.sizes xs
 |_=>1
def T.sizes:List T→Nat
 | []=>0
 |x::xs=>x.size+T.sizes xs
end
mutual
def RoC(St:Stb):T→Array Value→Nat→Prop
 |.any,cs,o=> ∃v,cs[o]? =iF v∧v.oneCell'=iH
 |.lit v,cs,o=>cs[o]? =iF v∧v.oneCell'=iH
 |.ro _,_,_=>False
 |.sl k xs,cs,o=> ∃a c,cs[o]? =iF (.slice a xs.length c)∧xs.length≤c∧c≤maxLen∧
   (xs≠[]→ ∃b o' cs' e fr,a=iF ⟨b,o',iG⟩∧St b=iF (.cells cs' e fr)∧RoL St xs cs' o' k)
 |.agg xs,cs,o=>RoF St xs cs o
 |.ptr t,cs,o=> ∃b o' cs' e fr,cs[o]? =iF (.pointer (iF ⟨b,o',iG⟩))∧St b=iF (.cells cs' e fr)∧RoC St t cs' o'
 |.same _ _,_,_=>False
 |.addr _ _,_,_=>False
 |.sub _ _ _ _ _,_,_=>False
 |.tup _,_,_=>False
def RoL(St:Stb):List T→Array Value→Nat→Nat→Prop
 | [],_,_,_=>True
 |x::xs,cs,o,k=>RoC St x cs o∧RoL St xs cs (o+k) k
def RoF(St:Stb):List T→Array Value→Nat→Prop
 | [],_,_=>True
 |x::xs,cs,o=>RoC St x cs o∧RoF St xs cs (o+x.size)
end
structure Gh where
 hd:Nat→List Nat→Value
 ad:Nat→List Nat→Addr
 lb:Nat→Nat→Option (Bool×Nat×List Nat)
 ow:Nat→Option (Nat×List Nat)
variable {G G':Gh}
def yU(w:World)(b o:Nat):Option Value:=w.cell? ⟨b,o,iG⟩
mutual
def Loc(G:Gh)(w:World)(s:Nat):T→List Nat→Nat→Nat→Prop
 |.agg xs,p,b,o=>G.ad s p=⟨b,o,iG⟩∧vR G w s xs p 0 b o
 |.tup _,_,_,_=>False
 |.any,p,b,o|.lit _,p,b,o|.ro _,p,b,o|.same _ _,p,b,o|.addr _ _,p,b,o|.sub _ _ _ _ _,p,b,o|.sl _ _,p,b,o|.ptr _,p,b,o=>
  G.ad s p=⟨b,o,iG⟩∧G.lb b o=iF (iI,s,p)∧yU w b o=iF (G.hd s p)
def vR(G:Gh)(w:World)(s:Nat):List T→List Nat→Nat→Nat→Nat→Prop
 | [],_,_,_,_=>True
 |x::xs,p,j,b,o=>Loc G w s x (j::p) b o∧vR G w s xs p (j+1) b (o+x.size)
end
def zBw(v:Value)(k lo hi:Nat):Value:=
 match v with
 |.slice a _ c=>.slice (if c=lo then a else a.map (·.add (lo*k))) (hi-lo) (c-lo)
 |v=>v
mutual
def R(St:Stb)(G:Gh)(w:World)(s:Nat):T→List Nat→Prop
 |.any,_=>True
 |.lit v,p=>G.hd s p=v
 |.ro t,p=>RoC St t #[G.hd s p] 0
 |.same r q,p=>G.hd s p=G.hd r q
 |.addr r q,p=>G.hd s p=.pointer (iF (G.ad r q))
 |.sub r q k lo hi,p=>G.hd s p=zBw (G.hd r q) k lo hi
 |.sl k xs,p=>(xs=[]∧ ∃a,G.hd s p=.slice a 0 0)∨ ∃b cap cs e,G.hd s p=.slice (iF ⟨b,0,iG⟩) xs.length cap∧
   w.heap[b]? =iF (.cells cs e (0,0))∧xs.length≤cap∧cap≤maxLen∧cap*k≤cs.size∧G.ow b=iF (s,p)∧
   (∀o,xs.length*k≤o→o<cap*k→G.lb b o=iF (iH,s,p))∧RL St G w s xs p 0 b 0 k
 |.agg xs,p=>RF St G w s xs p 0
 |.ptr t,p=> ∃b cs e,G.hd s p=.pointer (iF ⟨b,0,iG⟩)∧w.heap[b]? =iF (.cells cs e (0,0))∧cs.size=t.size∧G.ow b=iF (s,p)∧
   Loc G w s t (0::p) b 0∧R St G w s t (0::p)
 |.tup xs,p=>RF St G w s xs p 0
def RL(St:Stb)(G:Gh)(w:World)(s:Nat):List T→List Nat→Nat→Nat→Nat→Nat→Prop
 | [],_,_,_,_,_=>True
 |x::xs,p,i,b,o,k=>(Loc G w s x (i::p) b o∧x.size=k)∧R St G w s x (i::p)∧RL St G w s xs p (i+1) b (o+k) k
def RF(St:Stb)(G:Gh)(w:World)(s:Nat):List T→List Nat→Nat→Prop
 | [],_,_=>True
 |x::xs,p,j=>R St G w s x (j::p)∧RF St G w s xs p (j+1)
end
mutual
def xG(φ:Nat→List Nat→Prop):T→Prop
 |.same r p|.addr r p|.sub r p _ _ _=>φ r p
 |.sl _ xs|.agg xs|.tup xs=>wC φ xs
 |.ptr t=>xG φ t
 |.any|.lit _|.ro _=>True
def wC(φ:Nat→List Nat→Prop):List T→Prop
 | []=>True
 |x::xs=>xG φ x∧wC φ xs
end
mutual
theorem xG.mono{φ ψ:Nat→List Nat→Prop}(h:∀r p,φ r p→ψ r p):(t:T)→xG φ t→xG ψ t
 |.same _ _,ht|.addr _ _,ht|.sub _ _ _ _ _,ht=>h _ _ ht
 |.sl _ xs,ht|.agg xs,ht|.tup xs,ht=>by simp only[xG]at ht ⊢;exact wC.mono h xs ht
 |.ptr t,ht=>by simp only[xG]at ht ⊢;exact xG.mono h t ht
 |.any,_|.lit _,_|.ro _,_=>by simp[xG]
theorem wC.mono{φ ψ:Nat→List Nat→Prop}(h:∀r p,φ r p→ψ r p):(xs:List T)→wC φ xs→wC ψ xs
 | [],_=>trivial
 |x::xs,hx=>⟨xG.mono h x hx.1,wC.mono h xs hx.2⟩
end
mutual
theorem xG.triv{φ:Nat→List Nat→Prop}(h:∀r p,φ r p):(t:T)→xG φ t
 |.same _ _|.addr _ _|.sub _ _ _ _ _=>by simp only[xG];exact h _ _
 |.sl _ xs|.agg xs|.tup xs=>by simp only[xG];exact wC.triv h xs
 |.ptr t=>by simp only[xG];exact xG.triv h t
 |.any|.lit _|.ro _=>by simp only[xG]
theorem wC.triv{φ:Nat→List Nat→Prop}(h:∀r p,φ r p):(xs:List T)→wC φ xs
 | []=>by simp only[wC]
 |x::xs=>by simp only[wC];exact⟨xG.triv h x,wC.triv h xs⟩
end
abbrev yE(t:T):Prop:=xG (fun _ _=>False) t
abbrev xT(xs:List T):Prop:=wC (fun _ _=>False) xs
def Blk(w w':World):Prop:=∀(b:Nat) cs e,w.heap[b]? =iF (.cells cs e (0,0))→ ∃cs',w'.heap[b]? =iF (.cells cs' e (0,0))∧cs'.size=cs.size
structure MovesE (G:Gh) (w:World) (G':Gh) (w':World) (s:Nat) (p:List Nat) (s':Nat) (p':List Nat):Prop where
 hd:∀z,G'.hd s' (z++p')=G.hd s (z++p)
 ad:∀z,z≠[]→G'.ad s' (z++p')=G.ad s (z++p)
 lb:∀b o f z,z≠[]→(∃y,G.ow b=iF (s,y))→G.lb b o=iF (f,s,z++p)→G'.lb b o=iF (f,s',z++p')∧yU w' b o=yU w b o
 ow:∀b z,z≠[]→G.ow b=iF (s,z++p)→G'.ow b=iF (s',z++p')
 blk:Blk w w'
structure zJx (G:Gh) (w:World) (G':Gh) (w':World) (s:Nat) (p:List Nat) (s':Nat) (p':List Nat):Prop extends MovesE G w G' w' s p s' p' where
 sp:∀b o,(∃y,G.ow b=iF (s,y))→G.lb b o=iF (iH,s,p)→G'.lb b o=iF (iH,s',p')∧yU w' b o=yU w b o
 ow0:∀b,G.ow b=iF (s,p)→G'.ow b=iF (s',p')
def zAv(G G':Gh)(r:Nat)(p:List Nat):Prop:=G'.hd r p=G.hd r p∧G'.ad r p=G.ad r p
section
variable {St:Stb}{G:Gh}{w:World}{G':Gh}{w':World}{s:Nat}{p:List Nat}{s':Nat}{p':List Nat}
mutual
theorem zEE(hm:MovesE G w G' w' s p s' p'):(t:T)→ ∀(z:List Nat)(b o:Nat),z≠[]→(∃y,G.ow b=iF (s,y))→Loc G w s t (z++p) b o→Loc G' w' s' t (z++p') b o
 |.agg xs,z,b,o,hz,e6,h=>by
  simp only[Loc]at h ⊢
  exact⟨(hm.ad z hz).trans h.1,zJy hm xs z 0 b o e6 h.2⟩
 |.any,z,b,o,hz,e6,h|.lit _,z,b,o,hz,e6,h|.ro _,z,b,o,hz,e6,h|.same _ _,z,b,o,hz,e6,h|.addr _ _,z,b,o,hz,e6,h|.sub _ _ _ _ _,z,b,o,hz,e6,h|.sl _ _,z,b,o,hz,e6,h|.ptr _,z,b,o,hz,e6,h=>by
  simp only[Loc]at h ⊢
  obtain⟨h1,h2,h3⟩:=h;have hl:=hm.lb b o iI z hz e6 h2;exact⟨(hm.ad z hz).trans h1,hl.1,by rw[hl.2,h3,hm.hd]⟩
 |.tup _,_,_,_,_,_,h=>by simp only[Loc]at h
theorem zJy(hm:MovesE G w G' w' s p s' p'):(xs:List T)→ ∀(z:List Nat)(j b o:Nat),(∃y,G.ow b=iF (s,y))→vR G w s xs (z++p) j b o→vR G' w' s' xs (z++p') j b o
 | [],_,_,_,_,_,_=>by simp only[vR]
 |x::xs,z,j,b,o,e6,h=>by
  simp only[vR]at h ⊢
  exact⟨zEE hm x (j::z) b o (by simp) e6 h.1,zJy hm xs z (j+1) b _ e6 h.2⟩
end
mutual
theorem zEF(hm:MovesE G w G' w' s p s' p'):(t:T)→ ∀(z:List Nat),z≠[]→xG (zAv G G') t→R St G w s t (z++p)→R St G' w' s' t (z++p')
 |.any,_,_,_,_=>by simp only[R]
 |.lit _,z,_,_,h=>by simp only[R]at h ⊢;rw[hm.hd];exact h
 |.ro _,z,_,_,h=>by simp only[R]at h ⊢;rw[hm.hd];exact h
 |.same r q,z,_,hk,h=>by simp only[R]at h ⊢;rw[hm.hd,hk.1];exact h
 |.addr r q,z,_,hk,h=>by simp only[R]at h ⊢;rw[hm.hd,hk.2];exact h
 |.sub r q k lo hi,z,_,hk,h=>by simp only[R]at h ⊢;rw[hm.hd,hk.1];exact h
 |.agg xs,z,_,hk,h=>by simp only[R,xG]at h hk ⊢;exact zEG hm xs z 0 hk h
 |.tup xs,z,_,hk,h=>by simp only[R,xG]at h hk ⊢;exact zEG hm xs z 0 hk h
 |.sl k xs,z,hz,hk,h=>by
  simp only[R,xG]at h hk ⊢
  rw[hm.hd];rcases h with h|⟨b,cap,cs,e,h1,h2,h3,h4,h5,h6,h7,h8⟩
  ·grind
  ·obtain⟨cs',cw,gz⟩:=hm.blk b cs e h2
   exact .inr ⟨b,cap,cs',e,h1,cw,h3,h4,by omega,hm.ow b z hz h6,fun o ho ho2=>(hm.lb b o iH z hz ⟨_,h6⟩ (h7 o ho (by omega))).1,zKq hm xs z 0 b 0 k ⟨_,h6⟩ hk h8⟩
 |.ptr t,z,hz,hk,h=>by
  simp only[R,xG]at h hk ⊢
  rw[hm.hd];obtain⟨b,cs,e,h1,h2,h3,h6,h4,h5⟩:=h;obtain⟨cs',cw,gz⟩:=hm.blk b cs e h2;exact⟨b,cs',e,h1,cw,by omega,hm.ow b z hz h6,by grind[zEE],zEF hm t (0::z) (by simp) hk h5⟩
theorem zKq(hm:MovesE G w G' w' s p s' p'):(xs:List T)→ ∀(z:List Nat)(i b o k:Nat),(∃y,G.ow b=iF (s,y))→wC (zAv G G') xs→RL St G w s xs (z++p) i b o k→RL St G' w' s' xs (z++p') i b o k
 | [],_,_,_,_,_,_,_,_=>by simp only[RL]
 |x::xs,z,i,b,o,k,e6,hk,h=>by
  simp only[RL,wC]at h hk ⊢
  exact⟨by grind[zEE],zEF hm x (i::z) (by simp) hk.1 h.2.1,zKq hm xs z (i+1) b _ k e6 hk.2 h.2.2⟩
theorem zEG(hm:MovesE G w G' w' s p s' p'):(xs:List T)→ ∀(z:List Nat)(j:Nat),wC (zAv G G') xs→RF St G w s xs (z++p) j→RF St G' w' s' xs (z++p') j
 | [],_,_,_,_=>by simp only[RF]
 |x::xs,z,j,hk,h=>by
  simp only[RF,wC]at h hk ⊢
  exact⟨zEF hm x (j::z) (by simp) hk.1 h.1,zEG hm xs z (j+1) hk.2 h.2⟩
end
theorem zAy(hm:zJx G w G' w' s p s' p')(t:T)(hk:xG (zAv G G') t)(h:R St G w s t p):R St G' w' s' t p':=by
 have hd0:G'.hd s' p'=G.hd s p:=by simpa using hm.hd []
 cases t with
 |any=>simp only[R]
 |lit _=>simp only[R]at h ⊢;grind
 |ro _=>simp only[R]at h ⊢;grind
 |same r q=>simp only[R]at h ⊢;rw[hd0,hk.1];exact h
 |addr r q=>simp only[R]at h ⊢;rw[hd0,hk.2];exact h
 |sub r q k lo hi=>simp only[R]at h ⊢;rw[hd0,hk.1];exact h
 |agg xs=>simp only[R,xG]at h hk ⊢;simpa using zEG hm.toMovesE xs [] 0 hk (by grind)
 |tup xs=>simp only[R,xG]at h hk ⊢;simpa using zEG hm.toMovesE xs [] 0 hk (by grind)
 |sl k xs=>
  simp only[R,xG]at h hk ⊢
  rw[hd0];rcases h with h|⟨b,cap,cs,e,h1,h2,h3,h4,h5,h6,h7,h8⟩
  ·grind
  ·obtain⟨cs',cw,gz⟩:=hm.blk b cs e h2
   exact .inr ⟨b,cap,cs',e,h1,cw,h3,h4,by omega,hm.ow0 b h6,fun o ho ho2=>(hm.sp b o ⟨_,h6⟩ (h7 o ho (by omega))).1,by simpa using zKq hm.toMovesE xs [] 0 b 0 k ⟨_,h6⟩ hk (by grind)⟩
 |ptr t=>
  simp only[R,xG]at h hk ⊢
  rw[hd0];obtain⟨b,cs,e,h1,h2,h3,h6,h4,h5⟩:=h;obtain⟨cs',cw,gz⟩:=hm.blk b cs e h2;exact⟨b,cs',e,h1,cw,by omega,hm.ow0 b h6,zEE hm.toMovesE t [0] b 0 (by simp) ⟨_,h6⟩ h4,zEF hm.toMovesE t [0] (by simp) hk h5⟩
theorem zS2(hm:zJx G w G' w' s p s' p')(t:T)(z:List Nat)(hk:xG (zAv G G') t)(h:R St G w s t (z++p)):R St G' w' s' t (z++p'):=by
 cases z with
 |nil=>grind[zAy]
 |cons i z=>exact zEF hm.toMovesE t (i::z) (by simp) hk h
end
def T.get:T→List Nat→Option T
 |t,[]=>iF t
 |.sl _ xs,i::f|.agg xs,i::f|.tup xs,i::f=>match xs[i]? with
  |some x=>x.get f
  |none=>iG
 |.ptr t,i::f=>if i=0 then t.get f else iG
 |.any,_::_|.lit _,_::_|.ro _,_::_|.same _ _,_::_|.addr _ _,_::_|.sub _ _ _ _ _,_::_=>iG
termination_by structural _ f=>f
def T.set:T→List Nat→T→T
 |_,[],u=>u
 |.sl k xs,i::f,u=>match xs[i]? with
  |some x=>.sl k (xs.set i (x.set f u))
  |none=>.sl k xs
 |.agg xs,i::f,u=>match xs[i]? with
  |some x=>.agg (xs.set i (x.set f u))
  |none=>.agg xs
 |.tup xs,i::f,u=>match xs[i]? with
  |some x=>.tup (xs.set i (x.set f u))
  |none=>.tup xs
 |.ptr t,i::f,u=>if i=0 then .ptr (t.set f u)else .ptr t
 |.any,_::_,_=>.any
 |.lit v,_::_,_=>.lit v
 |.ro t,_::_,_=>.ro t
 |.same r q,_::_,_=>.same r q
 |.addr r q,_::_,_=>.addr r q
 |.sub r q k lo hi,_::_,_=>.sub r q k lo hi
termination_by structural _ f _=>f
def T.locd:T→List Nat→Bool
 |_,[]=>iI
 |.sl _ _,_::_|.ptr _,_::_=>iH
 |.agg xs,i::f|.tup xs,i::f=>match xs[i]? with
  |some x=>x.locd f
  |none=>iI
 |.any,_::_|.lit _,_::_|.ro _,_::_|.same _ _,_::_|.addr _ _,_::_|.sub _ _ _ _ _,_::_=>iI
termination_by structural _ f=>f
abbrev rp(f p:List Nat):List Nat:=f.reverse++p
theorem zBP(i:Nat)(f p:List Nat):rp (i::f) p=rp f (i::p):=by simp[rp]
section
variable {St:Stb}{G:Gh}{w:World}{s:Nat}
theorem kH:(xs:List T)→ ∀(p:List Nat)(i0 b o k i:Nat)(x:T),RL St G w s xs p i0 b o k→xs[i]? =iF x→
  Loc G w s x ((i0+i)::p) b (o+i*k)∧x.size=k∧R St G w s x ((i0+i)::p)
 | [],_,_,_,_,_,_,_,_,h=>by simp at h
 |y::ys,p,i0,b,o,k,i,x,hr,h=>by
  simp only[RL]at hr;cases i with
  |zero=>
   grind
  |succ i=>
   have:=kH ys p (i0+1) b (o+k) k i x hr.2.2 (by grind)
   grind
theorem zBl:(xs:List T)→ ∀(p:List Nat)(j i:Nat)(x:T),RF St G w s xs p j→xs[i]? =iF x→R St G w s x ((j+i)::p)
 | [],_,_,_,_,_,h=>by simp at h
 |y::ys,p,j,i,x,hr,h=>by
  simp only[RF]at hr;cases i with
  |zero=>grind
  |succ i=>
   have:=zBl ys p (j+1) i x hr.2 (by grind)
   grind
theorem zL6:(xs:List T)→ ∀(p:List Nat)(j b o i:Nat)(x:T),vR G w s xs p j b o→xs[i]? =iF x→
  ∃o',Loc G w s x ((j+i)::p) b o'∧o≤o'∧o'+x.size≤o+T.sizes xs
 | [],_,_,_,_,_,_,_,h=>by simp at h
 |y::ys,p,j,b,o,i,x,hr,h=>by
  simp only[vR]at hr;cases i with
  |zero=>grind[T.sizes]
  |succ i=>
   obtain⟨o',h1,h2,h3⟩:=zL6 ys p (j+1) b (o+y.size) i x hr.2 (by grind)
   grind[T.sizes]
def At(G:Gh)(w:World)(s:Nat)(t:T)(p:List Nat):Prop:=
 ∃b o cs e,Loc G w s t p b o∧w.heap[b]? =iF (.cells cs e (0,0))∧o+t.size≤cs.size
theorem At.field{p:List Nat}(h:At G w s (.agg xs) p){x:T}(hx:xs[i]? =iF x):At G w s x (i::p):=by obtain⟨b,o,cs,e,hl,hh,hs⟩:=h;simp only[Loc]at hl;obtain⟨o',h1,h2,h3⟩:=zL6 xs p 0 b o i x hl.2 hx;simp only[T.size]at hs;exact⟨b,o',cs,e,by grind,hh,by omega⟩
theorem zDp{p:List Nat}(h:R St G w s (.sl k xs) p){x:T}(hx:xs[i]? =iF x):
  At G w s x (i::p)∧R St G w s x (i::p):=by
 simp only[R]at h;have hi:=(Jv.1 hx).1;rcases h with⟨rfl,_⟩|⟨b,cap,cs,e,h1,h2,h3,h4,h5,h6,h7,h8⟩
 ·simp at hx
 ·obtain⟨a1,a2,a3⟩:=kH xs p 0 b 0 k i x h8 hx
  simp only[Ja]at a1 a3;refine⟨⟨b,i*k,cs,e,a1,h2,?_⟩,a3⟩;rw[a2,←K8];exact H2 (K6 _ (by omega)) h5
theorem zBx{t:T}{p:List Nat}(h:R St G w s (.ptr t) p):At G w s t (0::p)∧R St G w s t (0::p):=by simp only[R]at h;obtain⟨b,cs,e,h1,h2,h3,h6,h4,h5⟩:=h;exact⟨⟨b,0,cs,e,h4,h2,by omega⟩,h5⟩
theorem zAD:(f:List Nat)→ ∀(t u:T)(p:List Nat),At G w s t p→R St G w s t p→t.get f=iF u→At G w s u (rp f p)∧R St G w s u (rp f p)
 | [],t,u,p,ha,h,hg=>by simp[T.get]at hg;grind
 |i::f,t,u,p,ha,h,hg=>by
  rw[zBP];cases t with
  |sl k xs=>
   simp only[T.get]at hg;cases hx:xs[i]? with
   |none=>grind
   |some x=>rw[hx]at hg;exact zAD f x u _ (zDp h hx).1 (zDp h hx).2 hg
  |ptr t=>
   simp only[T.get]at hg;split at hg
   ·rename_i hi;subst hi;exact zAD f t u _ (zBx h).1 (zBx h).2 hg
   ·cases hg
  |agg xs=>
   simp only[T.get]at hg;cases hx:xs[i]? with
   |none=>grind
   |some x=>rw[hx]at hg;exact zAD f x u _ (ha.field hx) (by simp only[R]at h;simpa using zBl xs p 0 i x h hx) hg
  |tup xs=>obtain⟨b,o,cs,e,hl,_⟩:=ha;simp only[Loc]at hl
  |_=>grind[T.get]
theorem zAE:(f:List Nat)→ ∀(t u:T)(p:List Nat),R St G w s t p→t.get f=iF u→R St G w s u (rp f p)∧(t.locd f=iH→At G w s u (rp f p))
 | [],t,u,p,h,hg=>by simp[T.get]at hg;subst hg;simpa[rp,T.locd]using h
 |i::f,t,u,p,h,hg=>by
  rw[zBP];cases t with
  |sl k xs=>
   simp only[T.get]at hg;cases hx:xs[i]? with
   |none=>grind
   |some x=>rw[hx]at hg;exact⟨(zAD f x u _ (zDp h hx).1 (zDp h hx).2 hg).2,fun _=>(zAD f x u _ (zDp h hx).1 (zDp h hx).2 hg).1⟩
  |ptr t=>
   simp only[T.get]at hg;split at hg
   ·rename_i hi;subst hi;exact⟨(zAD f t u _ (zBx h).1 (zBx h).2 hg).2,fun _=>(zAD f t u _ (zBx h).1 (zBx h).2 hg).1⟩
   ·cases hg
  |agg xs=>
   simp only[T.get,T.locd]at hg ⊢
   cases hx:xs[i]? with
   |none=>grind
   |some x=>rw[hx]at hg;exact zAE f x u _ (by simp only[R]at h;simpa using zBl xs p 0 i x h hx) hg
  |tup xs=>
   simp only[T.get,T.locd]at hg ⊢
   cases hx:xs[i]? with
   |none=>grind
   |some x=>rw[hx]at hg;exact zAE f x u _ (by simp only[R]at h;simpa using zBl xs p 0 i x h hx) hg
  |_=>grind[T.get]
end
structure Upd (G:Gh) (w:World) (G':Gh) (w':World) (s:Nat) (tgt:List Nat):Prop where
 hd:∀p,¬tgt<:+p→G'.hd s p=G.hd s p
 ad:∀p,¬tgt<:+p→G'.ad s p=G.ad s p
 lb:∀b o f p,G.lb b o=iF (f,s,p)→ ¬tgt<:+p→G'.lb b o=iF (f,s,p)∧yU w' b o=yU w b o
 ow:∀b p,G.ow b=iF (s,p)→ ¬tgt<:+p→G'.ow b=iF (s,p)
 blk:Blk w w'
section
variable {St:Stb}{G:Gh}{w:World}{G':Gh}{w':World}{s:Nat}{tgt:List Nat}
theorem Upd.moves(h:Upd G w G' w' s tgt){p:List Nat}(hp:∀z,¬tgt<:+z++p):zJx G w G' w' s p s p where
 hd z:=h.hd _ (hp z)
 ad z _:=h.ad _ (hp z)
 lb b o f z _ _ hl:=h.lb b o f _ hl (hp z)
 ow b z _ hl:=h.ow b _ hl (hp z)
 sp b o _ hl:=h.lb b o iH p hl (hp [])
 ow0 b hl:=h.ow b p hl (hp [])
 blk:=h.blk
mutual
theorem zEH(hm:Upd G w G' w' s tgt):(t:T)→ ∀(p:List Nat)(b o:Nat),(∀z,¬tgt<:+z++p)→Loc G w s t p b o→Loc G' w' s t p b o
 |.agg xs,p,b,o,hz,h=>by
  simp only[Loc]at h ⊢
  exact⟨(hm.ad p (hz [])).trans h.1,zL7 hm xs p 0 b o hz h.2⟩
 |.any,p,b,o,hz,h|.lit _,p,b,o,hz,h|.ro _,p,b,o,hz,h|.same _ _,p,b,o,hz,h|.addr _ _,p,b,o,hz,h|.sub _ _ _ _ _,p,b,o,hz,h|.sl _ _,p,b,o,hz,h|.ptr _,p,b,o,hz,h=>by
  simp only[Loc]at h ⊢
  obtain⟨h1,h2,h3⟩:=h;have hl:=hm.lb b o iI p h2 (hz []);exact⟨(hm.ad p (hz [])).trans h1,hl.1,by rw[hl.2,h3,hm.hd p (hz [])]⟩
 |.tup _,_,_,_,_,h=>by simp only[Loc]at h
theorem zL7(hm:Upd G w G' w' s tgt):(xs:List T)→ ∀(p:List Nat)(j b o:Nat),(∀z,¬tgt<:+z++p)→vR G w s xs p j b o→vR G' w' s xs p j b o
 | [],_,_,_,_,_,_=>by simp only[vR]
 |x::xs,p,j,b,o,hz,h=>by
  simp only[vR]at h ⊢
  exact⟨zEH hm x (j::p) b o (fun z=>by have:=hz (z++[j]);grind) h.1,zL7 hm xs p (j+1) b _ hz h.2⟩
end
theorem zL8(hm:Upd G w G' w' s tgt)(t u:T)(p:List Nat)(b o:Nat)(ht:∀xs,t≠.agg xs)(hu:∀xs,u≠.agg xs)(tn:∀xs,u≠.tup xs)(hz:¬tgt<:+p)(h:Loc G w s t p b o):Loc G' w' s u p b o:=by
 have h3:G.ad s p=⟨b,o,iG⟩∧G.lb b o=iF (iI,s,p)∧yU w b o=iF (G.hd s p):=by
  cases t with
  |agg xs=>grind
  |tup xs=>simp only[Loc]at h
  |_=>simpa only[Loc]using h
 obtain⟨h1,h2,h3⟩:=h3;have hl:=hm.lb b o iI p h2 hz;have h4:G'.ad s p=⟨b,o,iG⟩∧G'.lb b o=iF (iI,s,p)∧yU w' b o=iF (G'.hd s p):=⟨(hm.ad p hz).trans h1,hl.1,by rw[hl.2,h3,hm.hd p hz]⟩;cases u with
 |agg xs=>grind
 |tup xs=>grind
 |_=>simpa only[Loc]using h4
theorem kI{p:List Nat}{i':Nat}(hi:i'≠i)(z:List Nat):¬f.reverse++(i::p)<:+z++(i'::p):=by
 rintro⟨y,hy⟩
 rw[←Jj]at hy;have:=List.append_inj_right' hy rfl
 grind
theorem kW{p:List Nat}:¬f.reverse++(i::p)<:+p:=by
 intro h;have:=h.length_le
 grind
theorem zJz:(xs:List T)→ ∀(i:Nat)(x y:T),xs[i]? =iF x→y.size=x.size→T.sizes (xs.set i y)=T.sizes xs
 | [],_,_,_,h,_=>by simp at h
 |z::zs,i,x,y,h,hs=>by
  cases i with
  |zero=>grind[T.sizes]
  |succ i=>simp only[Kx,T.sizes,zJz zs i x y (by grind) hs]
theorem zEI:(f:List Nat)→ ∀(t u u0:T),t.get f=iF u0→u.size=u0.size→(t.set f u).size=t.size
 | [],t,u,u0,h,hs=>by grind[T.get,T.set]
 |i::f,t,u,u0,h,hs=>by
  cases t with
  |sl k xs=>grind[T.set,T.size]
  |tup xs=>grind[T.set,T.size]
  |agg xs=>
   simp only[T.get]at h;cases hx:xs[i]? with
   |none=>grind
   |some x=>
    rw[hx]at h;simp only[T.set,hx,T.size];exact zJz xs i x _ hx (zEI f x u u0 h hs)
  |ptr t=>grind[T.set,T.size]
  |_=>rfl
theorem zL9(hm:Upd G w G' w' s tgt):(xs:List T)→ ∀(p:List Nat)(j b o i:Nat)(x y:T),vR G w s xs p j b o→xs[i]? =iF x→y.size=x.size→
  (∀i',i'≠j+i→ ∀z,¬tgt<:+z++(i'::p))→(∀o',Loc G w s x ((j+i)::p) b o'→Loc G' w' s y ((j+i)::p) b o')→vR G' w' s (xs.set i y) p j b o
 | [],_,_,_,_,_,_,_,_,h,_,_,_=>by simp at h
 |z::zs,p,j,b,o,i,x,y,hl,h,hs,hz,hy=>by
  simp only[vR]at hl;cases i with
  |zero=>
   simp at h;subst h;simp only[Kz,vR,hs];exact⟨by grind,LocF_upd' hm zs p (j+1) b _ (by grind) hl.2⟩
  |succ i=>
   simp only[Kx,vR];refine⟨by grind[zEH],zL9 hm zs p (j+1) b _ i x y hl.2 (by grind) hs (by grind) ?_⟩
   grind
where LocF_upd' (hm:Upd G w G' w' s tgt):(xs:List T)→ ∀(p:List Nat)(j b o:Nat),(∀i',j≤i'→ ∀z,¬tgt<:+z++(i'::p))→vR G w s xs p j b o→vR G' w' s xs p j b o
 | [],_,_,_,_,_,_=>by simp only[vR]
 |x::xs,p,j,b,o,hz,h=>by
  simp only[vR]at h ⊢
  exact⟨zEH hm x (j::p) b o (by grind) h.1,LocF_upd' hm xs p (j+1) b _ (by grind) h.2⟩
theorem zKr:(f:List Nat)→ ∀(t u u0:T)(p:List Nat)(b o:Nat),Upd G w G' w' s (rp f p)→Loc G w s t p b o→t.get f=iF u0→u.size=u0.size→
  (∀o',Loc G w s u0 (rp f p) b o'→Loc G' w' s u (rp f p) b o')→Loc G' w' s (t.set f u) p b o
 | [],t,u,u0,p,b,o,hm,hl,hg,hs,hu=>by simp[T.get]at hg;subst hg;simpa[T.set,rp]using hu o (by grind)
 |i::f,t,u,u0,p,b,o,hm,hl,hg,hs,hu=>by
  have gD:=hm;rw[zBP]at gD;cases t with
  |sl k xs=>
   have:∃ys,(T.sl k xs).set (i::f) u=.sl k ys:=by simp only[T.set];grind
   obtain⟨ys,hy⟩:=this;rw[hy];exact zL8 gD (.sl k xs) (.sl k ys) p b o (by simp) (by simp) (by simp) kW hl
  |ptr t=>
   have:∃ys,(T.ptr t).set (i::f) u=.ptr ys:=by simp only[T.set];grind
   obtain⟨ys,hy⟩:=this;rw[hy];exact zL8 gD (.ptr t) (.ptr ys) p b o (by simp) (by simp) (by simp) kW hl
  |agg xs=>
   simp only[T.get]at hg;cases hx:xs[i]? with
   |none=>grind
   |some x=>
    rw[hx]at hg;simp only[T.set,hx];simp only[Loc]at hl ⊢
    refine⟨(gD.ad p kW).trans hl.1,zL9 gD xs p 0 b o i x _ hl.2 hx (zEI f x u u0 hg hs) (by grind[kI]) ?_⟩;intro o' ho';simp only[Ja]at ho' ⊢
    exact zKr f x u u0 (i::p) b o' gD ho' hg hs (by grind)
  |tup xs=>simp only[Loc]at hl
  |_=>grind[T.get]
end
section
variable {St:Stb}{G:Gh}{w:World}{G':Gh}{w':World}{s:Nat}{tgt:List Nat}
theorem zP3(hm:Upd G w G' w' s tgt)(t:T)(p:List Nat)(hz:∀z,¬tgt<:+z++p)(hk:xG (zAv G G') t)(h:R St G w s t p):R St G' w' s t p:=by simpa using zS2 (hm.moves hz) t [] hk (by grind)
theorem zS3(hm:Upd G w G' w' s tgt):(xs:List T)→ ∀(p:List Nat)(i b o k:Nat),(∀i',i≤i'→ ∀z,¬tgt<:+z++(i'::p))→wC (zAv G G') xs→RL St G w s xs p i b o k→RL St G' w' s xs p i b o k
 | [],_,_,_,_,_,_,_,_=>by simp only[RL]
 |x::xs,p,i,b,o,k,hz,hk,h=>by
  simp only[RL,wC]at h hk ⊢
  exact⟨⟨zEH hm x (i::p) b o (by grind) h.1.1,h.1.2⟩,zP3 hm x (i::p) (by grind) hk.1 h.2.1,
   zS3 hm xs p (i+1) b _ k (by grind) hk.2 h.2.2⟩
theorem zS4(hm:Upd G w G' w' s tgt):(xs:List T)→ ∀(p:List Nat)(i0 b o k i:Nat)(x y:T),RL St G w s xs p i0 b o k→xs[i]? =iF x→y.size=x.size→wC (zAv G G') xs→
  (∀i',i'≠i0+i→ ∀z,¬tgt<:+z++(i'::p))→(∀o',Loc G w s x ((i0+i)::p) b o'→Loc G' w' s y ((i0+i)::p) b o')→R St G' w' s y ((i0+i)::p)→
  RL St G' w' s (xs.set i y) p i0 b o k
 | [],_,_,_,_,_,_,_,_,_,h,_,_,_,_,_=>by simp at h
 |z::zs,p,i0,b,o,k,i,x,y,hr,h,hs,hk,hz,hl,hy=>by
  simp only[RL,wC]at hr hk;cases i with
  |zero=>
   simp at h;subst h;simp only[Kz,RL]
   grind[zS3]
  |succ i=>
   simp only[Kx,RL];rw[show i0+(i+1)=i0+1+i from by omega]at hl hy hz;exact⟨by grind[zEH],by grind[zP3],zS4 hm zs p (i0+1) b _ k i x y hr.2.2 (by grind) hs hk.2 hz hl hy⟩
theorem zS5(hm:Upd G w G' w' s tgt):(xs:List T)→ ∀(p:List Nat)(i:Nat),(∀i',i≤i'→ ∀z,¬tgt<:+z++(i'::p))→wC (zAv G G') xs→RF St G w s xs p i→RF St G' w' s xs p i
 | [],_,_,_,_,_=>by simp only[RF]
 |x::xs,p,i,hz,hk,h=>by
  simp only[RF,wC]at h hk ⊢
  exact⟨zP3 hm x (i::p) (by grind) hk.1 h.1,zS5 hm xs p (i+1) (by grind) hk.2 h.2⟩
theorem zNV(hm:Upd G w G' w' s tgt):(xs:List T)→ ∀(p:List Nat)(i0 i:Nat)(x y:T),RF St G w s xs p i0→xs[i]? =iF x→wC (zAv G G') xs→
  (∀i',i'≠i0+i→ ∀z,¬tgt<:+z++(i'::p))→R St G' w' s y ((i0+i)::p)→
  RF St G' w' s (xs.set i y) p i0
 | [],_,_,_,_,_,_,h,_,_,_=>by simp at h
 |z::zs,p,i0,i,x,y,hr,h,hk,hz,hy=>by
  simp only[RF,wC]at hr hk;cases i with
  |zero=>
   simp at h;subst h;simp only[Kz,RF]
   grind[zS5]
  |succ i=>
   simp only[Kx,RF];rw[show i0+(i+1)=i0+1+i from by omega]at hy hz;exact⟨by grind[zP3],zNV hm zs p (i0+1) i x y hr.2 (by grind) hk.2 hz hy⟩
theorem uR{φ:Nat→List Nat→Prop}:(xs:List T)→wC φ xs→ ∀(i:Nat)(x:T),xs[i]? =iF x→xG φ x
 | [],_,_,_,h=>by simp at h
 |y::ys,hk,i,x,h=>by
  simp only[wC]at hk;cases i with
  |zero=>grind
  |succ i=>exact uR ys hk.2 i x (by grind)
theorem zGy:(f:List Nat)→ ∀(t u u0:T)(p:List Nat),Upd G w G' w' s (rp f p)→R St G w s t p→t.get f=iF u0→u.size=u0.size→xG (zAv G G') t→
  (∀b o,Loc G w s u0 (rp f p) b o→Loc G' w' s u (rp f p) b o)→R St G' w' s u (rp f p)→R St G' w' s (t.set f u) p
 | [],t,u,u0,p,hm,hr,hg,hs,hk,hl,hu=>by simpa[T.set,rp]using hu
 |i::f,t,u,u0,p,hm,hr,hg,hs,hk,hl,hu=>by
  have gD:=hm;rw[zBP]at gD hl hu;cases t with
  |sl k xs=>
   simp only[T.get]at hg;cases hx:xs[i]? with
   |none=>grind
   |some x=>
    rw[hx]at hg;simp only[T.set,hx];simp only[R,xG]at hr hk ⊢
    rcases hr with⟨rfl,_⟩|⟨b,cap,cs,e,h1,h2,h3,h4,h5,h6,h7,h8⟩
    ·simp at hx
    ·obtain⟨cs',cw,gz⟩:=gD.blk b cs e h2
     refine .inr ⟨b,cap,cs',e,by rw[gD.hd p kW,Jb7];exact h1,cw,by grind,h4,by omega,gD.ow b p h6 kW,?_,?_⟩
     ·intro o ho ho2
      rw[Jb7]at ho;exact(gD.lb b o iH p (h7 o ho (by omega)) kW).1
     ·have t8:=kH xs p 0 b 0 k i x h8 hx
      simp only[Ja]at t8;refine zS4 gD xs p 0 b 0 k i x _ h8 hx (zEI f x u u0 hg hs) hk (by grind[kI]) ?_ ?_
      ·intro o' ho'
       simp only[Ja]at ho' ⊢
       grind[zKr]
      ·simp only[Ja]
       exact zGy f x u u0 (i::p) gD t8.2.2 hg hs (uR xs hk i x hx) hl hu
  |ptr t=>
   simp only[T.get]at hg;split at hg
   ·rename_i hi;subst hi
    simp only[T.set,if_true];simp only[R,xG]at hr hk ⊢
    obtain⟨b,cs,e,h1,h2,h3,h6,h4,h5⟩:=hr;obtain⟨cs',cw,gz⟩:=gD.blk b cs e h2;refine⟨b,cs',e,by rw[gD.hd p kW];exact h1,cw,by grind[zEI],gD.ow b p h6 kW,by grind[zKr],zGy f t u u0 (0::p) gD h5 hg hs hk hl hu⟩
   ·cases hg
  |agg xs=>
   simp only[T.get]at hg;cases hx:xs[i]? with
   |none=>grind
   |some x=>
    rw[hx]at hg;simp only[T.set,hx];simp only[R,xG]at hr hk ⊢
    refine zNV gD xs p 0 i x _ hr hx hk (by grind[kI]) ?_;simp only[Ja];exact zGy f x u u0 (i::p) gD (by simpa using zBl xs p 0 i x hr hx) hg hs (uR xs hk i x hx) hl hu
  |tup xs=>
   simp only[T.get]at hg;cases hx:xs[i]? with
   |none=>grind
   |some x=>
    rw[hx]at hg;simp only[T.set,hx];simp only[R,xG]at hr hk ⊢
    refine zNV gD xs p 0 i x _ hr hx hk (by grind[kI]) ?_;simp only[Ja];exact zGy f x u u0 (i::p) gD (by simpa using zBl xs p 0 i x hr hx) hg hs (uR xs hk i x hx) hl hu
  |_=>grind[T.get]
end
mutual
def vals(G:Gh)(s:Nat):T→List Nat→List Value
 |.agg xs,p=>yJ G s xs p 0
 |.any,p|.lit _,p|.ro _,p|.same _ _,p|.addr _ _,p|.sub _ _ _ _ _,p|.sl _ _,p|.ptr _,p|.tup _,p=>[G.hd s p]
def yJ(G:Gh)(s:Nat):List T→List Nat→Nat→List Value
 | [],_,_=>[]
 |x::xs,p,j=>vals G s x (j::p)++yJ G s xs p (j+1)
end
def sU(G:Gh)(s:Nat)(t:T)(p:List Nat):Value:=
 match t with
 |.agg xs=>.agg (yJ G s xs p 0).toArray
 |_=>G.hd s p
def zAd(G:Gh)(s:Nat):List T→List Nat→Nat→List Value
 | [],_,_=>[]
 |x::xs,p,j=>sU G s x (j::p)::zAd G s xs p (j+1)
def mkV(G:Gh)(s:Nat)(t:T)(p:List Nat):Value:=
 match t with
 |.agg xs=>.agg (yJ G s xs p 0).toArray
 |.tup xs=>.tuple (zAd G s xs p 0).toArray
 |_=>G.hd s p
mutual
def Top:T→Prop
 |.sl _ xs=>xT xs
 |.ptr t=>yE t
 |.agg xs|.tup xs=>uA xs
 |.any|.lit _|.ro _|.same _ _|.addr _ _|.sub _ _ _ _ _=>True
def uA:List T→Prop
 | []=>True
 |x::xs=>Top x∧uA xs
end
mutual
theorem Top.of_clean:(t:T)→yE t→Top t
 |.sl _ xs,h=>by simpa only[Top,yE,xG]using h
 |.ptr t,h=>by simpa only[Top,yE,xG]using h
 |.agg xs,h|.tup xs,h=>by simp only[Top];exact uA.of_clean xs (by simpa only[yE,xG]using h)
 |.any,_|.lit _,_|.ro _,_|.same _ _,_|.addr _ _,_|.sub _ _ _ _ _,_=>by simp only[Top]
theorem uA.of_clean:(xs:List T)→xT xs→uA xs
 | [],_=>by simp only[uA]
 |x::xs,h=>by simp only[uA];exact⟨Top.of_clean x h.1,uA.of_clean xs h.2⟩
end
abbrev Chg:=List (Nat×Nat)
variable {chg:Chg}
def Off(chg:Chg)(s:Nat)(p:List Nat):Prop:=∀n,(s,n)∈chg→p.length<n
def zAw(chg:Chg)(r:Nat)(p:List Nat):Bool:=chg.all fun c=>c.1 != r||decide (p.length<c.2)
theorem zRe{p:List Nat}(h:zAw chg r p=iH):Off chg r p:=by
 intro n hn;have:=Kc.1 h _ hn
 grind
mutual
def T.okB(chg:Chg):T→Bool
 |.same r p|.addr r p|.sub r p _ _ _=>zAw chg r p
 |.agg xs|.tup xs=>zLA chg xs
 |.any|.lit _|.ro _|.sl _ _|.ptr _=>iH
def zLA(chg:Chg):List T→Bool
 | []=>iH
 |x::xs=>x.okB chg&&zLA chg xs
end
mutual
theorem zAz{chg:Chg}:(t:T)→Top t→t.okB chg=iH→xG (Off chg) t
 |.same r p,_,h|.addr r p,_,h|.sub r p _ _ _,_,h=>by simp only[T.okB]at h;simp only[xG];exact zRe h
 |.agg xs,ht,h|.tup xs,ht,h=>by simp only[T.okB,Top]at h ht;simp only[xG];exact zHm xs ht h
 |.sl _ xs,ht,_=>by simp only[Top]at ht;simp only[xG];grind[wC.mono]
 |.ptr t,ht,_=>by simp only[Top]at ht;simp only[xG];grind[xG.mono]
 |.any,_,_|.lit _,_,_|.ro _,_,_=>by simp only[xG]
theorem zHm{chg:Chg}:(xs:List T)→uA xs→zLA chg xs=iH→wC (Off chg) xs
 | [],_,_=>by simp only[wC]
 |x::xs,ht,h=>by simp only[zLA,uA,J2]at h ht;simp only[wC];exact⟨zAz x ht.1 h.1,zHm xs ht.2 h.2⟩
end
abbrev Env:=Nat→Option T
variable {E:Env}
abbrev Wr:=List (Nat×Option T)
def Wr.find(wr:Wr)(s:Nat):Option (Option T):=
 match wr with
 | []=>iG
 |(k,x)::r=>if k=s then iF x else Wr.find r s
def Env.app(E:Env)(wr:Wr)(chg:Chg):Env:=fun s=>
 match wr.find s with
 |some x=>x
 |none=>match E s with
  |some t=>if t.okB chg then iF t else iG
  |none=>iG
structure Ctx where
 St:Stb
 W:Nat→Prop
 w0:World
 N:Nat
variable {Γ:Ctx}
def zC7(Γ:Ctx)(w:World)(b:Nat):Prop:=b<w.heap.size∧(Γ.w0.heap.size≤b∨Γ.W b)∧Γ.St b=iG
structure zWA (w w':World):Prop where
 blk:Blk w w'
 os:w'.os=w.os
 out:w'.output=w.output
structure Mem (Γ:Ctx) (G:Gh) (w:World):Prop where
 one:∀s p,(G.hd s p).oneCell'=iH
 lb:∀b o l,G.lb b o=iF l→zC7 Γ w b
 ow:∀b l,G.ow b=iF l→zC7 Γ w b
 st:∀b x,Γ.St b=iF x→w.heap[b]? =iF x
 fr:∀b,b<Γ.w0.heap.size→ ¬Γ.W b→w.heap[b]? =Γ.w0.heap[b]?
 sz:Γ.w0.heap.size≤w.heap.size
 bk:zWA Γ.w0 w
theorem Blk.trans{w w'':World}(h:Blk w w')(h':Blk w' w''):Blk w w'':=fun b cs e hb=>by
 obtain⟨cs',h1,h2⟩:=h b cs e hb;obtain⟨cs'',h3,h4⟩:=h' b cs' e h1
 grind
theorem zWA.trans{w w'':World}(h:zWA w w')(h':Blk w' w'')(ho:w''.os=w'.os)(hq:w''.output=w'.output):zWA w w'':=⟨h.blk.trans h',ho.trans h.os,hq.trans h.out⟩
def Ent(Γ:Ctx)(G:Gh)(w:World)(v:Option Value)(s:Nat)(t:T):Prop:=v=iF (mkV G s t [])∧R Γ.St G w s t []∧Top t
structure Rep (Γ:Ctx) (E:Env) (G:Gh) (tmps:Array Value) (w:World):Prop where
 size:tmps.size=Γ.N
 ent:∀s t,E s=iF t→Ent Γ G w tmps[s]? s t
 mem:Mem Γ G w
def Sim(Γ:Ctx)(E:Env)(a:Act)(w:World):Prop:=a.defers=[]∧ ∃G,Rep Γ E G a.tmps w
structure zDD (S S':Stb) (W:Nat→Prop) (n:Nat):Prop where
 le:∀b x,S b=iF x→S' b=iF x
 nw:∀b,S b=iG→S' b≠iG→n≤b∨W b
theorem zDD.refl{S:Stb}{W:Nat→Prop}:zDD S S W n:=⟨fun _ _ h=>h,by grind⟩
theorem zDD.trans{S S' S'':Stb}{W:Nat→Prop}(h:zDD S S' W n)(h':zDD S' S'' W n):zDD S S'' W n:=
 ⟨fun b x hb=>h'.le b x (h.le b x hb),fun b hb f9=>by
  cases hs:S' b with
  |none=>exact h'.nw b hs f9
  |some x=>exact h.nw b hb (by grind)⟩
abbrev Ctx.at(Γ:Ctx)(S:Stb):Ctx:={ Γ with St:=S }
def jR(Γ:Ctx)(E:Env)(a:Act)(w:World):Prop:=∃S,zDD Γ.St S Γ.W Γ.w0.heap.size∧Sim (Γ.at S) E a w
theorem jR.of{w:World}(h:Sim Γ E a w):jR Γ E a w:=⟨Γ.St,.refl,h⟩
theorem jR.up{w:World}{S:Stb}(hS:zDD Γ.St S Γ.W Γ.w0.heap.size)(h:jR (Γ.at S) E a w):jR Γ E a w:=by obtain⟨S',h1,h2⟩:=h;exact⟨S',hS.trans h1,h2⟩
structure jF (chg:Chg) (G:Gh) (w:World) (G':Gh) (w':World):Prop where
 hd:∀s p,Off chg s p→G'.hd s p=G.hd s p
 ad:∀s p,Off chg s p→G'.ad s p=G.ad s p
 lb:∀b o f s p,(∃y,G.ow b=iF (s,y))→G.lb b o=iF (f,s,p)→(∀n,(s,n)∉chg)→G'.lb b o=iF (f,s,p)∧yU w' b o=yU w b o
 ow:∀b s p,G.ow b=iF (s,p)→(∀n,(s,n)∉chg)→G'.ow b=iF (s,p)
 blk:Blk w w'
theorem Off.of_not(h:∀n,(s,n)∉chg)(p:List Nat):Off chg s p:=fun n hn=>absurd hn (h n)
section
variable {Γ:Ctx}{G G':Gh}{w w':World}{s:Nat}{chg:Chg}
mutual
theorem zAU{s':Nat}:(t:T)→ ∀(p p':List Nat),(∀z,G'.hd s' (z++p')=G.hd s (z++p))→vals G' s' t p'=vals G s t p
 |.agg xs,p,p',h=>by simp only[vals];exact zEJ xs p p' 0 h
 |.any,p,p',h|.lit _,p,p',h|.ro _,p,p',h|.same _ _,p,p',h|.addr _ _,p,p',h|.sub _ _ _ _ _,p,p',h|.sl _ _,p,p',h|.ptr _,p,p',h|.tup _,p,p',h=>by simp only[vals];rw[show G'.hd s' p'=G.hd s p from by simpa using h []]
theorem zEJ{s':Nat}:(xs:List T)→ ∀(p p':List Nat)(j:Nat),(∀z,G'.hd s' (z++p')=G.hd s (z++p))→yJ G' s' xs p' j=yJ G s xs p j
 | [],_,_,_,_=>by rfl
 |x::xs,p,p',j,h=>by simp only[yJ];rw[zAU x (j::p) (j::p') (fun z=>by have:=h (z++[j]);grind),zEJ xs p p' (j+1) h]
end
theorem zBQ{s':Nat}(t:T)(p p':List Nat)(h:∀z,G'.hd s' (z++p')=G.hd s (z++p)):sU G' s' t p'=sU G s t p:=by
 unfold sU;split
 ·grind[zEJ]
 ·simpa using h []
theorem zP4{s':Nat}:(xs:List T)→ ∀(p p':List Nat)(j:Nat),(∀z,G'.hd s' (z++p')=G.hd s (z++p))→zAd G' s' xs p' j=zAd G s xs p j
 | [],_,_,_,_=>by rfl
 |x::xs,p,p',j,h=>by simp only[zAd];rw[zBQ x (j::p) (j::p') (fun z=>by have:=h (z++[j]);simpa using this),zP4 xs p p' (j+1) h]
theorem zFC{s':Nat}(t:T)(p p':List Nat)(h:∀z,G'.hd s' (z++p')=G.hd s (z++p)):mkV G' s' t p'=mkV G s t p:=by
 unfold mkV;split
 ·grind[zEJ]
 ·grind[zP4]
 ·simpa using h []
theorem jF.moves(hk:jF chg G w G' w')(hs:∀n,(s,n)∉chg)(p:List Nat):zJx G w G' w' s p s p where
 hd _:=hk.hd _ _ (.of_not hs _)
 ad _ _:=hk.ad _ _ (.of_not hs _)
 lb b o f _ _ e6 hl:=hk.lb b o f s _ e6 hl hs
 ow b _ _ hl:=hk.ow b s _ hl hs
 sp b o e6 hl:=hk.lb b o iH s _ e6 hl hs
 ow0 b hl:=hk.ow b s _ hl hs
 blk:=hk.blk
theorem jF.keepR(hk:jF chg G w G' w'){t:T}(h:xG (Off chg) t):xG (zAv G G') t:=
 xG.mono (fun r p hr=>⟨hk.hd r p hr,hk.ad r p hr⟩) t h
theorem Ent.keep(hk:jF chg G w G' w')(hs:∀n,(s,n)∉chg){v:Option Value}{t:T}(ht:t.okB chg=iH)(h:Ent Γ G w v s t):Ent Γ G' w' v s t:=by
 obtain⟨h1,h2,h3⟩:=h;refine⟨?_,?_,h3⟩
 ·rw[h1,zFC t [] [] (fun z=>hk.hd _ _ (.of_not hs _))]
 ·simpa using zS2 (hk.moves hs []) t [] (hk.keepR (zAz t h3 ht)) (by grind)
end
theorem vS{tmps':Array Value}{w:World}{wr:Wr}(h:Rep Γ E G tmps w)
  (gP:tmps'.size=tmps.size)(hk:jF chg G w G' w')(gp:Mem Γ G' w')
  (gG:∀s,wr.find s=iG→(∀n,(s,n)∉chg)∧tmps'[s]? =tmps[s]?)
  (eJ:∀s t,wr.find s=iF (iF t)→Ent Γ G' w' tmps'[s]? s t):Rep Γ (E.app wr chg) G' tmps' w' where
 size:=by rw[gP,h.size]
 mem:=gp
 ent s t hs:=by
  unfold Env.app at hs;cases hf:wr.find s with
  |some x=>
   grind
  |none=>
   rw[hf]at hs;simp at hs;cases he:E s with
   |none=>grind
   |some u=>
    simp[he]at hs;obtain⟨gB,rfl⟩:=hs;rw[(gG s hf).2];exact Ent.keep hk (gG s hf).1 gB (h.ent s u he)
mutual
def cpT(s:Nat):T→List Nat→T
 |.lit v,_=>.lit v
 |.ro t,_=>.ro t
 |.same r q,_=>.same r q
 |.addr r q,_=>.addr r q
 |.sub r q k lo hi,_=>.sub r q k lo hi
 |.agg xs,p=>.agg (cpF s xs p 0)
 |.any,p|.sl _ _,p|.ptr _,p|.tup _,p=>.same s p
def cpF(s:Nat):List T→List Nat→Nat→List T
 | [],_,_=>[]
 |x::xs,p,j=>cpT s x (j::p)::cpF s xs p (j+1)
end
mutual
theorem jA(s:Nat):(t:T)→ ∀p,Top (cpT s t p)
 |.agg xs,p=>by simp only[cpT,Top];exact zP5 s xs p 0
 |.lit _,_|.ro _,_|.same _ _,_|.addr _ _,_|.sub _ _ _ _ _,_|.any,_|.sl _ _,_|.ptr _,_|.tup _,_=>by simp only[cpT,Top]
theorem zP5(s:Nat):(xs:List T)→ ∀p j,uA (cpF s xs p j)
 | [],_,_=>by simp only[cpF,uA]
 |x::xs,p,j=>by simp only[cpF,uA];exact⟨jA s x _,zP5 s xs p _⟩
end
section
variable {St:Stb}{G G':Gh}{w w':World}{s d:Nat}
mutual
theorem zEd(hs:∀p,G'.hd s p=G.hd s p):(t:T)→ ∀(p p':List Nat),(∀z,G'.hd d (z++p')=G.hd s (z++p))→(∀xs,t≠.tup xs)→xG (zAv G G') (cpT s t p)→R St G w s t p→R St G' w' d (cpT s t p) p'
 |.lit _,p,p',hd,_,_,h=>by simp only[cpT,R]at h ⊢;rw[show G'.hd d p'=_ from by simpa using hd []];exact h
 |.ro _,p,p',hd,_,_,h=>by simp only[cpT,R]at h ⊢;rw[show G'.hd d p'=_ from by simpa using hd []];exact h
 |.same r q,p,p',hd,_,hk,h=>by simp only[cpT,R,xG]at h hk ⊢;rw[show G'.hd d p'=_ from by simpa using hd [],hk.1];exact h
 |.addr r q,p,p',hd,_,hk,h=>by simp only[cpT,R,xG]at h hk ⊢;rw[show G'.hd d p'=_ from by simpa using hd [],hk.2];exact h
 |.sub r q k lo hi,p,p',hd,_,hk,h=>by simp only[cpT,R,xG]at h hk ⊢;rw[show G'.hd d p'=_ from by simpa using hd [],hk.1];exact h
 |.any,p,p',hd,_,_,_|.sl _ _,p,p',hd,_,_,_|.ptr _,p,p',hd,_,_,_=>by simp only[cpT,R];rw[show G'.hd d p'=_ from by simpa using hd [],hs]
 |.tup xs,_,_,_,h,_,_=>absurd rfl (h xs)
 |.agg xs,p,p',hd,_,hk,h=>by simp only[cpT,R,xG]at h hk ⊢;exact zKs hs xs p p' 0 hd hk h
theorem zKs(hs:∀p,G'.hd s p=G.hd s p):(xs:List T)→ ∀(p p':List Nat)(j:Nat),(∀z,G'.hd d (z++p')=G.hd s (z++p))→wC (zAv G G') (cpF s xs p j)→RF St G w s xs p j→RF St G' w' d (cpF s xs p j) p' j
 | [],_,_,_,_,_,_=>by simp only[cpF,RF]
 |x::xs,p,p',j,hd,hk,h=>by
  simp only[cpF,RF,wC]at h hk ⊢
  refine⟨?_,zKs hs xs p p' (j+1) hd hk.2 h.2⟩
  by_cases hx:∃ys,x=.tup ys
  ·obtain⟨ys,rfl⟩:=hx
   simp only[cpT,R];rw[show G'.hd d (j::p')=_ from by simpa using hd [j],hs]
  ·exact zEd hs x (j::p) (j::p') (fun z=>by have:=hd (z++[j]);simpa using this) (fun ys e=>hx ⟨ys,e⟩) hk.1 h.1
end
mutual
theorem zRf:(t:T)→ ∀(p p':List Nat),(∀z,G'.hd d (z++p')=G.hd s (z++p))→vals G' d (cpT s t p) p'=vals G s t p
 |.agg xs,p,p',h=>by simp only[cpT,vals];exact zEe xs p p' 0 h
 |.any,p,p',h|.lit _,p,p',h|.ro _,p,p',h|.same _ _,p,p',h|.addr _ _,p,p',h|.sub _ _ _ _ _,p,p',h|.sl _ _,p,p',h|.ptr _,p,p',h|.tup _,p,p',h=>by simp only[cpT,vals];rw[show G'.hd d p'=G.hd s p from by simpa using h []]
theorem zEe:(xs:List T)→ ∀(p p':List Nat)(j:Nat),(∀z,G'.hd d (z++p')=G.hd s (z++p))→yJ G' d (cpF s xs p j) p' j=yJ G s xs p j
 | [],_,_,_,_=>by rfl
 |x::xs,p,p',j,h=>by simp only[cpF,yJ];rw[zRf x (j::p) (j::p') (fun z=>by have:=h (z++[j]);grind),zEe xs p p' (j+1) h]
end
theorem zAF(t:T)(p p':List Nat)(ht:∀xs,t≠.tup xs)(h:∀z,G'.hd d (z++p')=G.hd s (z++p)):mkV G' d (cpT s t p) p'=sU G s t p:=by
 cases t with
 |agg xs=>grind[cpT,mkV,sU,zEe]
 |tup xs=>grind
 |_=>simpa[cpT,mkV,sU]using h []
end
theorem zAe(G:Gh)(s:Nat)(t:T)(p:List Nat)(ht:∀xs,t≠.tup xs):mkV G s t p=sU G s t p:=by
 cases t with
 |tup xs=>grind
 |_=>rfl
def Gh.put(G:Gh)(d:Nat)(f:List Nat→Value):Gh:={ G with hd:=fun s z=>if s=d then f z else G.hd s z }
theorem Gh.put_other(G:Gh)(f:List Nat→Value)(p:List Nat)(h:s≠d):(G.put d f).hd s p=G.hd s p:=by simp[Gh.put,h]
theorem Gh.put_self(G:Gh)(d:Nat)(f:List Nat→Value)(p:List Nat):(G.put d f).hd d p=f p:=by simp[Gh.put]
theorem zZl{p:List Nat}(h:Off [(d,0)] s p):s≠d:=by
 rintro rfl
 exact absurd (h 0 (by simp)) (by simp)
theorem Gh.put_keep(G:Gh){w:World}(hw:w'.heap=w.heap)(d:Nat)(f:List Nat→Value):jF [(d,0)] G w (G.put d f) w' where
 hd s p h:=G.put_other f p (zZl h)
 ad _ _ _:=rfl
 lb b o f' s p _ h _:=⟨h,by grind[yU,World.cell?]⟩
 ow b s p h _:=h
 blk b cs e h:=by grind
theorem Mem.put{w:World}(h:Mem Γ G w)(hw:w'.heap=w.heap)(d:Nat)(f:List Nat→Value)(hf:∀z,(f z).oneCell'=iH)(ho:w'.os=w.os:=by rfl)(hq:w'.output=w.output:=by rfl):Mem Γ (G.put d f) w' where
 one s p:=by unfold Gh.put;dsimp only;split;exact hf p;exact h.one s p
 lb b o l hl:=by have:=h.lb b o l hl;exact⟨by rw[hw];exact this.1,this.2⟩
 ow b l hl:=by have:=h.ow b l hl;exact⟨by rw[hw];exact this.1,this.2⟩
 st b x hx:=by rw[hw];exact h.st b x hx
 fr b h1 h2:=by rw[hw];exact h.fr b h1 h2
 sz:=by rw[hw];exact h.sz
 bk:=h.bk.trans (fun b cs e hb=>by grind) ho hq
theorem sB(d:Nat)(x:Option T)(s:Nat):Wr.find [(d,x)] s=if d=s then iF x else iG:=by rfl
theorem vU{w:World}(h:Rep Γ E G tmps w)(hw:w'.heap=w.heap)(hd:d<Γ.N)
  (f:List Nat→Value)(hf:∀z,(f z).oneCell'=iH)(t:T)(v:Value)(hv:v=mkV (G.put d f) d t [])(hr:R Γ.St (G.put d f) w' d t [])(ht:Top t)(ho:w'.os=w.os:=by rfl)(hq:w'.output=w.output:=by rfl):
  Rep Γ (E.app [(d,iF t)] [(d,0)]) (G.put d f) (tmps.setIfInBounds d v) w':=by
 refine vS h (by simp) (G.put_keep hw d f) (h.mem.put hw d f hf ho hq) ?_ ?_
 ·grind[sB]
 ·intro s t' hs
  rw[sB]at hs;split at hs
  ·rename_i he
   subst he;simp at hs;subst hs;refine⟨?_,hr,ht⟩;rw[Jp];simp[h.size,hd,hv]
  ·cases hs
def wP(P:Program)(Γ:Ctx)(o:Oper)(E E':Env):Prop:=
 ∀(a:Act)(w:World)(K:Act→World→Prop)(Q:Exit→Act→World→Prop),Sim Γ E a w→(∀a' w',jR Γ E' a' w'→K a' w')→o.wp P a w K Q
def opT(E:Env):Operand→Option T
 |.tmp s=>E s
 |.const v=>if v.oneCell' then iF (.lit v)else iG
 |.func f=>iF (.lit (.func (.func f) #[] #[]))
 |.global _=>iG
def tL(x:Operand)(t:T):T:=match x with
 |.tmp s=>cpT s t []
 |_=>t
section
variable {P:Program}{Γ:Ctx}{E E':Env}{o:Oper}{d:Nat}
theorem wK(h:a.tmps[s]? =iF v):a.eval (.tmp s)=v:=by simp[Act.eval,Kg,h]
theorem wP.value(ho:o.dst=iF d)
  (h:∀(a:Act)(w:World)(G:Gh),Rep Γ E G a.tmps w→ ∃v w',(execOp a.eval o).run P w=.ok (.value v) w'∧ ∃G',Rep Γ E' G' (a.tmps.setIfInBounds d v) w'):wP P Γ o E E':=by
 intro a w K Q ⟨gL,G,g9⟩ hK;obtain⟨v,w',gA,G',fQ⟩:=h a w G g9;unfold Oper.wp;rw[gA,Oper.upon_value];refine hK _ _ ?_;rw[ho];exact .of ⟨gL,G',fQ⟩
theorem wP.skip(ho:o.dst=iG)
  (h:∀(a:Act)(w:World)(G:Gh),Rep Γ E G a.tmps w→ ∃w',(execOp a.eval o).run P w=.ok .skip w'∧ ∃G',Rep Γ E' G' a.tmps w'):wP P Γ o E E':=by
 intro a w K Q ⟨gL,G,g9⟩ hK;obtain⟨w',gA,G',fQ⟩:=h a w G g9;unfold Oper.wp;rw[gA,Oper.upon_skip];refine hK _ _ ?_;rw[ho];exact .of ⟨gL,G',fQ⟩
theorem opd{w:World}(g9:Rep Γ E G a.tmps w){x:Operand}{t:T}(hx:opT E x=iF t)(ht:∀xs,t≠.tup xs):
  ∃f:List Nat→Value,(∀z,(f z).oneCell'=iH)∧(∀d,(∀s,x=.tmp s→s≠d)→T.okB [(d,0)] (tL x t)=iH→
   a.eval x=mkV (G.put d f) d (tL x t) []∧R Γ.St (G.put d f) w d (tL x t) [])∧Top (tL x t):=by
 cases x with
 |tmp s=>
  obtain⟨h1,h2,h3⟩:=g9.ent s t hx;refine⟨fun z=>G.hd s z,fun z=>g9.mem.one s z,?_,jA s t []⟩;intro d gg gB;have cO:=gg s rfl;have hk:=G.put_keep (w:=w) (w':=w) rfl d (fun z=>G.hd s z);have hz:∀z,(G.put d (fun z=>G.hd s z)).hd d (z++[])=G.hd s (z++[]):=by grind[Gh.put_self]
  refine⟨?_,?_⟩
  ·grind[wK,tL,zAF,zAe]
  ·exact zEd (fun p=>G.put_other _ p cO) t [] [] hz ht (hk.keepR (zAz _ (jA s t []) gB)) h2
 |const v=>
  simp only[opT]at hx;split at hx
  ·rename_i gx
   simp at hx;subst hx;exact⟨fun _=>v,fun _=>gx,fun d _ _=>⟨by simp[Act.eval,tL,mkV,Gh.put],by simp[tL,R,Gh.put]⟩,by simp[tL,Top]⟩
  ·cases hx
 |func f=>
  simp only[opT]at hx;simp at hx;subst hx;exact⟨fun _=>.func (.func f) #[] #[],fun _=>rfl,fun d _ _=>⟨by simp[Act.eval,tL,mkV,Gh.put],by simp[tL,R,Gh.put]⟩,by simp[tL,Top]⟩
 |global g=>cases hx
theorem zP6(x:Operand)(t:T)(ho:o.op=.move x∨o.op=.assign x)(gf:o.dst=iF d)(hd:d<Γ.N)(hx:opT E x=iF t)(ht:∀xs,t≠.tup xs)
  (gg:∀s,x=.tmp s→s≠d)(gB:T.okB [(d,0)] (tL x t)=iH):wP P Γ o E (E.app [(d,iF (tL x t))] [(d,0)]):=by
 refine wP.value gf fun a w G g9=>?_
 obtain⟨f,hf,h1,h2⟩:=opd g9 hx ht;obtain⟨h3,h4⟩:=h1 d gg gB;refine⟨a.eval x,w,?_,_,vU g9 rfl hd f hf _ _ h3 h4 h2⟩;rcases ho with ho|ho<;>simp[execOp,ho]
theorem wQ{w:World}(g9:Rep Γ E G a.tmps w){x:Operand}(hx:opT E x=iF (.lit v)):a.eval x=v∧v.oneCell'=iH:=by
 cases x with
 |tmp s=>
  obtain⟨h1,h2,_⟩:=g9.ent s _ hx;simp only[R]at h2;refine⟨?_,by rw[←h2];exact g9.mem.one s []⟩
  grind[wK,mkV]
 |const u=>
  simp only[opT]at hx;split at hx
  ·simp at hx;subst hx;exact⟨rfl,by assumption⟩
  ·cases hx
 |func f=>simp only[opT]at hx;simp at hx;subst hx;exact⟨rfl,rfl⟩
 |global g=>cases hx
theorem zBm(v:Value)(hv:v.oneCell'=iH)(gf:o.dst=iF d)(hd:d<Γ.N)
  (h:∀(a:Act)(w:World)(G:Gh),Rep Γ E G a.tmps w→(execOp a.eval o).run P w=.ok (.value v) w):wP P Γ o E (E.app [(d,iF (.lit v))] [(d,0)]):=by
 refine wP.value gf fun a w G g9=>?_
 exact⟨v,w,h a w G g9,_,vU g9 rfl hd (fun _=>v) (fun _=>hv) (.lit v) v (by simp[mkV,Gh.put]) (by simp[R,Gh.put]) (by simp[Top])⟩
def zKt(op:BinOp)(k:IntKind)(a b:Int):Option Value:=
 match op with
 |.add=>iF (.int k (k.wrap (a+b)))
 |.sub=>iF (.int k (k.wrap (a-b)))
 |.mul=>iF (.int k (k.wrap (a*b)))
 |.quo=>if b=0 then iG else iF (.int k (k.wrap (a.tdiv b)))
 |.rem=>if b=0 then iG else iF (.int k (a.tmod b))
 |.eql=>iF (.bool (a==b))
 |.neq=>iF (.bool (a != b))
 |.lss=>iF (.bool (decide (a<b)))
 |.leq=>iF (.bool (decide (a≤b)))
 |.gtr=>iF (.bool (decide (a> b)))
 |.geq=>iF (.bool (decide (a≥b)))
 |_=>iG
theorem zS6{op:BinOp}{k:IntKind}{a b:Int}(h:zKt op k a b=iF v):v.oneCell'=iH:=by cases op<;>simp[zKt]at h<;>first|(subst h;rfl)|(obtain⟨_,rfl⟩:=h;rfl)
theorem sO(op:BinOp)(xt yt:TypeId)(x y:Operand)(k:IntKind)(m n:Int)(v:Value)(ho:o.op=.binOp op xt x y yt)(gf:o.dst=iF d)(hd:d<Γ.N)
  (hx:opT E x=iF (.lit (.int k m)))(hy:opT E y=iF (.lit (.int k n)))(hv:zKt op k m n=iF v):wP P Γ o E (E.app [(d,iF (.lit v))] [(d,0)]):=by
 refine zBm v (zS6 hv) gf hd fun a w G g9=>?_
 have h1:=(wQ g9 hx).1;have h2:=(wQ g9 hy).1;cases op<;>simp[zKt]at hv<;>
  first
   |(subst hv;simp[execOp,ho,h1,h2,eqGuard,binOp,Op.intArith,Op.intCmp];done)
   |(obtain⟨h0,rfl⟩:=hv;simp[execOp,ho,h1,h2,eqGuard,binOp,Op.intDiv,h0])
theorem zZm(xt:TypeId)(x:Operand)(b:Bool)(ho:o.op=.unOp .not xt x)(gf:o.dst=iF d)(hd:d<Γ.N)
  (hx:opT E x=iF (.lit (.bool b))):wP P Γ o E (E.app [(d,iF (.lit (.bool !b)))] [(d,0)]):=by
 refine zBm _ rfl gf hd fun a w G g9=>?_
 have h1:=(wQ g9 hx).1;simp[execOp,ho,h1,Op.unary]
theorem zZn(xt:TypeId)(x:Operand)(k:IntKind)(n:Int)(ho:o.op=.unOp .neg xt x)(gf:o.dst=iF d)(hd:d<Γ.N)
  (hx:opT E x=iF (.lit (.int k n))):wP P Γ o E (E.app [(d,iF (.lit (.int k (k.wrap (0-n)))))] [(d,0)]):=by
 refine zBm _ rfl gf hd fun a w G g9=>?_
 have h1:=(wQ g9 hx).1;simp[execOp,ho,h1,Op.unary,Op.intArith]
theorem zWB(src dst:TypeId)(ds:TypeDesc)(x:Operand)(k k':IntKind)(n:Int)(ho:o.op=.convert src dst x)(gf:o.dst=iF d)(hd:d<Γ.N)
  (hs:P.underlying src=iF ds)(ht:P.underlying dst=iF (.int k'))(hx:opT E x=iF (.lit (.int k n))):
  wP P Γ o E (E.app [(d,iF (.lit (.int k' (k'.wrap n))))] [(d,0)]):=by
 refine zBm _ rfl gf hd fun a w G g9=>?_
 have h1:=(wQ g9 hx).1;simp[execOp,ho,h1,convert,run_underlying hs,run_underlying ht,Conv.intToInt]
theorem zWC(c x y:Operand)(b:Bool)(t:T)(ho:o.op=.pick c x y)(gf:o.dst=iF d)(hd:d<Γ.N)
  (hc:opT E c=iF (.lit (.bool b)))(hx:opT E (if b then x else y)=iF t)(ht:∀xs,t≠.tup xs)
  (gg:∀s,(if b then x else y)=.tmp s→s≠d)(gB:T.okB [(d,0)] (tL (if b then x else y) t)=iH):wP P Γ o E (E.app [(d,iF (tL (if b then x else y) t))] [(d,0)]):=by
 refine wP.value gf fun a w G g9=>?_
 obtain⟨f,hf,h1,h2⟩:=opd g9 hx ht;obtain⟨h3,h4⟩:=h1 d gg gB;refine⟨a.eval (if b then x else y),w,?_,_,vU g9 rfl hd f hf _ _ h3 h4 h2⟩;have h5:=(wQ g9 hc).1;cases b<;>simp[execOp,ho,h5,asBool]
end
def jG(E:Env):Nat→Nat→List Nat→Option (Nat×List Nat×T)
 |0,_,_=>iG
 |n+1,r,q=>match E r with
  |some t=>match t.get q.reverse with
   |some (.same r' q')=>jG E n r' q'
   |some u=>iF (r,q,u)
   |none=>iG
  |none=>iG
def tU(E:Env):Operand→Option (Nat×List Nat×T)
 |.tmp s=>jG E 4 s []
 |_=>iG
def T.single:T→Bool
 |.agg _|.tup _=>iI
 |_=>iH
theorem xU{t:T}{p:List Nat}(h:t.single=iH):mkV G s t p=G.hd s p:=by cases t<;>simp[T.single]at h<;>rfl
section
variable {P:Program}{Γ:Ctx}{E:Env}{o:Oper}{d:Nat}
theorem zDq{G:Gh}{a:Act}{w:World}(g9:Rep Γ E G a.tmps w):∀(n s:Nat)(p:List Nat)(r:Nat)(q:List Nat)(u:T),jG E n s p=iF (r,q,u)→
  R Γ.St G w r u q∧G.hd s p=G.hd r q∧(∃t,E r=iF t∧t.get q.reverse=iF u)
 |0,_,_,_,_,_,h=>by grind[jG]
 |n+1,s,p,r,q,u,h=>by
  simp only[jG]at h;split at h
  ·rename_i t ht
   obtain⟨_,h4,_⟩:=g9.ent _ _ ht;split at h
   ·rename_i r' q' hg
    obtain⟨h1,h2,h3⟩:=zDq g9 n r' q' r q u h;have h5:=(zAE p.reverse t _ [] h4 hg).1;simp only[rp,Kh,Jf,R]at h5
    grind
   ·rename_i u' hns hg
    simp at h;obtain⟨rfl,rfl,rfl⟩:=h;have h5:=(zAE p.reverse t _ [] h4 hg).1
    grind
   ·cases h
  ·cases h
theorem jS{w:World}(g9:Rep Γ E G a.tmps w){x:Operand}(h:tU E x=iF (r,q,u))(hu:u.single=iH):
  R Γ.St G w r u q∧a.eval x=G.hd r q:=by
 cases x with
 |tmp s=>
  obtain⟨h1,h2,_⟩:=zDq g9 4 s [] r q u h;refine⟨h1,?_⟩;rw[←h2];simp only[tU,jG]at h;split at h
  ·rename_i t ht
   obtain⟨h3,_,_⟩:=g9.ent s _ ht;rw[wK h3];simp only[Q8,T.get]at h;have:t.single=iH:=by cases t<;>first|rfl|grind
   exact xU this
  ·cases h
 |_=>grind[tU]
theorem zKu{w:World}{p:List Nat}(h:R St G w s (.sl k xs) p):∃a c,G.hd s p=.slice a xs.length c:=by
 simp only[R]at h
 grind
theorem zDr{w:World}{p:List Nat}(h:R St G w s (.ro (.sl k xs)) p):∃a c,G.hd s p=.slice a xs.length c∧xs.length≤c∧c≤maxLen∧
   (xs≠[]→ ∃b o' cs' e fr,a=iF ⟨b,o',iG⟩∧St b=iF (.cells cs' e fr)∧RoL St xs cs' o' k):=by
 simp only[R,RoC]at h
 grind
def zLB:T→Option Nat
 |.sl _ xs|.ro (.sl _ xs)=>iF xs.length
 |.lit (.slice _ n _)=>iF n
 |.lit (.string s)=>iF s.size
 |_=>iG
def zWD:T→TypeDesc→Bool
 |.lit (.string _),.string=>iH
 |.sl _ _,.slice _|.ro (.sl _ _),.slice _|.lit (.slice _ _ _),.slice _=>iH
 |_,_=>iI
theorem zS7(x:Operand)(t:TypeId)(ds:TypeDesc)(r:Nat)(q:List Nat)(u:T)(n:Nat)(ho:o.op=.call { callee:=.builtin .len,args:=#[x],argTypes:=#[t] })(gf:o.dst=iF d)(hd:d<Γ.N)
  (ht:P.underlying t=iF ds)(hx:tU E x=iF (r,q,u))(hl:zLB u=iF n)(mb:zWD u ds=iH):
  wP P Γ o E (E.app [(d,iF (.lit (.int .i64 n)))] [(d,0)]):=by
 refine zBm (.int .i64 n) rfl gf hd fun a w G g9=>?_
 have hu:u.single=iH:=by cases u<;>simp[zLB]at hl<;>rfl
 obtain⟨h1,h2⟩:=jS g9 hx hu;have h3:(Builtin.len_ #[t] o.type #[G.hd r q]).run P w=.ok (.int .i64 n) w:=by
  cases u with
  |sl k xs=>
   obtain⟨a',c,h4⟩:=zKu h1;simp[zLB]at hl;subst hl;cases ds<;>simp[zWD]at mb
   simp[Builtin.len_,run_underlying ht,h4,goInt]
  |ro t'=>
   cases t'<;>simp[zLB]at hl
   obtain⟨a',c,h4,_⟩:=zDr h1;subst hl;cases ds<;>simp[zWD]at mb
   simp[Builtin.len_,run_underlying ht,h4,goInt]
  |lit v=>
   simp only[R]at h1;cases v<;>simp[zLB]at hl<;>(subst hl;cases ds<;>simp[zWD]at mb;simp[Builtin.len_,run_underlying ht,h1,goInt])
  |_=>grind[zLB]
 simp[execOp,ho,resolve,invoke,builtin,h2,h3]
theorem zBR{w:World}{t:T}{p:List Nat}{b o:Nat}(h:Loc G w s t p b o):G.ad s p=⟨b,o,iG⟩:=by cases t<;>simp only[Loc]at h<;>first|exact h.1|exact h.elim
theorem uW(b o n:Nat):(⟨b,o,iG⟩:Addr).add n=⟨b,o+n,iG⟩:=by grind[Addr.add]
theorem zWE{w:World}{p:List Nat}(h:R St G w s (.sl k xs) p)(hi:i<xs.length):
  ∃b cap,G.hd s p=.slice (iF ⟨b,0,iG⟩) xs.length cap∧G.ad s (i::p)=⟨b,i*k,iG⟩:=by
 simp only[R]at h;rcases h with⟨rfl,_⟩|⟨b,cap,cs,e,h1,h2,h3,h4,h5,h6,h7,h8⟩
 ·simp at hi
 ·have:=(kH xs p 0 b 0 k i xs[i] h8 (by simp[hi])).1
  simp only[Ja]at this
  grind[zBR]
theorem zS8(x y:Operand)(t e:TypeId)(ti:TypeInfo)(r:Nat)(q:List Nat)(k:Nat)(xs:List T)(kd:IntKind)(i:Int)(ho:o.op=.indexAddr t x y)(gf:o.dst=iF d)(hd:d<Γ.N)
  (ht:P.underlying t=iF (.slice e))(he:P.info? e=iF ti)(hk:ti.size=k)(hx:tU E x=iF (r,q,.sl k xs))(hy:opT E y=iF (.lit (.int kd i)))(h0:0≤i)(h1:i.toNat<xs.length):
  wP P Γ o E (E.app [(d,iF (.addr r (i.toNat::q)))] [(d,0)]):=by
 refine wP.value gf fun a w G g9=>?_
 obtain⟨g1,g2⟩:=jS g9 hx rfl;have g3:=(wQ g9 hy).1;obtain⟨b,cap,g4,g5⟩:=zWE g1 h1;refine⟨.pointer (iF (G.ad r (i.toNat::q))),w,?_,_,vU g9 rfl hd (fun _=>.pointer (iF (G.ad r (i.toNat::q)))) (fun _=>rfl) _ _ (by simp[mkV,Gh.put]) (by simp[R,Gh.put]) (by simp[Top])⟩;have gH:i<(xs.length:Int):=by omega
 simp[execOp,ho,Instr.indexAt,g3,g2,g4,asIntOf,run_underlying ht,h0,gH,sizeOf,typeInfo,he,hk,uW,g5]
theorem zGR{St:Stb}:(xs:List T)→ ∀(cs:Array Value)(o k i:Nat)(x:T),RoL St xs cs o k→xs[i]? =iF x→RoC St x cs (o+i*k)
 | [],_,_,_,_,_,_,h=>by simp at h
 |y::ys,cs,o,k,i,x,hr,h=>by
  simp only[RoL]at hr;cases i with
  |zero=>simp at h;subst h;simpa using hr.1
  |succ i=>
   have:=zGR ys cs (o+k) k i x hr.2 (by simpa using h)
   rwa [show o+(i+1)*k=o+k+i*k from by rw[K8];omega]
theorem zP7{St:Stb}:(xs:List T)→ ∀(cs:Array Value)(o i:Nat)(x:T),RoF St xs cs o→xs[i]? =iF x→RoC St x cs (o+T.sizes (xs.take i))
 | [],_,_,_,_,_,h=>by simp at h
 |y::ys,cs,o,i,x,hr,h=>by
  simp only[RoF]at hr;cases i with
  |zero=>simp at h;subst h;simpa[T.sizes]using hr.1
  |succ i=>
   have:=zP7 ys cs (o+y.size) i x hr.2 (by simpa using h)
   rwa [Lj,T.sizes,←Qd]
theorem zS9(x y:Operand)(t e:TypeId)(ti:TypeInfo)(r:Nat)(q:List Nat)(k:Nat)(xs:List T)(kd:IntKind)(i:Int)(u:T)(ho:o.op=.indexAddr t x y)(gf:o.dst=iF d)(hd:d<Γ.N)
  (ht:P.underlying t=iF (.slice e))(he:P.info? e=iF ti)(hk:ti.size=k)(hx:tU E x=iF (r,q,.ro (.sl k xs)))(hy:opT E y=iF (.lit (.int kd i)))(h0:0≤i)(h1:xs[i.toNat]? =iF u):
  wP P Γ o E (E.app [(d,iF (.ro (.ptr u)))] [(d,0)]):=by
 refine wP.value gf fun a w G g9=>?_
 obtain⟨g1,g2⟩:=jS g9 hx rfl;have g3:=(wQ g9 hy).1;have uz:i.toNat<xs.length:=(Jv.1 h1).1;obtain⟨a',c,g4,_,_,g5⟩:=zDr g1;obtain⟨b,o',cs',e',fr,rfl,g6,g7⟩:=g5 (by rintro rfl;simp at uz);have g8:=zGR xs cs' o' k i.toNat u g7 h1;refine⟨.pointer (iF ⟨b,o'+i.toNat*k,iG⟩),w,?_,_,vU g9 rfl hd (fun _=>.pointer (iF ⟨b,o'+i.toNat*k,iG⟩)) (fun _=>rfl) _ _ (by simp[mkV,Gh.put]) ?_ (by simp[Top])⟩
 ·have gH:i<(xs.length:Int):=by omega
  simp[execOp,ho,Instr.indexAt,g3,g2,g4,asIntOf,run_underlying ht,h0,gH,sizeOf,typeInfo,he,hk,uW]
 ·simp only[R,Gh.put_self,RoC]
  exact⟨b,_,cs',e',fr,by simp,g6,g8⟩
theorem zC8:(xs:List T)→ ∀{G:Gh}{w:World}{s:Nat}(p:List Nat)(j b o i:Nat)(x:T),vR G w s xs p j b o→xs[i]? =iF x→
  Loc G w s x ((j+i)::p) b (o+T.sizes (xs.take i))
 | [],_,_,_,_,_,_,_,_,_,_,h=>by simp at h
 |y::ys,G,w,s,p,j,b,o,i,x,hr,h=>by
  simp only[vR]at hr;cases i with
  |zero=>simp at h;subst h;simpa[T.sizes]using hr.1
  |succ i=>
   have:=zC8 ys p (j+1) b (o+y.size) i x hr.2 (by simpa using h)
   rwa [show j+(i+1)=j+1+i from by omega,Lj,T.sizes,←Qd]
theorem sF{P:Program}{w:World}(a:Addr):(Instr.sureAddr (.pointer (iF a))).run P w=.ok a w:=rfl
theorem zC9{P:Program}{w:World}{S:TypeId}{fs:Array Field}{f:Field}{fi:TypeInfo}{j:Nat}{b o':Nat}(hS:P.underlying S=iF (.struct fs))(hf:fs[j]? =iF f)(hi:P.info? f.type=iF fi)(hz:fi.size≠0):
  (Instr.fieldAt S (.pointer (iF ⟨b,o',iG⟩)) j).run P w=.ok (.pointer (iF ⟨b,o'+f.offset,iG⟩)) w:=by
 simp[Instr.fieldAt,run_underlying hS,hf,sF,fieldPlace,sizeOf,typeInfo,hi,hz,uW]
theorem yAQ(x:Operand)(S:TypeId)(fs:Array Field)(f:Field)(fi:TypeInfo)(j:Nat)(r:Nat)(q:List Nat)(xs:List T)(u:T)(ho:o.op=.fieldAddr S x j)(gf:o.dst=iF d)(hd:d<Γ.N)
  (hS:P.underlying S=iF (.struct fs))(hf:fs[j]? =iF f)(hi:P.info? f.type=iF fi)(hz:fi.size≠0)(hx:tU E x=iF (r,q,.ptr (.agg xs)))(hu:xs[j]? =iF u)(gE:T.sizes (xs.take j)=f.offset):
  wP P Γ o E (E.app [(d,iF (.addr r (j::0::q)))] [(d,0)]):=by
 refine wP.value gf fun a w G g9=>?_
 obtain⟨g1,g2⟩:=jS g9 hx rfl;simp only[R]at g1;obtain⟨b,cs,e,g4,_,_,_,g5,_⟩:=g1;simp only[Loc]at g5;have g6:=zC8 xs (0::q) 0 b 0 j u g5.2 hu;simp only[Ja]at g6;refine⟨.pointer (iF (G.ad r (j::0::q))),w,?_,_,vU g9 rfl hd (fun _=>.pointer (iF (G.ad r (j::0::q)))) (fun _=>rfl) _ _ (by simp[mkV,Gh.put]) (by simp[R,Gh.put]) (by simp[Top])⟩;have g7:=zC9 (w:=w) (b:=b) (o':=0) hS hf hi hz;simp[execOp,ho,g2,g4,g7,zBR g6,gE]
theorem zNW(x:Operand)(S:TypeId)(fs:Array Field)(f:Field)(fi:TypeInfo)(j:Nat)(r:Nat)(q:List Nat)(t:T)(xs:List T)(u:T)(ho:o.op=.fieldAddr S x j)(gf:o.dst=iF d)(hd:d<Γ.N)
  (hS:P.underlying S=iF (.struct fs))(hf:fs[j]? =iF f)(hi:P.info? f.type=iF fi)(hz:fi.size≠0)(hx:opT E x=iF (.addr r q))(hr:E r=iF t)(hg:t.get q.reverse=iF (.agg xs))(hl:t.locd q.reverse=iH)
  (hu:xs[j]? =iF u)(gE:T.sizes (xs.take j)=f.offset):
  wP P Γ o E (E.app [(d,iF (.addr r (j::q)))] [(d,0)]):=by
 refine wP.value gf fun a w G g9=>?_
 cases x with
 |tmp s=>
  obtain⟨h1,h2,_⟩:=g9.ent s _ hx;obtain⟨_,h4,_⟩:=g9.ent r _ hr;simp only[R]at h2;obtain⟨b,o',cs,e,h6,_,_⟩:=(zAE q.reverse t _ [] h4 hg).2 hl;simp only[rp,Kh,Jf]at h6;have h7:=zBR h6;simp only[Loc]at h6;have g6:=zC8 xs q 0 b o' j u h6.2 hu;simp only[Ja]at g6;refine⟨.pointer (iF (G.ad r (j::q))),w,?_,_,vU g9 rfl hd (fun _=>.pointer (iF (G.ad r (j::q)))) (fun _=>rfl) _ _ (by simp[mkV,Gh.put]) (by simp[R,Gh.put]) (by simp[Top])⟩;have g7:=zC9 (w:=w) (b:=b) (o':=o') hS hf hi hz;simp[execOp,ho,wK h1,mkV,h2,h7,g7,zBR g6,gE]
 |const v=>simp only[opT]at hx;split at hx<;>simp at hx
 |func f=>simp[opT]at hx
 |global g=>simp[opT]at hx
theorem zNX{w:World}(g9:Rep Γ E G a.tmps w){x:Operand}(hx:opT E x=iF (.ro u)):RoC Γ.St u #[a.eval x] 0:=by
 cases x with
 |tmp s=>
  obtain⟨h1,h2,_⟩:=g9.ent s _ hx;simp only[R]at h2;rw[wK h1,xU rfl];exact h2
 |const v=>simp only[opT]at hx;split at hx<;>simp at hx
 |func f=>simp[opT]at hx
 |global g=>simp[opT]at hx
theorem zSA(x:Operand)(S:TypeId)(fs:Array Field)(f:Field)(fi:TypeInfo)(j:Nat)(xs:List T)(u:T)(ho:o.op=.fieldAddr S x j)(gf:o.dst=iF d)(hd:d<Γ.N)
  (hS:P.underlying S=iF (.struct fs))(hf:fs[j]? =iF f)(hi:P.info? f.type=iF fi)(hz:fi.size≠0)(hx:opT E x=iF (.ro (.ptr (.agg xs))))(hu:xs[j]? =iF u)(gE:T.sizes (xs.take j)=f.offset):
  wP P Γ o E (E.app [(d,iF (.ro (.ptr u)))] [(d,0)]):=by
 refine wP.value gf fun a w G g9=>?_
 have h1:=zNX g9 hx;simp only[RoC]at h1;obtain⟨b,o',cs',e,fr,h2,h3,h4⟩:=h1;have h5:=zP7 xs cs' o' j u h4 hu;refine⟨.pointer (iF ⟨b,o'+f.offset,iG⟩),w,?_,_,vU g9 rfl hd (fun _=>.pointer (iF ⟨b,o'+f.offset,iG⟩)) (fun _=>rfl) _ _ (by simp[mkV,Gh.put]) ?_ (by simp[Top])⟩
 ·have g7:=zC9 (w:=w) (b:=b) (o':=o') hS hf hi hz
  have h6:a.eval x=.pointer (iF ⟨b,o',iG⟩):=by simpa using h2
  simp[execOp,ho,h6,g7]
 ·simp only[R,Gh.put_self,RoC]
  exact⟨b,o'+f.offset,cs',e,fr,by simp,h3,by rw[←gE];exact h5⟩
def zFD:TypeDesc→Bool
 |.struct _|.array _ _=>iH
 |_=>iI
theorem kJ{P:Program}{w:World}{t:TypeId}{ds:TypeDesc}(ht:P.underlying t=iF ds):(isAgg t).run P w=.ok (zFD ds) w:=by cases ds<;>simp[isAgg,run_underlying ht,zFD]
theorem vK{w:World}{t:T}{p:List Nat}{b o:Nat}(ht:t.single=iH)(h:Loc G w s t p b o):G.ad s p=⟨b,o,iG⟩∧G.lb b o=iF (iI,s,p)∧yU w b o=iF (G.hd s p):=by cases t<;>simp[T.single]at ht<;>simpa only[Loc]using h
mutual
theorem zSB{G:Gh}{w:World}{s:Nat}:(t:T)→ ∀(p:List Nat)(b o:Nat),Loc G w s t p b o→ ∀(i:Nat)(v:Value),(vals G s t p)[i]? =iF v→yU w b (o+i)=iF v
 |.agg xs,p,b,o,h,i,v,hv=>by simp only[Loc,vals]at h hv;exact zBy xs p 0 b o h.2 i v hv
 |.any,p,b,o,h,i,v,hv|.lit _,p,b,o,h,i,v,hv|.ro _,p,b,o,h,i,v,hv|.same _ _,p,b,o,h,i,v,hv|.addr _ _,p,b,o,h,i,v,hv|.sub _ _ _ _ _,p,b,o,h,i,v,hv|.sl _ _,p,b,o,h,i,v,hv|.ptr _,p,b,o,h,i,v,hv=>by
  simp only[Loc,vals]at h hv;cases i with
  |zero=>simp at hv;rw[←hv];exact h.2.2
  |succ i=>simp at hv
 |.tup _,_,_,_,h,_,_,_=>by simp only[Loc]at h
theorem zBy{G:Gh}{w:World}{s:Nat}:(xs:List T)→ ∀(p:List Nat)(j b o:Nat),vR G w s xs p j b o→ ∀(i:Nat)(v:Value),(yJ G s xs p j)[i]? =iF v→yU w b (o+i)=iF v
 | [],_,_,_,_,_,i,v,hv=>by simp[yJ]at hv
 |x::xs,p,j,b,o,h,i,v,hv=>by
  simp only[vR,yJ]at h hv;rw[Ki]at hv;split at hv
  ·exact zSB x (j::p) b o h.1 i v hv
  ·rename_i hge
   have gj:=vN (G:=G) (s:=s) x (j::p) (fun ys e=>by subst e;simp only[Loc]at h;exact h.1);have:=zBy xs p (j+1) b (o+x.size) h.2 _ v hv
   rwa [show o+x.size+(i-(vals G s x (j::p)).length)=o+i from by omega]at this
theorem vN{G:Gh}{s:Nat}:(t:T)→ ∀(p:List Nat),(∀xs,t≠.tup xs)→(vals G s t p).length=t.size
 |.agg xs,p,_=>by simp only[vals,T.size];exact wW xs p 0
 |.any,_,_|.lit _,_,_|.ro _,_,_|.same _ _,_,_|.addr _ _,_,_|.sub _ _ _ _ _,_,_|.sl _ _,_,_|.ptr _,_,_|.tup _,_,_=>by simp[vals,T.size]
theorem wW{G:Gh}{s:Nat}:(xs:List T)→ ∀(p:List Nat)(j:Nat),(yJ G s xs p j).length=T.sizes xs
 | [],_,_=>by simp[yJ,T.sizes]
 |x::xs,p,j=>by
  simp only[yJ,J9,T.sizes,wW xs p (j+1)]
  by_cases hx:∃ys,x=.tup ys
  ·obtain⟨ys,rfl⟩:=hx;simp[vals,T.size]
  ·rw[vN x (j::p) (fun ys e=>hx ⟨ys,e⟩)]
end
theorem zGz{P:Program}{w:World}{t:T}{p:List Nat}{b o':Nat}{T':TypeId}{ds:TypeDesc}(hT:P.underlying T'=iF ds)(hi:P.info? T'=iF ti)(hl:Loc G w s t p b o')
  (fO:zFD ds= !t.single)(gz:ti.size=t.size):(loadVar T' ⟨b,o',iG⟩).run P w=.ok (sU G s t p) w:=by
 cases t with
 |agg xs=>
  have h1:=run_loadCells_list (P:=P) (w:=w) ⟨b,o',iG⟩ (yJ G s xs p 0) (fun j v hv=>by rw[uW];simp only[Loc]at hl;exact zBy xs p 0 b o' hl.2 j v hv)
  rw[wW]at h1;simp only[T.size]at gz;simp[T.single]at fO;simp[loadVar,kJ hT,fO,sizeOf,typeInfo,hi,gz,h1,sU]
 |tup xs=>simp only[Loc]at hl
 |_=>
  have h1:=(vK rfl hl).2.2;simp[T.single]at fO;simp only[yU]at h1;simp[loadVar,kJ hT,fO,load,Sem.run,h1,sU]
def zAV(Γ:Ctx)(E:Env)(x:Operand)(r:Nat)(q:List Nat):Prop:=∀(a:Act)(w:World)(G:Gh),Rep Γ E G a.tmps w→a.eval x=.pointer (iF (G.ad r q))
theorem zAV.addr{x:Operand}(hx:opT E x=iF (.addr r q)):zAV Γ E x r q:=fun a w G g9=>by
 cases x with
 |tmp s=>
  obtain⟨h1,h2,_⟩:=g9.ent s _ hx;simp only[R]at h2;rw[wK h1];exact h2
 |const v=>simp only[opT]at hx;split at hx<;>simp at hx
 |func f=>simp[opT]at hx
 |global g=>simp[opT]at hx
theorem zAV.ptr{x:Operand}{t:T}(hx:tU E x=iF (r,q,.ptr t)):zAV Γ E x r (0::q):=fun a w G g9=>by obtain⟨g1,g2⟩:=jS g9 hx rfl;simp only[R]at g1;obtain⟨b,cs,e,g4,_,_,_,g5,_⟩:=g1;rw[g2,g4,zBR g5]
theorem zLC(x:Operand)(T':TypeId)(ds:TypeDesc)(ti:TypeInfo)(r:Nat)(q:List Nat)(t u:T)(ho:o.op=.load T' x)(gf:o.dst=iF d)(hd:d<Γ.N)
  (hT:P.underlying T'=iF ds)(hi:P.info? T'=iF ti)(fO:zFD ds= !u.single)(gz:ti.size=u.size)
  (hx:zAV Γ E x r q)(hr:E r=iF t)(hg:t.get q.reverse=iF u)(hl:t.locd q.reverse=iH)(gw:r≠d)(gB:T.okB [(d,0)] (cpT r u q)=iH):
  wP P Γ o E (E.app [(d,iF (cpT r u q))] [(d,0)]):=by
 refine wP.value gf fun a w G g9=>?_
 have bC:=hx a w G g9;obtain⟨_,h4,_⟩:=g9.ent r _ hr;obtain⟨h5,h6⟩:=zAE q.reverse t u [] h4 hg;obtain⟨b,o',cs,e,h6,_,_⟩:=h6 hl;simp only[rp,Kh,Jf]at h5 h6;have eg:∀xs,u≠.tup xs:=by rintro xs rfl;simp only[Loc]at h6
 have h7:=zBR h6;have hz:∀z,(G.put d (fun z=>G.hd r (z++q))).hd d (z++[])=G.hd r (z++q):=fun z=>by rw[Gh.put_self,Jf]
 have hk:=G.put_keep (w:=w) (w':=w) rfl d (fun z=>G.hd r (z++q));refine⟨sU G r u q,w,?_,_,vU g9 rfl hd (fun z=>G.hd r (z++q)) (fun z=>g9.mem.one _ _) _ _ (zAF u q [] eg hz).symm
  (zEd (fun p=>G.put_other _ p gw) u q [] hz eg (hk.keepR (zAz _ (jA r u q) gB)) h5) (jA r u q)⟩
 have h8:=zGz (T':=T') hT hi h6 fO gz;simp[execOp,ho,bC,h7,Instr.loadAt,sF,h8]
theorem zWF(x:Operand)(T':TypeId)(ds:TypeDesc)(ti:TypeInfo)(r:Nat)(q:List Nat)(t u:T)(ho:o.op=.load T' x)(gf:o.dst=iF d)(hd:d<Γ.N)
  (hT:P.underlying T'=iF ds)(hi:P.info? T'=iF ti)(fO:zFD ds= !u.single)(gz:ti.size=u.size)
  (hx:opT E x=iF (.addr r q))(hr:E r=iF t)(hg:t.get q.reverse=iF u)(hl:t.locd q.reverse=iH)(gw:r≠d)(gB:T.okB [(d,0)] (cpT r u q)=iH):
  wP P Γ o E (E.app [(d,iF (cpT r u q))] [(d,0)]):=zLC x T' ds ti r q t u ho gf hd hT hi fO gz (zAV.addr hx) hr hg hl gw gB
def roT:T→T
 |.lit v=>.lit v
 |.agg xs=>.agg (roTs xs)
 |.ro t=>.ro t
 |.any=>.any
 |.same r q=>.ro (.same r q)
 |.addr r q=>.ro (.addr r q)
 |.sub r q k lo hi=>.ro (.sub r q k lo hi)
 |.sl k xs=>.ro (.sl k xs)
 |.ptr t=>.ro (.ptr t)
 |.tup xs=>.ro (.tup xs)
where roTs:List T→List T
 | []=>[]
 |x::xs=>roT x::roTs xs
end
def kK(v:Value):Value:=if v.oneCell' then v else .bool iI
theorem zBz(v:Value):(kK v).oneCell'=iH:=by
 unfold kK;split
 ·assumption
 ·rfl
theorem zA0(h:v.oneCell'=iH):kK v=v:=by simp[kK,h]
def zEf:T→Array Value→Nat→List Nat→Value
 |.agg xs,cs,o,i::f=>match xs[i]? with
  |some x=>zEf x cs (o+T.sizes (xs.take i)) f
  |none=>.bool iI
 |_,cs,o,_=>cs.getD o (.bool iI)
termination_by structural _ _ _ f=>f
theorem zAW{t:T}(h:t.single=iH)(cs:Array Value)(o:Nat)(f:List Nat):zEf t cs o f=cs.getD o (.bool iI):=by cases t<;>simp[T.single]at h<;>cases f<;>rfl
mutual
theorem zEK:(u:T)→(∀xs,u≠.tup xs)→(roT u).size=u.size
 |.agg xs,_=>by simp only[roT,T.size];exact zFE xs
 |.lit _,_|.any,_|.sl _ _,_|.ptr _,_|.ro _,_|.same _ _,_|.addr _ _,_|.sub _ _ _ _ _,_|.tup _,_=>by rfl
theorem zFE:(xs:List T)→T.sizes (roT.roTs xs)=T.sizes xs
 | []=>by rfl
 |x::xs=>by
  simp only[roT.roTs,T.sizes,zFE xs]
  by_cases hx:∃ys,x=.tup ys
  ·obtain⟨ys,rfl⟩:=hx;rfl
  ·rw[zEK x (by grind)]
end
section
variable {St:Stb}{G:Gh}{w:World}{d:Nat}
theorem zHn{cs:Array Value}{o:Nat}(hu:u.single=iH)(h:RoC St u cs o):∃v,cs[o]? =iF v∧v.oneCell'=iH∧RoC St u #[v] 0:=by
 cases u<;>simp[T.single]at hu<;>simp only[RoC]at h ⊢
 ·grind
 ·grind
 ·obtain⟨a,c,h1,h2⟩:=h;exact⟨_,h1,rfl,a,c,by simp,h2⟩
 ·obtain⟨b,o',cs',e,fr,h1,h2⟩:=h;exact⟨_,h1,rfl,b,o',cs',e,fr,by simp,h2⟩
mutual
theorem zSC:(u:T)→ ∀(cs:Array Value)(o:Nat)(p:List Nat),(∀z,G.hd d (z++p)=kK (zEf u cs o z.reverse))→RoC St u cs o→R St G w d (roT u) p
 |.agg xs,cs,o,p,hd,h=>by
  simp only[roT,R,RoC]at h ⊢
  exact zSD xs cs o p 0 o (by simp) (fun z j x hx=>by
   have:=hd (z++[j]);simp only[Jj,K5,K0,Jac,Uw,Q8,zEf]at this
   grind) h
 |.lit v,cs,o,p,hd,h=>by
  simp only[roT,R,RoC]at h ⊢
  have:=hd [];rw[K0,zAW rfl]at this;rw[this];simp[Kg,h.1,zA0 h.2]
 |.any,_,_,_,_,_=>by simp only[roT,R]
 |.sl k xs,cs,o,p,hd,h|.ptr t,cs,o,p,hd,h=>by obtain⟨v,h1,h2,h3⟩:=zHn rfl h;have:=hd [];rw[K0,zAW rfl]at this;simp only[roT,R];rw[this];simpa[Kg,h1,zA0 h2]using h3
 |.ro _,_,_,_,_,h|.same _ _,_,_,_,_,h|.addr _ _,_,_,_,_,h|.sub _ _ _ _ _,_,_,_,_,h|.tup _,_,_,_,_,h=>by simp only[RoC]at h
theorem zSD:(xs:List T)→ ∀(cs:Array Value)(o0:Nat)(p:List Nat)(j o:Nat),o0≤o→(∀z i x,xs[i]? =iF x→G.hd d (z++((j+i)::p))=kK (zEf x cs (o+T.sizes (xs.take i)) z.reverse))→RoF St xs cs o→RF St G w d (roT.roTs xs) p j
 | [],_,_,_,_,_,_,_,_=>by simp only[roT.roTs,RF]
 |x::xs,cs,o0,p,j,o,ho,hd,h=>by
  simp only[roT.roTs,RF,RoF]at h ⊢
  refine⟨zSC x cs o (j::p) (fun z=>by simpa[T.sizes]using hd z 0 x (by simp)) h.1,zSD xs cs o0 p (j+1) (o+x.size) (by omega) (fun z i y hy=>?_) h.2⟩;have:=hd z (i+1) y (by grind)
  grind[T.sizes]
end
mutual
theorem zHo:(u:T)→ ∀(cs:Array Value)(o:Nat)(p:List Nat),(∀z,G.hd d (z++p)=kK (zEf u cs o z.reverse))→RoC St u cs o→ ∀(i:Nat)(v:Value),(vals G d (roT u) p)[i]? =iF v→cs[o+i]? =iF v
 |.agg xs,cs,o,p,hd,h,i,v,hv=>by
  simp only[roT,vals,RoC]at h hv;exact zJ0 xs cs p 0 o (fun z j x hx=>by
   have:=hd (z++[j]);simp only[Jj,K5,K0,Jac,Uw,Q8,zEf]at this
   grind) h i v hv
 |.lit _,cs,o,p,hd,h,i,v,hv|.any,cs,o,p,hd,h,i,v,hv|.sl _ _,cs,o,p,hd,h,i,v,hv|.ptr _,cs,o,p,hd,h,i,v,hv=>by
  obtain⟨v',h1,h2,h3⟩:=zHn rfl h;have:=hd [];rw[K0,zAW rfl]at this;simp only[roT,vals]at hv;cases i with
  |zero=>
   simp at hv;rw[←hv,this];simp[Kg,h1,zA0 h2]
  |succ i=>simp at hv
 |.ro _,_,_,_,_,h,_,_,_|.same _ _,_,_,_,_,h,_,_,_|.addr _ _,_,_,_,_,h,_,_,_|.sub _ _ _ _ _,_,_,_,_,h,_,_,_|.tup _,_,_,_,_,h,_,_,_=>by simp only[RoC]at h
theorem zJ0:(xs:List T)→ ∀(cs:Array Value)(p:List Nat)(j o:Nat),(∀z i x,xs[i]? =iF x→G.hd d (z++((j+i)::p))=kK (zEf x cs (o+T.sizes (xs.take i)) z.reverse))→RoF St xs cs o→ ∀(i:Nat)(v:Value),(yJ G d (roT.roTs xs) p j)[i]? =iF v→cs[o+i]? =iF v
 | [],_,_,_,_,_,_,i,v,hv=>by grind[roT.roTs,yJ]
 |x::xs,cs,p,j,o,hd,h,i,v,hv=>by
  simp only[roT.roTs,yJ,RoF]at h hv;have hx:∀z,G.hd d (z++(j::p))=kK (zEf x cs o z.reverse):=fun z=>by simpa[T.sizes]using hd z 0 x (by simp)
  have gj:(vals G d (roT x) (j::p)).length=x.size:=by have hs:(roT x).size=x.size:=zEK x (fun ys e=>by subst e;simp only[RoC]at h;exact h.1);rw[vN (roT x) (j::p) (fun ys e=>by cases x<;>simp[roT]at e),hs]
  rw[Ki]at hv;split at hv
  ·exact zHo x cs o (j::p) hx h.1 i v hv
  ·have:=zJ0 xs cs p (j+1) (o+x.size) (fun z i y hy=>by
    have:=hd z (i+1) y (by grind)
    grind[T.sizes]) h.2 _ v hv
   grind
end
mutual
theorem zP8:(u:T)→Top (roT u)
 |.agg xs=>by simp only[roT,Top];exact zLD xs
 |.lit _|.any|.sl _ _|.ptr _|.ro _|.same _ _|.addr _ _|.sub _ _ _ _ _|.tup _=>by simp[roT,Top]
theorem zLD:(xs:List T)→uA (roT.roTs xs)
 | []=>by simp only[roT.roTs,uA]
 |x::xs=>by simp only[roT.roTs,uA];exact⟨zP8 x,zLD xs⟩
end
end
section
variable {P:Program}{Γ:Ctx}{E:Env}{o:Oper}{d:Nat}
theorem zP9{w:World}(hm:Mem Γ G w){b:Nat}{cs:Array Value}{fr:Nat×Nat}(h:Γ.St b=iF (.cells cs e fr))(i:Nat):w.cell? ⟨b,i,iG⟩=cs[i]?:=by simp[World.cell?,hm.st b _ h]
theorem zNY(x:Operand)(T':TypeId)(ds:TypeDesc)(ti:TypeInfo)(u:T)(ho:o.op=.load T' x)(gf:o.dst=iF d)(hd:d<Γ.N)
  (hT:P.underlying T'=iF ds)(hi:P.info? T'=iF ti)(fO:zFD ds= !u.single)(gz:ti.size=u.size)
  (hx:opT E x=iF (.ro (.ptr u))):wP P Γ o E (E.app [(d,iF (roT u))] [(d,0)]):=by
 refine wP.value gf fun a w G g9=>?_
 have h1:=zNX g9 hx;simp only[RoC]at h1;obtain⟨b,o',cs',e,fr,h2,h3,h4⟩:=h1;have cw:a.eval x=.pointer (iF ⟨b,o',iG⟩):=by grind
 have eg:∀xs,u≠.tup xs:=by rintro xs rfl;simp only[RoC]at h4
 let f:List Nat→Value:=fun z=>kK (zEf u cs' o' z.reverse)
 have hz:∀z,(G.put d f).hd d (z++[])=kK (zEf u cs' o' z.reverse):=by grind[Gh.put_self]
 refine⟨mkV (G.put d f) d (roT u) [],w,?_,_,vU g9 rfl hd f (fun z=>zBz _) _ _ rfl (by grind[zSC]) (zP8 u)⟩;cases u with
 |agg xs=>
  have h5:∀j v,(yJ (G.put d f) d (roT.roTs xs) [] 0)[j]? =iF v→w.cell? ((⟨b,o',iG⟩:Addr).add j)=iF v:=by intro j v hv;rw[uW,zP9 g9.mem h3];exact zHo (.agg xs) cs' o' [] hz h4 j v (by grind[roT,vals])
  have h6:=run_loadCells_list (P:=P) (w:=w) ⟨b,o',iG⟩ _ h5;rw[wW,zFE]at h6;simp only[T.size]at gz;simp[T.single]at fO;simp[execOp,ho,cw,Instr.loadAt,sF,loadVar,kJ hT,fO,sizeOf,typeInfo,hi,gz,h6,mkV,roT]
 |tup xs=>grind
 |_=>
  obtain⟨v,h5,h6,h7⟩:=zHn rfl h4;have h8:w.cell? ⟨b,o',iG⟩=iF v:=by rw[zP9 g9.mem h3];exact h5
  simp[T.single]at fO;have h9:f []=v:=by show kK (zEf _ cs' o' _)=v;rw[zAW rfl];simp[Kg,h5,zA0 h6]
  simp[execOp,ho,cw,Instr.loadAt,sF,loadVar,kJ hT,fO,load,Sem.run,h8,mkV,roT,Gh.put_self,h9]
def zG0(E:Env)(x:Operand):Bool:=
 match opT E x with
 |some (.addr _ _)|some (.ro (.ptr _))=>iH
 |_=>match tU E x with
  |some (_,_,.ptr _)=>iH
  |some (_,_,.ro (.ptr _))=>iH
  |_=>iI
theorem zSE{w:World}(g9:Rep Γ E G a.tmps w){x:Operand}(h:zG0 E x=iH):∃ad,a.eval x=.pointer (iF ad):=by
 unfold zG0 at h;split at h
 ·rename_i r q hx
  cases x with
  |tmp s=>
   obtain⟨h1,h2,_⟩:=g9.ent s _ hx;simp only[R]at h2;exact⟨_,by rw[wK h1,xU rfl,h2]⟩
  |const v=>grind[opT]
  |func f=>grind[opT]
  |global g=>grind[opT]
 ·rename_i u hx
  have:=zNX g9 hx;simp only[RoC]at this
  grind
 ·split at h
  ·rename_i hl
   obtain⟨h1,h2⟩:=jS g9 hl rfl;simp only[R]at h1
   grind
  ·rename_i hl
   obtain⟨h1,h2⟩:=jS g9 hl rfl;simp only[R,RoC]at h1
   grind
  ·cases h
theorem zZo(x:Operand)(t:T)(ho:o.op=.nilCheck x)(gf:o.dst=iF d)(hd:d<Γ.N)(hx:opT E x=iF t)(hp:zG0 E x=iH)(ht:∀xs,t≠.tup xs)
  (gg:∀s,x=.tmp s→s≠d)(gB:T.okB [(d,0)] (tL x t)=iH):wP P Γ o E (E.app [(d,iF (tL x t))] [(d,0)]):=by
 refine wP.value gf fun a w G g9=>?_
 obtain⟨f,hf,h1,h2⟩:=opd g9 hx ht;obtain⟨h3,h4⟩:=h1 d gg gB;obtain⟨ad,h5⟩:=zSE g9 hp;refine⟨a.eval x,w,?_,_,vU g9 rfl hd f hf _ _ h3 h4 h2⟩;simp[execOp,ho,h5]
theorem zLE{G:Gh}{s:Nat}:(xs:List T)→ ∀(p:List Nat)(j i:Nat)(x:T),xs[i]? =iF x→(zAd G s xs p j)[i]? =iF (sU G s x ((j+i)::p))
 | [],_,_,_,_,h=>by simp at h
 |y::ys,p,j,i,x,h=>by
  cases i with
  |zero=>grind[zAd]
  |succ i=>
   have:=zLE (G:=G) (s:=s) ys p (j+1) i x (by grind)
   grind[zAd]
theorem zNZ(s i:Nat)(ts:List T)(t:T)(ho:o.op=.extract (.tmp s) i)(gf:o.dst=iF d)(hd:d<Γ.N)(hs:E s=iF (.tup ts))(hi:ts[i]? =iF t)(ht:∀xs,t≠.tup xs)
  (gg:s≠d)(gB:T.okB [(d,0)] (cpT s t [i])=iH):wP P Γ o E (E.app [(d,iF (cpT s t [i]))] [(d,0)]):=by
 refine wP.value gf fun a w G g9=>?_
 obtain⟨h1,h2,_⟩:=g9.ent s _ hs;simp only[R]at h2;have h3:=zBl ts [] 0 i t h2 hi;simp only[Ja]at h3;have h4:=zLE (G:=G) (s:=s) ts [] 0 i t hi;simp only[Ja]at h4;have hk:=G.put_keep (w:=w) (w':=w) rfl d (fun z=>G.hd s (z++[i]));have hz:∀z,(G.put d (fun z=>G.hd s (z++[i]))).hd d (z++[])=G.hd s (z++[i]):=by grind[Gh.put_self]
 refine⟨sU G s t [i],w,?_,_,vU g9 rfl hd (fun z=>G.hd s (z++[i])) (fun z=>g9.mem.one _ _) _ _ (by grind[zAF])
  (zEd (fun p=>G.put_other _ p gg) t [i] [] hz ht (hk.keepR (by grind[zAz,jA])) h3) (jA s t [i])⟩
 simp[execOp,ho,wK h1,mkV,Instr.extract,h4]
def zBS(E:Env)(x:Option Operand)(dflt n:Nat):Prop:=
 match x with
 |none=>n=dflt
 |some y=> ∃kd,opT E y=iF (.lit (.int kd n))
theorem zHp{St:Stb}:(xs:List T)→ ∀(cs:Array Value)(o k l:Nat),RoL St xs cs o k→RoL St (xs.drop l) cs (o+l*k) k
 | [],_,_,_,_,_=>by simp[RoL]
 |x::xs,cs,o,k,l,h=>by
  cases l with
  |zero=>grind
  |succ l=>
   simp only[RoL]at h;have:=zHp xs cs (o+k) k l h.2
   grind
theorem zHq{St:Stb}:(xs:List T)→ ∀(cs:Array Value)(o k l:Nat),RoL St xs cs o k→RoL St (xs.take l) cs o k
 | [],_,_,_,_,_=>by simp[RoL]
 |x::xs,cs,o,k,l,h=>by
  cases l with
  |zero=>simp[RoL]
  |succ l=>simp only[RoL,Lj]at h ⊢;exact⟨h.1,zHq xs cs _ k l h.2⟩
theorem zDs{P:Program}{w:World}(g9:Rep Γ E G a.tmps w){x:Operand}{kd:IntKind}{y:Nat}{c:BoundsCode}(hx:opT E x=iF (.lit (.int kd n)))(h:n≤y):
  (Instr.sliceBound (a.eval x) y c).run P w=.ok n w:=by
 rw[(wQ g9 hx).1];have:(n:Int)≤(y:Int):=by omega
 simp[Instr.sliceBound,asIntOf,this]
theorem zHr{P:Program}{w:World}(g9:Rep Γ E G a.tmps w){lo hi:Option Operand}{l h c:Nat}(eF:zBS E lo 0 l)(fD:zBS E hi n h)(h1:l≤h)(h2:h≤c):
  (Instr.sliceBounds iH n c (lo.map a.eval) (hi.map a.eval) iG).run P w=.ok (l,h,c) w:=by
 cases lo with
 |none=>
  cases hi with
  |none=>simp only[zBS]at eF fD;subst eF;subst fD;rfl
  |some y=>simp only[zBS]at eF fD;obtain⟨kd,hy⟩:=fD;subst eF;simp[Instr.sliceBounds,zDs g9 hy h2]
 |some x=>
  obtain⟨kd,hx⟩:=eF;cases hi with
  |none=>simp only[zBS]at fD;subst fD;simp[Instr.sliceBounds,zDs g9 hx h1]
  |some y=>obtain⟨kd',hy⟩:=fD;simp[Instr.sliceBounds,zDs g9 hy h2,zDs g9 hx h1]
theorem zLF(x:Operand)(lo hi:Option Operand)(t e:TypeId)(ti:TypeInfo)(r:Nat)(q:List Nat)(k:Nat)(xs:List T)(l h:Nat)(ho:o.op=.slice t x lo hi iG)(gf:o.dst=iF d)(hd:d<Γ.N)
  (ht:P.underlying t=iF (.slice e))(he:P.info? e=iF ti)(hk:ti.size=k)(hx:tU E x=iF (r,q,.ro (.sl k xs)))(eF:zBS E lo 0 l)(fD:zBS E hi xs.length h)(h1:l≤h)(h2:h≤xs.length):
  wP P Γ o E (E.app [(d,iF (.ro (.sl k ((xs.drop l).take (h-l)))))] [(d,0)]):=by
 refine wP.value gf fun a w G g9=>?_
 obtain⟨g1,g2⟩:=jS g9 hx rfl;obtain⟨a',c,g4,g5,g6,g7⟩:=zDr g1;have g8:=zHr (P:=P) g9 eF fD h1 (H2 h2 g5);have gj:((xs.drop l).take (h-l)).length=h-l:=by simp;omega
 refine⟨.slice (if c=l then a' else a'.map (·.add (l*k))) (h-l) (c-l),w,?_,_,vU g9 rfl hd (fun _=>.slice (if c=l then a' else a'.map (·.add (l*k))) (h-l) (c-l)) (fun _=>rfl) _ _ (by simp[mkV,Gh.put]) ?_ (by simp[Top])⟩
 ·simp only[execOp,ho,Jak]
  simp[Instr.sliceAt,Instr.slice,run_underlying ht,g2,g4,g8,sizeOf,typeInfo,he,hk]
 ·simp only[R,Gh.put_self,RoC]
  refine⟨_,_,by rw[gj];rfl,by omega,by omega,?_⟩;intro gg;have eE:xs≠[]:=by grind
  obtain⟨b,o',cs',e',fr,rfl,h3,h4⟩:=g7 eE;have gC:c≠l:=by grind
  grind[uW,zHq,zHp]
theorem zKv(x:Operand)(lo hi:Option Operand)(t e:TypeId)(ti:TypeInfo)(r:Nat)(q:List Nat)(k:Nat)(xs:List T)(l h:Nat)(ho:o.op=.slice t x lo hi iG)(gf:o.dst=iF d)(hd:d<Γ.N)
  (ht:P.underlying t=iF (.slice e))(he:P.info? e=iF ti)(hk:ti.size=k)(hx:tU E x=iF (r,q,.sl k xs))(eF:zBS E lo 0 l)(fD:zBS E hi xs.length h)(h1:l≤h)(h2:h≤xs.length)(gw:r≠d):
  wP P Γ o E (E.app [(d,iF (.sub r q k l h))] [(d,0)]):=by
 refine wP.value gf fun a w G g9=>?_
 obtain⟨g1,g2⟩:=jS g9 hx rfl;obtain⟨a',c,g4⟩:=zKu g1;have g5:xs.length≤c:=by
  simp only[R]at g1
  grind
 have g8:=zHr (P:=P) g9 eF fD h1 (H2 h2 g5);refine⟨zBw (G.hd r q) k l h,w,?_,_,vU g9 rfl hd (fun _=>zBw (G.hd r q) k l h) (fun _=>by rw[g4];rfl) _ _ (by simp[mkV,Gh.put]) ?_ (by simp[Top])⟩
 ·simp only[execOp,ho,Jak]
  simp[Instr.sliceAt,Instr.slice,run_underlying ht,g2,g4,g8,sizeOf,typeInfo,he,hk,zBw]
 ·simp only[R,Gh.put_self]
  grind[Gh.put_other]
end
def T.inT:T→List Nat→Bool
 |_,[]=>iH
 |.agg xs,i::f=>match xs[i]? with
  |some x=>x.inT f
  |none=>iI
 |.any,_::_|.lit _,_::_|.ro _,_::_|.same _ _,_::_|.addr _ _,_::_|.sub _ _ _ _ _,_::_|.sl _ _,_::_|.ptr _,_::_|.tup _,_::_=>iI
termination_by structural _ f=>f
def T.offT:T→List Nat→Nat
 |_,[]=>0
 |.agg xs,i::f=>match xs[i]? with
  |some x=>T.sizes (xs.take i)+x.offT f
  |none=>0
 |.any,_::_|.lit _,_::_|.ro _,_::_|.same _ _,_::_|.addr _ _,_::_|.sub _ _ _ _ _,_::_|.sl _ _,_::_|.ptr _,_::_|.tup _,_::_=>0
termination_by structural _ f=>f
theorem zHs{t:T}(h:t.single=iH)(hf:f≠[]):t.inT f=iI:=by
 cases f with
 |nil=>grind
 |cons i f=>cases t<;>simp[T.single]at h<;>rfl
mutual
def zSF:T→List Nat→Nat→Option (List Nat)
 |.agg xs,p,o=>zCA xs p 0 o
 |.any,p,o|.lit _,p,o|.ro _,p,o|.same _ _,p,o|.addr _ _,p,o|.sub _ _ _ _ _,p,o|.sl _ _,p,o|.ptr _,p,o|.tup _,p,o=>if o=0 then iF p else iG
def zCA:List T→List Nat→Nat→Nat→Option (List Nat)
 | [],_,_,_=>iG
 |x::xs,p,j,o=>if o<x.size then zSF x (j::p) o else zCA xs p (j+1) (o-x.size)
end
mutual
def T.okTup:T→Bool
 |.tup _=>iI
 |.agg xs=>yX xs
 |.any|.lit _|.ro _|.same _ _|.addr _ _|.sub _ _ _ _ _|.sl _ _|.ptr _=>iH
def yX:List T→Bool
 | []=>iH
 |x::xs=>x.okTup&&yX xs
end
theorem zEg:(xs:List T)→ ∀(p:List Nat)(j o:Nat),T.sizes xs≤o→zCA xs p j o=iG
 | [],_,_,_,_=>by rfl
 |x::xs,p,j,o,h=>by simp only[T.sizes]at h;simp only[zCA];rw[if_neg (by omega)];exact zEg xs p (j+1) _ (by omega)
section
variable {G:Gh}{w:World}{d:Nat}
mutual
theorem zZp:(x:T)→ ∀(p:List Nat)(B o:Nat),(∀xs,x≠.tup xs)→x.okTup=iH→
  (∀f,x.inT f=iH→G.ad d (f.reverse++p)=⟨B,o+x.offT f,iG⟩)→(∀j p',j<x.size→zSF x p j=iF p'→G.lb B (o+j)=iF (iI,d,p'))→
  (∀j v,(vals G d x p)[j]? =iF v→yU w B (o+j)=iF v)→Loc G w d x p B o
 |.agg xs,p,B,o,_,hn,ha,hl,hc=>by
  simp only[Loc];refine⟨by simpa[T.offT]using ha [] rfl,zGS xs p 0 B o (by grind[T.okTup]) (fun i x hx f hf=>?_) (fun j p' hj hp=>?_) (by grind[vals])⟩
  ·have:=ha (i::f) (by grind[T.inT])
   grind[T.offT]
  grind[T.size,zSF]
 |.any,p,B,o,_,_,ha,hl,hc|.lit _,p,B,o,_,_,ha,hl,hc|.ro _,p,B,o,_,_,ha,hl,hc|.same _ _,p,B,o,_,_,ha,hl,hc|.addr _ _,p,B,o,_,_,ha,hl,hc|.sub _ _ _ _ _,p,B,o,_,_,ha,hl,hc|.sl _ _,p,B,o,_,_,ha,hl,hc|.ptr _,p,B,o,_,_,ha,hl,hc=>by simp only[Loc];exact⟨by simpa[T.offT]using ha [] rfl,by simpa using hl 0 p (by simp[T.size]) (by rfl),by simpa using hc 0 (G.hd d p) (by simp[vals])⟩
 |.tup xs,_,_,_,h,_,_,_,_=>absurd rfl (h xs)
theorem zGS:(xs:List T)→ ∀(p:List Nat)(j B o:Nat),yX xs=iH→
  (∀i x,xs[i]? =iF x→ ∀f,x.inT f=iH→G.ad d (f.reverse++((j+i)::p))=⟨B,o+(T.sizes (xs.take i)+x.offT f),iG⟩)→
  (∀i p',i<T.sizes xs→zCA xs p j i=iF p'→G.lb B (o+i)=iF (iI,d,p'))→
  (∀i v,(yJ G d xs p j)[i]? =iF v→yU w B (o+i)=iF v)→vR G w d xs p j B o
 | [],_,_,_,_,_,_,_,_=>by simp only[vR]
 |x::xs,p,j,B,o,hn,ha,hl,hc=>by
  simp only[yX,J2]at hn;have eg:∀ys,x≠.tup ys:=by rintro ys rfl;grind[T.okTup]
  simp only[vR];refine⟨zZp x (j::p) B o eg hn.1 (fun f hf=>by simpa[T.sizes]using ha 0 x (by simp) f hf) (fun i p' hi hp=>hl i p' (by grind[T.sizes]) (by simp only[zCA,hi,if_true];exact hp)) (fun i v hv=>hc i v ?_),
   zGS xs p (j+1) B (o+x.size) hn.2 (fun i y hy f hf=>?_) (fun i p' hi hp=>?_) (fun i v hv=>?_)⟩
  ·grind[yJ]
  ·have:=ha (i+1) y (by grind) f hf
   grind[T.sizes]
  ·have:=hl (x.size+i) p' (by grind[T.sizes]) (by simp only[zCA];grind)
   grind
  ·have:=hc (x.size+i) v (by
    grind[yJ,vN])
   grind
end
end
structure MvC (G:Gh) (w:World) (G':Gh) (w':World) (s:Nat) (p:List Nat) (s':Nat) (p':List Nat) (t:T):Prop where
 hd:∀z,G'.hd s' (z++p')=G.hd s (z++p)
 ad:∀z,t.inT z.reverse=iI→G'.ad s' (z++p')=G.ad s (z++p)
 lb:∀b o f z,(f=iH∨t.inT z.reverse=iI)→G.lb b o=iF (f,s,z++p)→G'.lb b o=iF (f,s',z++p')∧yU w' b o=yU w b o
 ow:∀b z,G.ow b=iF (s,z++p)→G'.ow b=iF (s',z++p')
 blk:Blk w w'
section
variable {St:Stb}{G:Gh}{w:World}{G':Gh}{w':World}{s:Nat}{s':Nat}
theorem MvC.moves{p p':List Nat}{t:T}(h:MvC G w G' w' s p s' p' t)(ht:t.single=iH):zJx G w G' w' s p s' p' where
 hd:=h.hd
 ad z hz:=h.ad z (zHs ht (by simp_all))
 lb b o f z hz _ hl:=h.lb b o f z (.inr (zHs ht (by simp_all))) hl
 ow b z _ hl:=h.ow b z hl
 blk:=h.blk
 sp b o _ hl:=by simpa using h.lb b o iH [] (.inl rfl) (by grind)
 ow0 b hl:=by simpa using h.ow b [] (by grind)
theorem MvC.field{p p':List Nat}(h:MvC G w G' w' s p s' p' (.agg xs)){j:Nat}{x:T}(hx:xs[j]? =iF x):MvC G w G' w' s (j::p) s' (j::p') x where
 hd z:=by have:=h.hd (z++[j]);grind
 ad z hz:=by
  have:=h.ad (z++[j]) (by grind[T.inT])
  grind
 lb b o f z hf hl:=by
  have:=h.lb b o f (z++[j]) (by grind[T.inT]) (by grind)
  grind
 ow b z hl:=by
  have:=h.ow b (z++[j]) (by grind)
  grind
 blk:=h.blk
mutual
theorem zLG:(t:T)→ ∀(p p':List Nat),t.okTup=iH→MvC G w G' w' s p s' p' t→xG (zAv G G') t→R St G w s t p→R St G' w' s' t p'
 |.agg xs,p,p',hn,h,hk,hr=>by
  simp only[R,xG,T.okTup]at hr hk hn ⊢
  exact zSG xs p p' 0 hn (fun j x hx=>by rw[Ja];exact h.field hx) hk hr
 |.any,p,p',_,h,hk,hr|.lit _,p,p',_,h,hk,hr|.ro _,p,p',_,h,hk,hr|.same _ _,p,p',_,h,hk,hr|.addr _ _,p,p',_,h,hk,hr|.sub _ _ _ _ _,p,p',_,h,hk,hr|.sl _ _,p,p',_,h,hk,hr|.ptr _,p,p',_,h,hk,hr=>
  zAy (h.moves rfl) _ hk hr
 |.tup _,_,_,hn,_,_,_=>by grind[T.okTup]
theorem zSG:(xs:List T)→ ∀(p p':List Nat)(j:Nat),yX xs=iH→(∀i x,xs[i]? =iF x→MvC G w G' w' s ((j+i)::p) s' ((j+i)::p') x)→wC (zAv G G') xs→RF St G w s xs p j→RF St G' w' s' xs p' j
 | [],_,_,_,_,_,_,_=>by simp only[RF]
 |x::xs,p,p',j,hn,h,hk,hr=>by
  simp only[RF,wC,yX,J2]at hr hk hn ⊢
  exact⟨zLG x (j::p) (j::p') hn.1 (by simpa using h 0 x (by simp)) hk.1 hr.1,zSG xs p p' (j+1) hn.2 (fun i y hy=>by
   have:=h (i+1) y (by grind)
   grind) hk.2 hr.2⟩
end
end
theorem zPA{St:Stb}{G:Gh}{w:World}{s:Nat}:(xs:List T)→ ∀(p:List Nat)(j:Nat),(∀i x,xs[i]? =iF x→R St G w s x ((j+i)::p))→RF St G w s xs p j
 | [],_,_,_=>by simp only[RF]
 |x::xs,p,j,h=>by
  simp only[RF];exact⟨by simpa using h 0 x (by simp),zPA xs p (j+1) (fun i y hy=>by
   have:=h (i+1) y (by grind)
   grind)⟩
theorem zSH{St:Stb}{G:Gh}{w:World}{s:Nat}{k:Nat}:(xs:List T)→ ∀(p:List Nat)(j b o:Nat),(∀x∈xs,x.size=k)→vR G w s xs p j b o→RF St G w s xs p j→RL St G w s xs p j b o k
 | [],_,_,_,_,_,_,_=>by simp only[RL]
 |x::xs,p,j,b,o,hk,hl,hr=>by
  simp only[RL,vR,RF]at hl hr ⊢
  have h1:=hk x (by simp);exact⟨⟨hl.1,h1⟩,hr.1,zSH xs p (j+1) b (o+k) (by grind) (by grind) hr.2⟩
theorem wZ{k:Nat}:(xs:List T)→(∀x∈xs,x.size=k)→T.sizes xs=xs.length*k
 | [],_=>by simp[T.sizes]
 |x::xs,h=>by simp[T.sizes,wZ xs (fun y hy=>h y (by simp[hy])),h x (by simp),K8];omega
def Gh.nb(G:Gh)(d B:Nat)(xs:List T)(src:Nat→Option (Nat×List Nat))(φ:Nat→List Nat→Option (List Nat))(f:Nat→List Nat→Value)(hH:Value):Gh where
 hd s z:=if s=d then(match z.getLast? with
  |some i=>f i z.dropLast
  |none=>hH)else G.hd s z
 ad s z:=if s=d then(if(T.agg xs).inT z.reverse then⟨B,(T.agg xs).offT z.reverse,iG⟩else match z.getLast? with
  |some i=>(match src i with
   |some (x,q)=>G.ad x (z.dropLast++q)
   |none=>default)
  |none=>default)else G.ad s z
 lb b o:=if b=B then iF (match zCA xs [] 0 o with
  |some p=>(iI,d,p)
  |none=>(iH,d,[]))else match G.lb b o with
  |some (fl,s,z)=>(match φ s z with
   |some z'=>iF (fl,d,z')
   |none=>iF (fl,s,z))
  |none=>iG
 ow b:=if b=B then iF (d,[])else match G.ow b with
  |some (s,z)=>(match φ s z with
   |some z'=>iF (d,z')
   |none=>iF (s,z))
  |none=>iG
theorem zDt{w:World}(hm:Mem Γ G w){cells:Array Value}(hw:w'.heap=w.heap.push (.cells cells e))(d:Nat)(xs:List T)
  (src:Nat→Option (Nat×List Nat))(φ:Nat→List Nat→Option (List Nat))(f:Nat→List Nat→Value)(hH:Value)(chg:Chg)
  (gB:yX xs=iH)(hf:∀(i:Nat)(z:List Nat),(f i z).oneCell'=iH)(hh:hH.oneCell'=iH)
  (hφ:∀(i:Nat) u x q(z:List Nat),xs[i]? =iF u→src i=iF (x,q)→φ x (z++q)=iF (z++[i]))
  (dH:∀(i:Nat) u x q,xs[i]? =iF u→src i=iF (x,q)→(∀z,f i z=G.hd x (z++q))∧R Γ.St G w x u q∧yE u∧x≠d)
  (am:∀(i:Nat) u,xs[i]? =iF u→src i=iG→ ∀(G2:Gh)(w2:World),(∀z,G2.hd d (z++[i])=f i z)→R Γ.St G2 w2 d u [i])
  (cu:∀(G2:Gh),(∀i z,G2.hd d (z++[i])=f i z)→ ∀(o:Nat)(v:Value),(yJ G2 d xs [] 0)[o]? =iF v→cells[o]? =iF v)
  (aO:∀s p,(∀n,(s,n)∉(d,0)::chg)→φ s p=iG)(ho:w'.os=w.os:=by rfl)(hq:w'.output=w.output:=by rfl):
  jF ((d,0)::chg) G w (G.nb d w.heap.size xs src φ f hH) w'∧Mem Γ (G.nb d w.heap.size xs src φ f hH) w'∧
  vR (G.nb d w.heap.size xs src φ f hH) w' d xs [] 0 w.heap.size 0∧RF Γ.St (G.nb d w.heap.size xs src φ f hH) w' d xs [] 0∧
  w'.heap[w.heap.size]? =iF (.cells cells e):=by
 have eJ:w'.heap[w.heap.size]? =iF (.cells cells e):=by grind
 have gG:∀b,b<w.heap.size→w'.heap[b]? =w.heap[b]?:=fun b hb=>by rw[hw,Array.getElem?_push];grind
 have gz:w'.heap.size=w.heap.size+1:=by grind
 have fW:∀b o,b<w.heap.size→yU w' b o=yU w b o:=fun b o hb=>by simp[yU,World.cell?,gG b hb]
 have gJ:Blk w w':=fun b cs e' h=>⟨cs,by rw[gG b (by grind)];exact h,rfl⟩
 have gx:=hm.one
 generalize gu:G.nb d w.heap.size xs src φ f hH=G'
 have ghd:∀i z,G'.hd d (z++[i])=f i z:=fun i z=>by rw[←gu];simp[Gh.nb]
 have gad:∀g,(T.agg xs).inT g=iH→G'.ad d g.reverse=⟨w.heap.size,(T.agg xs).offT g,iG⟩:=fun g hg=>by rw[←gu];simp[Gh.nb,hg]
 have gadm:∀i x q z,src i=iF (x,q)→(T.agg xs).inT (i::z.reverse)=iI→G'.ad d (z++[i])=G.ad x (z++q):=fun i x q z hs gO=>by rw[←gu];simp[Gh.nb,gO,hs]
 have glb:∀o p,zCA xs [] 0 o=iF p→G'.lb w.heap.size o=iF (iI,d,p):=fun o p h=>by rw[←gu];simp[Gh.nb,h]
 have glbm:∀b o fl x z z',G.lb b o=iF (fl,x,z)→φ x z=iF z'→G'.lb b o=iF (fl,d,z'):=fun b o fl x z z' h1 h2=>by have:=(hm.lb b o _ h1).1;rw[←gu];simp[Gh.nb,h1,h2,show b≠w.heap.size from by omega]
 have gowm:∀b x z z',G.ow b=iF (x,z)→φ x z=iF z'→G'.ow b=iF (d,z'):=fun b x z z' h1 h2=>by have:=(hm.ow b _ h1).1;rw[←gu];simp[Gh.nb,h1,h2,show b≠w.heap.size from by omega]
 have gg:∀s p,Off ((d,0)::chg) s p→s≠d:=fun s p h e=>absurd (h 0 (by simp[e])) (by simp)
 have gy:jF ((d,0)::chg) G w G' w':=by
  refine⟨fun s p h=>?_,fun s p h=>?_,fun b o fl s p _ hl h=>⟨?_,fW b o (hm.lb b o _ hl).1⟩,fun b s p hl h=>?_,gJ⟩
  ·rw[←gu];simp[Gh.nb,gg s p h]
  ·rw[←gu];simp[Gh.nb,gg s p h]
  ·have:=(hm.lb b o _ hl).1
   rw[←gu];simp[Gh.nb,hl,aO s p h,show b≠w.heap.size from by omega]
  ·have:=(hm.ow b _ hl).1
   rw[←gu];simp[Gh.nb,hl,aO s p h,show b≠w.heap.size from by omega]
 refine⟨gy,?_,?_,?_,eJ⟩
 ·
  have hB:zC7 Γ w' w.heap.size:=⟨by omega,.inl hm.sz,by
   cases gF:Γ.St w.heap.size with
   |none=>rfl
   |some x=>have:=hm.st _ x gF;simp at this⟩
  have fM:∀b,zC7 Γ w b→zC7 Γ w' b:=fun b h=>⟨by have:=h.1;omega,h.2⟩
  refine⟨fun s p=>?_,fun b o l hl=>?_,fun b l hl=>?_,fun b x hx=>?_,fun b h1 h2=>?_,by have:=hm.sz;omega,hm.bk.trans gJ ho hq⟩
  ·rw[←gu]
   simp only[Gh.nb];split
   ·split
    ·exact hf _ _
    ·exact hh
   ·exact gx s p
  ·rw[←gu]at hl
   simp only[Gh.nb]at hl;split at hl
   ·grind
   ·split at hl
    ·rename_i hg;exact fM b (hm.lb b o _ hg)
    ·cases hl
  ·rw[←gu]at hl
   simp only[Gh.nb]at hl;split at hl
   ·grind
   ·split at hl
    ·rename_i hg;exact fM b (hm.ow b _ hg)
    ·cases hl
  ·have:=hm.st b x hx
   rw[gG b (Ga.1 this).1];exact this
  ·rw[gG b (Jal h1 hm.sz)]
   exact hm.fr b h1 h2
 ·
  refine zGS xs [] 0 w.heap.size 0 gB (fun i x hx g hg=>?_) (fun i p' _ hp=>by simpa using glb i p' hp) (fun i v hv=>?_)
  ·have:=gad (i::g) (by simp only[T.inT,hx];exact hg)
   simpa[T.offT,hx]using this
  ·have:=cu G' ghd i v hv
   rw[Ja];simp[yU,World.cell?,eJ,this]
 ·
  refine zPA xs [] 0 (fun i u hu=>?_);rw[Ja];cases hs:src i with
  |none=>exact am i u hu hs G' w' (fun z=>ghd i z)
  |some xq=>
   obtain⟨x,q⟩:=xq;obtain⟨h1,h2,h3,h4⟩:=dH i u x q hu hs;have gO:∀g,(T.agg xs).inT (i::g)=u.inT g:=fun g=>by simp only[T.inT,hu]
   refine zLG u q [i] (okTups_get xs gB i u hu) ⟨fun z=>by rw[ghd,h1],fun z hz=>gadm i x q z hs (by rw[gO];exact hz),fun b o fl z hz hl=>⟨glbm b o fl x _ _ hl (hφ i u x q z hu hs),fW b o (hm.lb b o _ hl).1⟩,
    fun b z hl=>gowm b x _ _ hl (hφ i u x q z hu hs),gJ⟩ (xG.mono (by simp) u h3) h2
where okTups_get:(xs:List T)→yX xs=iH→ ∀(i:Nat)(x:T),xs[i]? =iF x→x.okTup=iH
 | [],_,_,_,h=>by simp at h
 |y::ys,hk,i,x,h=>by
  simp only[yX,J2]at hk;cases i with
  |zero=>grind
  |succ i=>exact okTups_get ys hk.2 i x (by grind)
inductive yY where
 |slot (s:Nat) (t:T)
 |zero (u:T)
variable {ps:List yY}
def yY.tree:yY→T
 |.slot _ t=>t
 |.zero u=>u
def sV:T→Bool
 |.lit _|.ro _=>iI
 |_=>iH
mutual
def T.zOk:T→Bool
 |.lit v=>v.oneCell'
 |.sl _ xs=>xs.isEmpty
 |.agg xs=>zA1 xs
 |.any|.ro _|.same _ _|.addr _ _|.sub _ _ _ _ _|.ptr _|.tup _=>iI
def zA1:List T→Bool
 | []=>iH
 |x::xs=>x.zOk&&zA1 xs
end
def zhd:T→List Nat→Value
 |.agg xs,i::f=>match xs[i]? with
  |some x=>zhd x f
  |none=>.bool iI
 |.lit v,_=>v
 |.sl _ _,_=>.slice iG 0 0
 |.agg _,[] |.any,_|.ro _,_|.same _ _,_|.addr _ _,_|.sub _ _ _ _ _,_|.ptr _,_|.tup _,_=>.bool iI
termination_by structural _ f=>f
mutual
def sC:T→List Value
 |.lit v=>[v]
 |.sl _ _=>[.slice iG 0 0]
 |.agg xs=>qR xs
 |.any|.ro _|.same _ _|.addr _ _|.sub _ _ _ _ _|.ptr _|.tup _=>[]
def qR:List T→List Value
 | []=>[]
 |x::xs=>sC x++qR xs
end
section
variable {St:Stb}{G:Gh}{w:World}{d:Nat}
mutual
theorem zKw:(u:T)→ ∀(p:List Nat),u.zOk=iH→(∀z,G.hd d (z++p)=kK (zhd u z.reverse))→R St G w d u p
 |.lit v,p,h,hd=>by
  simp only[T.zOk,R]at h ⊢
  have:=hd [];rw[K0]at this;rw[this];exact zA0 h
 |.sl k xs,p,h,hd=>by simp only[T.zOk,Jb3]at h;subst h;have:=hd [];rw[K0]at this;simp only[R];exact .inl ⟨trivial,iG,by rw[this];rfl⟩
 |.agg xs,p,h,hd=>by
  simp only[T.zOk,R]at h ⊢
  exact zPB xs p 0 h (fun i x hx z=>by
   rw[Ja];have:=hd (z++[i])
   grind[zhd])
 |.any,_,h,_|.ro _,_,h,_|.same _ _,_,h,_|.addr _ _,_,h,_|.sub _ _ _ _ _,_,h,_|.ptr _,_,h,_|.tup _,_,h,_=>by grind[T.zOk]
theorem zPB:(xs:List T)→ ∀(p:List Nat)(j:Nat),zA1 xs=iH→(∀i x,xs[i]? =iF x→ ∀z,G.hd d (z++((j+i)::p))=kK (zhd x z.reverse))→RF St G w d xs p j
 | [],_,_,_,_=>by simp only[RF]
 |x::xs,p,j,h,hd=>by
  simp only[zA1,J2,RF]at h ⊢
  exact⟨zKw x (j::p) h.1 (by simpa using hd 0 x (by simp)),zPB xs p (j+1) h.2 (fun i y hy z=>by
   have:=hd (i+1) y (by grind) z
   grind)⟩
end
end
section
variable {G:Gh}{d:Nat}
mutual
theorem zFF:(u:T)→ ∀(p:List Nat),u.zOk=iH→(∀z,G.hd d (z++p)=kK (zhd u z.reverse))→vals G d u p=sC u
 |.lit v,p,h,hd=>by
  simp only[T.zOk,vals,sC]at h ⊢
  have:=hd []
  grind[zhd,zA0]
 |.sl k xs,p,h,hd=>by
  have:=hd []
  grind[vals,sC,zhd,kK,Value.oneCell']
 |.agg xs,p,h,hd=>by
  simp only[T.zOk,vals,sC]at h ⊢
  exact zEh xs p 0 h (fun i x hx z=>by
   rw[Ja];have:=hd (z++[i])
   grind[zhd])
 |.any,_,h,_|.ro _,_,h,_|.same _ _,_,h,_|.addr _ _,_,h,_|.sub _ _ _ _ _,_,h,_|.ptr _,_,h,_|.tup _,_,h,_=>by grind[T.zOk]
theorem zEh:(xs:List T)→ ∀(p:List Nat)(j:Nat),zA1 xs=iH→(∀i x,xs[i]? =iF x→ ∀z,G.hd d (z++((j+i)::p))=kK (zhd x z.reverse))→yJ G d xs p j=qR xs
 | [],_,_,_,_=>by rfl
 |x::xs,p,j,h,hd=>by
  simp only[zA1,J2,yJ,qR]at h ⊢
  rw[zFF x (j::p) h.1 (by simpa using hd 0 x (by simp)),zEh xs p (j+1) h.2 (fun i y hy z=>by
   have:=hd (i+1) y (by grind) z
   grind)]
end
end
mutual
theorem zB0:(u:T)→u.zOk=iH→yE u∧u.okTup=iH
 |.lit _,_=>by simp[yE,xG,T.okTup]
 |.sl _ xs,h=>by simp only[T.zOk,Jb3]at h;subst h;simp[yE,xG,wC,T.okTup]
 |.agg xs,h=>by simp only[T.zOk]at h;simpa only[yE,xG,T.okTup]using zBT xs h
 |.any,h|.ro _,h|.same _ _,h|.addr _ _,h|.sub _ _ _ _ _,h|.ptr _,h|.tup _,h=>by grind[T.zOk]
theorem zBT:(xs:List T)→zA1 xs=iH→xT xs∧yX xs=iH
 | [],_=>by simp[xT,wC,yX]
 |x::xs,h=>by simp only[zA1,J2]at h;simp only[xT,wC,yX,J2];exact⟨⟨(zB0 x h.1).1,(zBT xs h.2).1⟩,(zB0 x h.1).2,(zBT xs h.2).2⟩
end
mutual
theorem vV:(u:T)→u.zOk=iH→(sC u).length=u.size
 |.lit _,_|.sl _ _,_=>by rfl
 |.agg xs,h=>by simp only[T.zOk]at h;simp only[sC,T.size];exact zBn xs h
 |.any,h|.ro _,h|.same _ _,h|.addr _ _,h|.sub _ _ _ _ _,h|.ptr _,h|.tup _,h=>by grind[T.zOk]
theorem zBn:(xs:List T)→zA1 xs=iH→(qR xs).length=T.sizes xs
 | [],_=>by rfl
 |x::xs,h=>by simp only[zA1,J2]at h;simp only[qR,J9,T.sizes,vV x h.1,zBn xs h.2]
end
def zHt(ps:List yY)(i:Nat):Option (Nat×List Nat):=
 match ps[i]? with
 |some (.slot s t)=>if sV t then iF (s,[])else iG
 |_=>iG
def zJa:List yY→Nat→Nat→Option Nat
 | [],_,_=>iG
 |.slot x t::r,i,s=>if sV t&&x==s then iF i else zJa r (i+1) s
 |.zero _::r,i,s=>zJa r (i+1) s
def zJb(ps:List yY)(s:Nat)(z:List Nat):Option (List Nat):=
 match zJa ps 0 s with
 |some i=>iF (z++[i])
 |none=>iG
def pWr(d:Nat):List yY→Nat→Wr
 | [],_=>[]
 |.slot s t::r,i=>if sV t then(s,iF (cpT d t [i]))::pWr d r (i+1)else pWr d r (i+1)
 |.zero _::r,i=>pWr d r (i+1)
def xW:List yY→List Nat
 | []=>[]
 |.slot s t::r=>if sV t then s::xW r else xW r
 |.zero _::r=>xW r
def sW(ps:List yY):Chg:=(xW ps).map fun s=>(s,1)
def qV(G:Gh):yY→List Value
 |.slot s t=>vals G s t []
 |.zero u=>sC u
def pHd(G:Gh)(ps:List yY)(i:Nat)(z:List Nat):Value:=
 match ps[i]? with
 |some (.slot s _)=>G.hd s z
 |some (.zero u)=>kK (zhd u z.reverse)
 |none=>.bool iI
structure tZ (E:Env) (d:Nat) (ps:List yY):Prop where
 slot:∀s t,yY.slot s t∈ps→E s=iF t∧yE t∧t.okTup=iH
 zero:∀u,yY.zero u∈ps→u.zOk=iH
 dist:(d::xW ps).Nodup
theorem zB1:(ps:List yY)→ ∀(i0 i s:Nat)(t:T),ps[i]? =iF (.slot s t)→sV t=iH→(xW ps).Nodup→zJa ps i0 s=iF (i0+i)
 | [],_,_,_,_,h,_,_=>by simp at h
 |.slot x u::r,i0,i,s,t,h,hm,hn=>by
  cases i with
  |zero=>simp at h;obtain⟨rfl,rfl⟩:=h;simp[zJa,hm]
  |succ i=>
   simp only[Jcc]at h;have gO:s∈xW r:=pSlots_mem r i s t h hm;simp only[zJa]
   by_cases hu:sV u=iH
   ·simp only[xW,hu,if_true,Kv]at hn
    have:x≠s:=by grind
    simp only[hu,Bool.true_and,beq_iff_eq,this,if_false];rw[zB1 r (i0+1) i s t h hm hn.2]
    grind
   ·simp only[xW,hu]at hn
    simp only[hu,Jbe,Ho,if_false];rw[zB1 r (i0+1) i s t h hm (by grind)]
    grind
 |.zero u::r,i0,i,s,t,h,hm,hn=>by
  cases i with
  |zero=>simp at h
  |succ i=>
   simp only[Jcc]at h;simp only[zJa];rw[zB1 r (i0+1) i s t h hm (by grind[xW])]
   grind
where pSlots_mem:(ps:List yY)→ ∀(i s:Nat)(t:T),ps[i]? =iF (.slot s t)→sV t=iH→s∈xW ps
 | [],_,_,_,h,_=>by simp at h
 |.slot x u::r,i,s,t,h,hm=>by
  cases i with
  |zero=>simp at h;obtain⟨rfl,rfl⟩:=h;simp[xW,hm]
  |succ i=>
   have:=pSlots_mem r i s t (by grind) hm
   grind[xW]
 |.zero u::r,i,s,t,h,hm=>by
  cases i with
  |zero=>simp at h
  |succ i=>simpa only[xW]using pSlots_mem r i s t (by grind) hm
theorem zDu:(ps:List yY)→ ∀(i0 s:Nat),s∉xW ps→zJa ps i0 s=iG
 | [],_,_,_=>by rfl
 |.slot x u::r,i0,s,h=>by
  simp only[zJa]
  by_cases hu:sV u=iH
  ·simp only[xW,hu,if_true,J7,not_or]at h
   simp only[hu,Bool.true_and,beq_iff_eq,Ne.symm h.1,if_false];exact zDu r _ s h.2
  ·simp only[xW,hu]at h
   simp only[hu,Jbe,Ho,if_false];exact zDu r _ s (by grind)
 |.zero u::r,i0,s,h=>by simp only[zJa];exact zDu r _ s (by grind[xW])
theorem zCB:(ps:List yY)→ ∀(d i0 s:Nat)(x:Option T),(pWr d ps i0).find s=iF x→ ∃i t,ps[i]? =iF (.slot s t)∧sV t=iH∧x=iF (cpT d t [i0+i])
 | [],_,_,_,_,h=>by grind[pWr,Wr.find]
 |.slot y u::r,d,i0,s,x,h=>by
  simp only[pWr]at h;split at h
  ·rename_i hu
   simp only[Wr.find]at h;split at h
   ·rename_i he;subst he;simp at h;exact⟨0,u,by simp,hu,by grind⟩
   ·obtain⟨i,t,h1,h2,h3⟩:=zCB r d (i0+1) s x h
    exact⟨i+1,t,by grind,h2,by grind⟩
  ·obtain⟨i,t,h1,h2,h3⟩:=zCB r d (i0+1) s x h
   exact⟨i+1,t,by grind,h2,by grind⟩
 |.zero u::r,d,i0,s,x,h=>by simp only[pWr]at h;obtain⟨i,t,h1,h2,h3⟩:=zCB r d (i0+1) s x h;exact⟨i+1,t,by grind,h2,by grind⟩
theorem zCC:(ps:List yY)→ ∀(d i0 s:Nat),(pWr d ps i0).find s=iG→s∉xW ps
 | [],_,_,_,_=>by simp[xW]
 |.slot y u::r,d,i0,s,h=>by
  simp only[pWr]at h;simp only[xW];split at h
  ·rename_i hu
   simp only[Wr.find]at h;split at h
   ·cases h
   ·rename_i gg
    simp only[hu,if_true,J7,not_or];exact⟨fun e=>gg e.symm,zCC r d _ s h⟩
  ·rename_i hu
   simp only[hu];simpa using zCC r d _ s h
 |.zero u::r,d,i0,s,h=>by simp only[pWr]at h;simpa only[xW]using zCC r d _ s h
section
variable {Γ:Ctx}{E:Env}{G:Gh}{tmps:Array Value}{w:World}{d:Nat}{ps:List yY}
theorem zG1(g9:Rep Γ E G tmps w)(h:tZ E d ps):
  yX (ps.map yY.tree)=iH∧xT (ps.map yY.tree)∧(∀i z,(pHd G ps i z).oneCell'=iH)∧
  (∀(i:Nat) u x q(z:List Nat),(ps.map yY.tree)[i]? =iF u→zHt ps i=iF (x,q)→zJb ps x (z++q)=iF (z++[i]))∧
  (∀(i:Nat) u x q,(ps.map yY.tree)[i]? =iF u→zHt ps i=iF (x,q)→(∀z,pHd G ps i z=G.hd x (z++q))∧R Γ.St G w x u q∧yE u∧x≠d)∧
  (∀(i:Nat) u,(ps.map yY.tree)[i]? =iF u→zHt ps i=iG→ ∀(G2:Gh)(w2:World),(∀z,G2.hd d (z++[i])=pHd G ps i z)→R Γ.St G2 w2 d u [i])∧
  (∀s p,(∀n,(s,n)∉(d,0)::sW ps)→zJb ps s p=iG):=by
 have mA:=Kv.1 h.dist;refine⟨?_,?_,?_,?_,?_,?_,?_⟩
 ·have:∀qs:List yY,(∀p∈qs,p∈ps)→yX (qs.map yY.tree)=iH:=by
   intro qs
   induction qs with
   |nil=>intro _;rfl
   |cons q qs ih=>
    intro hq;simp only[Jr,yX,J2];refine⟨?_,by grind⟩;cases q with
    |slot s t=>exact(h.slot s t (hq _ (by simp))).2.2
    |zero u=>exact(zB0 u (h.zero u (hq _ (by simp)))).2
  grind
 ·have:∀qs:List yY,(∀p∈qs,p∈ps)→xT (qs.map yY.tree):=by
   intro qs
   induction qs with
   |nil=>intro _;trivial
   |cons q qs ih=>
    intro hq;simp only[Jr,xT,wC];refine⟨?_,by grind⟩;cases q with
    |slot s t=>exact(h.slot s t (hq _ (by simp))).2.1
    |zero u=>exact(zB0 u (h.zero u (hq _ (by simp)))).1
  grind
 ·intro i z
  unfold pHd;split
  ·exact g9.mem.one _ _
  ·exact zBz _
  ·rfl
 ·intro i u x q z hu hs
  rw[K3]at hu;unfold zHt at hs;cases hp:ps[i]? with
  |none=>grind
  |some p=>
   cases p with
   |zero v=>grind
   |slot s t=>
    simp only[hp]at hs;split at hs
    ·rename_i hm
     simp at hs;obtain⟨rfl,rfl⟩:=hs;simp[zJb,zB1 ps 0 i s t hp hm mA.2]
    ·cases hs
 ·intro i u x q hu hs
  rw[K3]at hu;unfold zHt at hs;cases hp:ps[i]? with
  |none=>grind
  |some p=>
   cases p with
   |zero v=>grind
   |slot s t=>
    simp only[hp]at hs;split at hs
    ·rename_i hm
     simp at hs;obtain⟨rfl,rfl⟩:=hs;simp[hp,yY.tree]at hu;subst hu;obtain⟨h1,h2,h3⟩:=h.slot s t (by grind);refine⟨by grind[pHd],(g9.ent s t h1).2.1,h2,fun e=>mA.1 ?_⟩
     grind[zB1.pSlots_mem]
    ·cases hs
 ·intro i u hu hs G2 w2 fY
  rw[K3]at hu;unfold zHt at hs;cases hp:ps[i]? with
  |none=>grind
  |some p=>
   cases p with
   |zero v=>
    simp[hp,yY.tree]at hu;subst hu;exact zKw v [i] (h.zero v (by grind)) (by grind[pHd])
   |slot s t=>
    simp only[hp]at hs;split at hs
    ·cases hs
    ·rename_i hm
     simp[hp,yY.tree]at hu;subst hu;have h1:=(g9.ent s t (h.slot s t (by grind)).1).2.1;have h2:G2.hd d [i]=G.hd s []:=by have:=fY [];grind[pHd]
     cases t<;>simp[sV]at hm<;>simp only[R]at h1 ⊢ <;>rw[h2]<;>exact h1
 ·intro s p gE
  have:s∉xW ps:=fun gO=>gE 1 (by grind[sW])
  grind[zJb,zDu]
theorem zEi(g9:Rep Γ E G tmps w)(h:tZ E d ps)(G2:Gh):∀(qs:List yY)(i0:Nat),(∀i q,qs[i]? =iF q→ps[i0+i]? =iF q)→(∀i z,G2.hd d (z++[i])=pHd G ps i z)→
  yJ G2 d (qs.map yY.tree) [] i0=qs.flatMap (qV G)
 | [],_,_,_=>by rfl
 |q::qs,i0,hq,fY=>by
  have h0:ps[i0]? =iF q:=by simpa using hq 0 q (by simp)
  have ih:=zEi g9 h G2 qs (i0+1) (fun i p hp=>by rw[show i0+1+i=i0+(i+1)from by omega];simp_all) fY;simp only[Jr,yJ,Lp,ih]
  congr 1
  cases q with
  |slot s t=>exact zAU t [] [i0] (by grind[pHd])
  |zero u=>exact zFF u [i0] (h.zero u (by grind)) (by grind[pHd])
end
section
variable {P:Program}{Γ:Ctx}{E:Env}{o:Oper}{d:Nat}
theorem zJ1{t:T}{v:Option Value}(hv:v=iF (mkV G s t []))(eg:∀xs,t≠.tup xs)(hs:∀p,G'.hd s p=G.hd s p)(bt:∀z,G'.hd d (z++[i])=G.hd s z)
  (hr:R Γ.St G' w' d t [i]):Ent Γ G' w' v s (cpT d t [i]):=by
 have hz:∀z,G'.hd s (z++[])=G'.hd d (z++[i]):=by grind
 refine⟨?_,?_,jA d t [i]⟩
 ·rw[hv,zAF (G:=G') (G':=G') t [i] [] eg hz,zAe G s t [] eg,zBQ t [] [i] (fun z=>by rw[bt,Jf])]
 ·exact zEd (G:=G') (G':=G') (fun _=>rfl) t [i] [] hz eg (xG.triv (fun _ _=>⟨rfl,rfl⟩) _) hr
theorem zB2{w:World}(g9:Rep Γ E G a.tmps w)(h:tZ E d ps)(hd:d<Γ.N){cells:Array Value}(hw:w'.heap=w.heap.push (.cells cells e))
  (cu:∀(o:Nat)(v:Value),(ps.flatMap (qV G))[o]? =iF v→cells[o]? =iF v)
  (rt:T)(hH:Value)
  (f8:(∃k cap,rt=.sl k (ps.map yY.tree)∧(∀p∈ps,p.tree.size=k)∧hH=.slice (iF ⟨w.heap.size,0,iG⟩) ps.length cap∧ps.length≤cap∧cap≤maxLen∧cells.size=cap*k)∨
   ∃p,ps=[p]∧rt=.ptr p.tree∧hH=.pointer (iF ⟨w.heap.size,0,iG⟩)∧cells.size=p.tree.size)
  (ho:w'.os=w.os:=by rfl)(hq:w'.output=w.output:=by rfl):
  ∃G',Rep Γ (E.app ((d,iF rt)::pWr d ps 0) ((d,0)::sW ps)) G' (a.tmps.setIfInBounds d hH) w':=by
 obtain⟨f1,f0,f2,f3,f4,f5,f6⟩:=zG1 g9 h;have hh:hH.oneCell'=iH:=by rcases f8 with⟨k,cap,_,_,rfl,_⟩|⟨p,_,_,rfl,_⟩<;>rfl
 have mA:=Kv.1 h.dist;obtain⟨g1,g2,g3,g4,g5⟩:=zDt g9.mem hw d (ps.map yY.tree) (zHt ps) (zJb ps) (pHd G ps) hH (sW ps) f1 f2 hh f3 f4 f5
  (fun G2 fY o v hv=>cu o v (by rw[zEi g9 h G2 ps 0 (by simp) fY]at hv;exact hv)) f6 (ho:=ho) (hq:=hq)
 refine⟨_,vS g9 (by simp) g1 g2 ?_ ?_⟩
 ·intro s hs
  simp only[Wr.find]at hs;split at hs
  ·cases hs
  ·rename_i gg
   have hns:=zCC ps d 0 s hs;refine⟨fun n hn=>?_,by grind⟩;simp only[J7,Jba.injEq,sW,Jl]at hn;rcases hn with⟨e1,_⟩|⟨y,hy,e1,_⟩
   ·omega
   grind
 ·intro s t hs
  simp only[Wr.find]at hs;split at hs
  ·rename_i he
   subst he;simp at hs;subst hs;have pf:(G.nb d w.heap.size (ps.map yY.tree) (zHt ps) (zJb ps) (pHd G ps) hH).hd d []=hH:=by simp[Gh.nb]
   have how:(G.nb d w.heap.size (ps.map yY.tree) (zHt ps) (zJb ps) (pHd G ps) hH).ow w.heap.size=iF (d,[]):=by simp[Gh.nb]
   refine⟨?_,?_,?_⟩
   ·rw[Jp]
    rcases f8 with⟨k,cap,rfl,_⟩|⟨p,_,rfl,_⟩<;>simp[g9.size,hd,mkV,pf]
   ·rcases f8 with⟨k,cap,rfl,hk,h1,h2,h3,h4⟩|⟨p,rfl,rfl,h1,h4⟩
    ·simp only[R]
     rw[pf];refine .inr ⟨w.heap.size,cap,cells,e,by grind,g5,by grind,h3,by omega,how,?_,zSH _ _ _ _ _ (fun x hx=>?_) g3 g4⟩
     ·intro o ho _
      have gz:T.sizes (ps.map yY.tree)=(ps.map yY.tree).length*k:=wZ _ (fun x hx=>by
       obtain⟨p,hp,rfl⟩:=Jl.1 hx
       grind)
      simp[Gh.nb,zEg (ps.map yY.tree) [] 0 o (by omega)]
     ·obtain⟨p,hp,rfl⟩:=Jl.1 hx
      grind
    ·simp only[R]
     rw[pf];simp only[Jr,Ub,vR,RF]at g3 g4;exact⟨w.heap.size,cells,e,h1,g5,h4,how,g3.1,g4.1⟩
   ·rcases f8 with⟨k,cap,rfl,_⟩|⟨p,rfl,rfl,_⟩
    ·simp only[Top];exact f0
    ·simp only[Top];exact f0.1
  ·rename_i gg
   obtain⟨i,u,h1,h2,h3⟩:=zCB ps d 0 s _ hs;simp only[Ja]at h3;simp at h3;subst h3;obtain⟨h4,h5,h6⟩:=h.slot s u (Hv h1);have eg:∀xs,u≠.tup xs:=by rintro xs rfl;simp[T.okTup]at h6
   have hi:(ps.map yY.tree)[i]? =iF u:=by simp[h1,yY.tree]
   have hr:=zBl _ [] 0 i u g4 hi;simp only[Ja]at hr;refine zJ1 (G:=G) (by rw[Jp];simp only[gg,if_false];exact(g9.ent s u h4).1) eg (fun p=>?_) (fun z=>?_) hr
   ·simp[Gh.nb,show s≠d from fun e=>gg e.symm]
   ·simp[Gh.nb,pHd,h1]
inductive zAq (E:Env):Operand→yY→Prop where
 |slot (s:Nat) (t:T):zAq E (.tmp s) (.slot s t)
 |zero (v:Value) (u:T) (h:sC u=v.cells.toList):zAq E (.const v) (.zero u)
theorem zAG{w:World}(g9:Rep Γ E G a.tmps w)(h:tZ E d ps){x:Operand}{p:yY}(hp:p∈ps)(hx:zAq E x p):
  (a.eval x).cells.toList=qV G p:=by
 cases hx with
 |slot s t=>
  obtain⟨h1,h2,h3⟩:=h.slot s t hp;obtain⟨h4,_,_⟩:=g9.ent s t h1;rw[wK h4];cases t with
  |agg xs=>rfl
  |tup xs=>grind[T.okTup]
  |_=>
   have:=g9.mem.one s [];simp only[mkV,vals,qV]
   generalize G.hd s []=v at this
   cases v<;>simp[Value.oneCell',Value.cells]at this ⊢
 |zero v u h=>simp[Act.eval,h,qV]
def uN(E:Env):List Operand→List yY→Prop
 | [],[]=>True
 |x::xs,p::ps=>zAq E x p∧uN E xs ps
 |_,_=>False
theorem uN.length:(xs:List Operand)→(ps:List yY)→uN E xs ps→xs.length=ps.length
 | [],[],_=>rfl
 |_::xs,_::ps,h=>by simp[uN.length xs ps h.2]
 | [],_::_,h=>by simp[uN]at h
 |_::_,[],h=>by simp[uN]at h
theorem uN.mem:(xs:List Operand)→(ps:List yY)→uN E xs ps→ ∀x∈xs,∃p,p∈ps∧zAq E x p
 | [],_,_,x,hx=>by simp at hx
 |y::xs,p::ps,h,x,hx=>by
  rcases J7.1 hx with rfl|hx
  ·exact⟨p,by simp,h.1⟩
  ·obtain⟨q,hq,hxq⟩:=uN.mem xs ps h.2 x hx;exact⟨q,by simp[hq],hxq⟩
 |_::_,[],h,_,_=>by simp[uN]at h
theorem zHu{G:Gh}{a:Act}{w:World}{ps:List yY}(g9:Rep Γ E G a.tmps w)(h:tZ E d ps):∀(xs:List Operand)(qs:List yY),(∀q∈qs,q∈ps)→uN E xs qs→
  ((xs.map a.eval).flatMap fun v=>v.cells.toList)=qs.flatMap (qV G)
 | [],[],_,_=>rfl
 |x::xs,q::qs,hq,hx=>by simp only[Jr,Lp,zAG g9 h (hq q (by simp)) hx.1,zHu g9 h xs qs (by grind) hx.2]
 | [],_::_,_,hx=>by simp[uN]at hx
 |_::_,[],_,hx=>by simp[uN]at hx
theorem zSI(T':TypeId)(ti:TypeInfo)(z:Value)(u:T)(ho:o.op=.alloc T')(gf:o.dst=iF d)(hd:d<Γ.N)
  (hi:P.info? T'=iF ti)(hz:ti.zero=iF z)(hu:u.zOk=iH)(hv:sC u=z.cells.toList)(gz:z.cells.size=u.size):
  wP P Γ o E (E.app [(d,iF (.ptr u))] [(d,0)]):=by
 refine wP.value gf fun a w G g9=>?_
 have gV:tZ E d [.zero u]:=⟨by simp,by grind,by simp[xW]⟩;obtain⟨G',gu⟩:=zB2 (w':=w.alloc (.cells z.cells T')) g9 gV hd (cells:=z.cells) (e:=T') rfl (by grind[qV]) (.ptr u) (.pointer (iF ⟨w.heap.size,0,iG⟩)) (.inr ⟨.zero u,rfl,rfl,rfl,gz⟩);refine⟨_,_,?_,G',by simpa[pWr,sW,xW]using gu⟩;simp[execOp,ho,Instr.alloc,zeroValue,typeInfo,hi,hz,newVar,newRow]
theorem zZq(T':TypeId)(x:Operand)(p:yY)(ho:o.op=.box T' x)(gf:o.dst=iF d)(hd:d<Γ.N)(hx:zAq E x p)(gV:tZ E d [p]):
  wP P Γ o E (E.app ((d,iF (.ptr p.tree))::pWr d [p] 0) ((d,0)::sW [p])):=by
 refine wP.value gf fun a w G g9=>?_
 have hc:=zAG g9 gV (by simp) hx;have gz:(a.eval x).cells.size=p.tree.size:=by
  rw[←Kt,hc];cases p with
  |slot s t=>
   obtain⟨_,_,h3⟩:=gV.slot s t (by simp);show(vals G s t []).length=t.size;exact vN t [] (by rintro xs rfl;grind[T.okTup])
  |zero u=>exact vV u (gV.zero u (by simp))
 obtain⟨G',gu⟩:=zB2 (w':=w.alloc (.cells (a.eval x).cells T')) g9 gV hd (cells:=(a.eval x).cells) (e:=T') rfl (by grind) (.ptr p.tree) (.pointer (iF ⟨w.heap.size,0,iG⟩)) (by grind);refine⟨_,_,?_,G',gu⟩;simp[execOp,ho,Instr.box,newVar,newRow]
theorem zJc(t e:TypeId)(ti:TypeInfo)(z:Value)(k n:Nat)(xs:List Operand)(ps:List yY)(ho:o.op=.buildSlice t n ((xs.zipIdx 0).map fun x=>(x.2,x.1)).toArray)(gf:o.dst=iF d)(hd:d<Γ.N)
  (ht:P.underlying t=iF (.slice e))(hi:P.info? e=iF ti)(hz:ti.zero=iF z)(hk:ti.size=k)(eR:0<k)(hn:xs.length=n)(ap:0<n)(dI:n*k≤2 ^ 24)
  (hx:uN E xs ps)(gV:tZ E d ps)(gz:∀p∈ps,p.tree.size=k):
  wP P Γ o E (E.app ((d,iF (.sl k (ps.map yY.tree)))::pWr d ps 0) ((d,0)::sW ps)):=by
 refine wP.value gf fun a w G g9=>?_
 subst hk;have gj:xs.length=ps.length:=uN.length xs ps hx;have hc:=zHu g9 gV xs ps (fun _ h=>h) hx;have cy:∀v∈xs.map a.eval,v.cells.size=ti.size:=by
  intro v hv;obtain⟨x,bI,rfl⟩:=Jl.1 hv;obtain⟨p,hp,hxp⟩:=uN.mem xs ps hx x bI;rw[←Kt,zAG g9 gV hp hxp,←gz p hp];cases p with
  |slot s t=>
   obtain⟨_,_,h3⟩:=gV.slot s t hp;show(vals G s t []).length=t.size;exact vN t [] (by rintro xs rfl;simp[T.okTup]at h3)
  |zero u=>exact vV u (gV.zero u hp)
 have aG:=Great.fill_whole eR (xs.map a.eval) ((Jbu (n*ti.size)).map (z.cells[· %z.cells.size]!)) cy (by simp[hn]);have mZ:((((xs.zipIdx 0).map fun x=>(x.2,x.1)).toArray).map fun(i,x)=>(i,a.eval x)).toList=((xs.map a.eval).zipIdx 0).map fun x=>(x.2,x.1):=by simp[List.zipIdx_map,Function.comp_def]
 have gA:=run_buildSlice (P:=P) w t e n _ _ ti z ht hi hz (by omega) (by have:=Jbc ap eR;omega) (by rw[mZ];exact aG);have gP:((xs.map a.eval).flatMap fun v=>v.cells.toList).toArray.size=n*ti.size:=by rw[Jbf,zFq (k:=ti.size) _ (fun v hv=>by rw[Kt];exact cy v hv)];simp[hn]
 obtain⟨G',gu⟩:=zB2 (w':=w.alloc (.cells ((xs.map a.eval).flatMap fun v=>v.cells.toList).toArray e)) g9 gV hd rfl (fun o v h=>by rw[hc];simpa using h) (.sl ti.size (ps.map yY.tree)) (.slice (iF ⟨w.heap.size,0,iG⟩) n n) (.inl ⟨ti.size,n,rfl,gz,by rw[←gj,hn],by omega,by have:n≤n*ti.size:=Jam n eR;simp only[maxLen];omega,gP⟩)
 refine⟨_,_,?_,G',gu⟩;simp only[execOp,ho,Sem.run_bind,gA,Result.andThen_ok];rfl
where
 zFq {k:Nat} (vs:List Value) (h:∀v∈vs,v.cells.toList.length=k):(vs.flatMap fun v=>v.cells.toList).length=vs.length*k:=by
  induction vs with
  |nil=>simp
  |cons v vs ih=>simp[Lp,ih (fun u hu=>h u (by simp[hu])),K8];have:=h v (by simp);simp at this;omega
end
theorem zKx{α β:Type}(f:α→List β)(x:α)(k:Nat)(hk:(f x).length=k)(eR:0<k):∀(n o:Nat)(v:β),((J1 n x).flatMap f)[o]? =iF v→o<n*k∧(f x)[o%k]? =iF v
 |0,o,v,h=>by simp at h
 |n+1,o,v,h=>by
  rw[Jq,Lp,Ki]at h;split at h
  ·grind[Nat.mod_eq_of_lt]
  ·rename_i hge
   rw[hk]at h hge;obtain⟨h1,h2⟩:=zKx f x k hk eR n (o-k) v h
   grind[Nat.mod_eq_sub_mod]
section
variable {P:Program}{Γ:Ctx}{E:Env}{o:Oper}{d:Nat}
theorem zWG(t e:TypeId)(ti:TypeInfo)(z:Value)(u:T)(k:Nat)(x y:Operand)(n c:Nat)(kl kc:IntKind)(ho:o.op=.makeSlice t x y)(gf:o.dst=iF d)(hd:d<Γ.N)
  (ht:P.underlying t=iF (.slice e))(hi:P.info? e=iF ti)(hz:ti.zero=iF z)(hk:ti.size=k)(eR:0<k)(hu:u.zOk=iH)(hv:sC u=z.cells.toList)(cN:u.size=k)(hb:ti.bytes≤4096)
  (hx:opT E x=iF (.lit (.int kl n)))(hy:opT E y=iF (.lit (.int kc c)))(p6:n≤c)(hc:c≤68719476736):
  wP P Γ o E (E.app [(d,iF (.sl k (J1 n u)))] [(d,0)]):=by
 refine wP.value gf fun a w G g9=>?_
 have h1:=(wQ g9 hx).1;have h2:=(wQ g9 hy).1;subst hk;have gV:tZ E d (J1 n (.zero u)):=⟨by simp,by grind,by
  have:∀m,xW (J1 m (.zero u))=[]:=by intro m;induction m with|zero=>rfl|succ m ih=>grind[xW]
  simp[this]⟩
 have hzs:z.cells.size=ti.size:=by grind[vV]
 have bx:(ti.bytes:Int)*(c:Int)≤281474976710656:=by have:ti.bytes*c≤4096*68719476736:=Jm hb hc;omega
 have gA:=run_make (P:=P) w t e ti z ht hi hz kl kc n c (by omega) (by omega) bx (by omega);simp only[J6]at gA;obtain⟨G',gu⟩:=zB2 (w':=w.alloc (.cells (madeCells z.cells (c*ti.size)) e)) g9 gV hd rfl (fun i v h=>by
  obtain⟨h3,h4⟩:=zKx (qV G) (.zero u) ti.size (by grind[qV]) eR n i v h
  grind[Jal,K6,qV,madeCells]) (.sl ti.size (J1 n u)) (.slice (iF ⟨w.heap.size,0,iG⟩) n c)
  (.inl ⟨ti.size,c,by simp[yY.tree],fun p hp=>by simp at hp;obtain⟨_,rfl⟩:=hp;exact cN,by simp,by grind,by grind[maxLen],by simp[madeCells]⟩)
 refine⟨.slice (iF ⟨w.heap.size,0,iG⟩) n c,w.alloc (.cells (madeCells z.cells (c*ti.size)) e),?_,G',?_⟩
 ·simp only[execOp,ho,h1,h2,Sem.run_bind,gA,Result.andThen_ok]
  rfl
 ·have h6:∀m i,pWr d (J1 m (.zero u)) i=[]:=by intro m;induction m with|zero=>intro i;rfl|succ m ih=>grind[pWr]
  have h7:sW (J1 n (.zero u))=[]:=by
   have:∀m,xW (J1 m (.zero u))=[]:=by intro m;induction m with|zero=>rfl|succ m ih=>grind[xW]
   grind[sW]
  grind
theorem zHv(t e:TypeId)(ti:TypeInfo)(k:Nat)(ho:o.op=.buildSlice t 0 #[])(gf:o.dst=iF d)(hd:d<Γ.N)
  (ht:P.underlying t=iF (.slice e))(hi:P.info? e=iF ti):wP P Γ o E (E.app [(d,iF (.sl k []))] [(d,0)]):=by
 refine wP.value gf fun a w G g9=>?_
 have gV:tZ E d []:=⟨by simp,by simp,by simp[xW]⟩;obtain⟨G',gu⟩:=zB2 (w':=w.alloc (.cells #[] e)) g9 gV hd (cells:=#[]) rfl (by simp) (.sl k []) (.slice (iF ⟨w.heap.size,0,iG⟩) 0 0)
  (by simp)
 refine⟨_,_,?_,G',gu⟩;have h0:(Jbu 0:Array Nat)= #[]:=by rfl
 simp[execOp,ho,Instr.buildSlice,run_underlying ht,sizeOf,typeInfo,hi,Instr.fill,newRow,h0]
theorem zLH(k:Nat)(x:Operand)(ho:o.op=.move x∨o.op=.assign x)(hx:x=.const (.slice iG 0 0))(gf:o.dst=iF d)(hd:d<Γ.N):wP P Γ o E (E.app [(d,iF (.sl k []))] [(d,0)]):=by
 refine wP.value gf fun a w G g9=>?_
 refine⟨.slice iG 0 0,w,?_,_,vU g9 rfl hd (fun _=>.slice iG 0 0) (fun _=>rfl) (.sl k []) (.slice iG 0 0) (by simp[mkV,Gh.put]) (by simp[R,Gh.put]) (by simp[Top,xT,wC])⟩;subst hx;rcases ho with ho|ho<;>simp[execOp,ho,Act.eval]
def Gh.nv(G:Gh)(d:Nat)(src:Nat→Option (Nat×List Nat))(φ:Nat→List Nat→Option (List Nat))(f:Nat→List Nat→Value):Gh where
 hd s z:=if s=d then(match z.getLast? with
  |some i=>f i z.dropLast
  |none=>.bool iI)else G.hd s z
 ad s z:=if s=d then(match z.getLast? with
  |some i=>(match src i with
   |some (x,q)=>G.ad x (z.dropLast++q)
   |none=>default)
  |none=>default)else G.ad s z
 lb b o:=match G.lb b o with
  |some (fl,s,z)=>(match φ s z with
   |some z'=>iF (fl,d,z')
   |none=>iF (fl,s,z))
  |none=>iG
 ow b:=match G.ow b with
  |some (s,z)=>(match φ s z with
   |some z'=>iF (d,z')
   |none=>iF (s,z))
  |none=>iG
theorem zWH{w:World}(g9:Rep Γ E G a.tmps w)(h:tZ E d ps)(hd:d<Γ.N):
  ∃G',Rep Γ (E.app ((d,iF (.agg (ps.map yY.tree)))::pWr d ps 0) ((d,0)::sW ps)) G' (a.tmps.setIfInBounds d (.agg (ps.flatMap (qV G)).toArray)) w:=by
 obtain⟨f1,f0,f2,f3,f4,f5,f6⟩:=zG1 g9 h;have hm:=g9.mem;have gJ:Blk w w:=fun b cs e' h=>⟨cs,h,rfl⟩
 generalize gu:G.nv d (zHt ps) (zJb ps) (pHd G ps)=G'
 have ghd:∀i z,G'.hd d (z++[i])=pHd G ps i z:=by grind[Gh.nv]
 have ghd':∀s z,s≠d→G'.hd s z=G.hd s z:=by grind[Gh.nv]
 have glbm:∀b o fl x z z',G.lb b o=iF (fl,x,z)→zJb ps x z=iF z'→G'.lb b o=iF (fl,d,z'):=by grind[Gh.nv]
 have gowm:∀b x z z',G.ow b=iF (x,z)→zJb ps x z=iF z'→G'.ow b=iF (d,z'):=by grind[Gh.nv]
 have gg:∀s p,Off ((d,0)::sW ps) s p→s≠d:=fun s p h e=>absurd (h 0 (by simp[e])) (by simp)
 have gy:jF ((d,0)::sW ps) G w G' w:=by
  refine⟨by grind,fun s p h=>?_,fun b o fl s p _ hl h=>⟨?_,rfl⟩,fun b s p hl h=>?_,gJ⟩
  ·grind[Gh.nv]
  all_goals grind[Gh.nv]
 have gp:Mem Γ G' w:=by
  refine⟨fun s p=>?_,fun b o l hl=>?_,fun b l hl=>?_,hm.st,hm.fr,hm.sz,hm.bk⟩
  ·rw[←gu]
   simp only[Gh.nv];split
   ·split
    ·grind
    ·rfl
   ·exact hm.one s p
  ·rw[←gu]at hl
   simp only[Gh.nv]at hl;split at hl
   ·rename_i hg;exact hm.lb b o _ hg
   ·cases hl
  ·rw[←gu]at hl
   simp only[Gh.nv]at hl;split at hl
   ·rename_i hg;exact hm.ow b _ hg
   ·cases hl
 have g4:RF Γ.St G' w d (ps.map yY.tree) [] 0:=by
  refine zPA _ [] 0 (fun i u hu=>?_);rw[Ja];cases hs:zHt ps i with
  |none=>grind
  |some xq=>
   obtain⟨x,q⟩:=xq;obtain⟨h1,h2,h3,h4⟩:=f4 i u x q hu hs;refine zLG u q [i] (zDt.okTups_get _ f1 i u hu) ⟨by grind,by grind[Gh.nv],by grind,
    by grind,gJ⟩ (by grind[xG.mono]) h2
 refine⟨G',vS g9 (by simp) gy gp ?_ ?_⟩
 ·grind[Wr.find,zCC,sW]
 ·intro s t hs
  simp only[Wr.find]at hs;split at hs
  ·rename_i he
   subst he;simp at hs;subst hs;refine⟨?_,by simpa only[R]using g4,by simp only[Top];exact uA.of_clean _ f0⟩;rw[Jp];simp only[g9.size,hd,mkV,if_true];rw[zEi g9 h G' ps 0 (by simp) ghd]
  ·rename_i gg
   obtain⟨i,u,h1,h2,h3⟩:=zCB ps d 0 s _ hs;simp only[Ja]at h3;simp at h3;subst h3;obtain⟨h4,h5,h6⟩:=h.slot s u (by grind);have eg:∀xs,u≠.tup xs:=by rintro xs rfl;grind[T.okTup]
   have hi:(ps.map yY.tree)[i]? =iF u:=by simp[h1,yY.tree]
   have hr:=zBl _ [] 0 i u g4 hi;simp only[Ja]at hr;refine zJ1 (G:=G) (by rw[Jp];simp only[gg,if_false];exact(g9.ent s u h4).1) eg (by grind) (fun z=>?_) hr
   grind[pHd]
theorem zPC(off:Nat):∀(vs:List Value)(i:Nat)(cs:Array Value)(k:Nat),off+i+vs.length≤cs.size→
  ((vs.zipIdx i).foldl (fun cs(x:Value×Nat)=>cs.setIfInBounds (off+x.2) x.1) cs)[k]? =if off+i≤k∧k<off+i+vs.length then vs[k-(off+i)]? else cs[k]?
 | [],i,cs,k,_=>by simp;omega
 |v::vs,i,cs,k,h=>by
  simp only[J8]at h;simp only[List.zipIdx_cons,G6];rw[zPC off vs (i+1) _ k (by simp;omega)]
  grind
theorem zHw{pv:yY→List Value}(place:Nat→Option (Nat×Nat)):∀(vs:List (Nat×Value))(qs:List (Nat×yY))(ps:List yY)(cs:Array Value),cs.toList=ps.flatMap pv→
  (∀i p,ps[i]? =iF p→place i=iF (((ps.take i).flatMap pv).length,(pv p).length))→
  vs.map (·.1)=qs.map (·.1)→(∀(j:Nat)(v:Nat×Value)(q:Nat×yY),vs[j]? =iF v→qs[j]? =iF q→v.2.cells.toList=pv q.2∧ ∃p,ps[q.1]? =iF p∧(pv p).length=(pv q.2).length)→
  ∃cs',Instr.fill place cs vs=iF cs'∧cs'.toList=(qs.foldl (fun ps q=>ps.set q.1 q.2) ps).flatMap pv
 | [],[],ps,cs,gM,_,_,_=>⟨cs,rfl,gM⟩
 | [],_::_,_,_,_,_,h,_=>by simp at h
 |_::_,[],_,_,_,_,h,_=>by simp at h
 |(i,v)::vs,(i',q)::qs,ps,cs,gM,cU,hi,hq=>by
  simp only[Jr,Q2.injEq]at hi;obtain⟨i7,hi⟩:=hi;subst i7;obtain⟨h1,p,h2,h3⟩:=hq 0 (i,v) (i,q) rfl rfl;dsimp only at h1 h2 h3;have ue:=cU i p h2;have gH:=(Jv.1 h2).1;have mN:ps=ps.take i++p::ps.drop (i+1):=by grind[Hl,Jao]
  have gv:ps.set i q=ps.take i++q::ps.drop (i+1):=by grind
  have pV:v.cells.size=(pv p).length:=by grind
  have gC:cs.size=((ps.take i).flatMap pv).length+((pv p).length+((ps.drop (i+1)).flatMap pv).length):=by grind[Kt]
  have eJ:(v.cells.zipIdx.foldl (fun cs(x:Value×Nat)=>cs.setIfInBounds (((ps.take i).flatMap pv).length+x.2) x.1) cs).toList=(ps.set i q).flatMap pv:=by
   rw[gv];simp only[Jcz,Lp,←h1];apply Km;intro k;rw[←Array.foldl_toList,Ky,show v.cells.zipIdx.toList=v.cells.toList.zipIdx 0 from by simp,zPC _ _ 0 cs k (by grind)];have im:cs.toList=((ps.take i).flatMap pv)++(pv p++(ps.drop (i+1)).flatMap pv):=by grind
   have dq:v.cells.toList.length=(pv p).length:=by rw[h1,h3]
   rw[←Ky,im]
   grind
  have uf:∀j p',(ps.set i q)[j]? =iF p'→place j=iF ((((ps.set i q).take j).flatMap pv).length,(pv p').length):=by
   intro j p' cV;have ew:(((ps.set i q).take j).flatMap pv).length=((ps.take j).flatMap pv).length:=by
    rw[gv]
    conv=>rhs;rw[mN]
    by_cases hj:j≤i
    ·grind
    ·rw[Jaz,Jaz]
     simp only[Jcz,J9]
     congr 1
     have:j-(ps.take i).length=(j-(ps.take i).length-1)+1:=by simp;omega
     grind
   grind
  have hq':∀(j:Nat)(x:Nat×Value)(y:Nat×yY),vs[j]? =iF x→qs[j]? =iF y→x.2.cells.toList=pv y.2∧ ∃p,(ps.set i q)[y.1]? =iF p∧(pv p).length=(pv y.2).length:=by
   intro j x y hx hy;obtain⟨h6,p',h7,h8⟩:=hq (j+1) x y (by grind) (by grind)
   grind
  obtain⟨cs',h4,h5⟩:=zHw place vs qs (ps.set i q) _ eJ uf hi hq'
  grind[Instr.fill]
theorem uX{t:TypeId}{it:TypeInfo}{fields:Array Field}{places:List (Nat×Nat)}(hi:P.info? t=iF it)(hu:P.underlying t=iF (.struct fields))(hz:it.zero=iF z)
  (hp:fields.toList.mapM (fun f=>(P.info? f.type).map fun i=>(f.offset,i.size))=iF places)(parts:List (Nat×Value)):P.built t parts=Instr.fill (places.toArray[·]?) z.cells parts:=by
 grind[Program.built]
theorem zLI{t:TypeId}{it ie:TypeInfo}(hi:P.info? t=iF it)(hu:P.underlying t=iF (.array n e))(hz:it.zero=iF z)
  (he:P.info? e=iF ie)(parts:List (Nat×Value)):P.built t parts=Instr.fill (fun i=>iF (i*ie.size,ie.size)) z.cells parts:=by
 grind[Program.built]
theorem zFG{G:Gh}:(zs:List T)→(zs.map yY.zero).flatMap (qV G)=qR zs
 | []=>rfl
 |z::zs=>by simp[qV,qR,←zFG (G:=G) zs]
theorem zSJ(t:TypeId)(place:Nat→Option (Nat×Nat))(z:Value)(zs:List T)(pl:List (Nat×Operand))(qs:List (Nat×yY))(ps:List yY)(ho:o.op=.build t pl.toArray)(gf:o.dst=iF d)(hd:d<Γ.N)
  (hb:∀parts,P.built t parts=Instr.fill place z.cells parts)(hzv:qR zs=z.cells.toList)(hz:zA1 zs=iH)(cU:∀i u,zs[i]? =iF u→place i=iF (T.sizes (zs.take i),u.size))
  (gV:qs.foldl (fun ps q=>ps.set q.1 q.2) (zs.map yY.zero)=ps)(gB:tZ E d ps)(hix:pl.map (·.1)=qs.map (·.1))
  (hq:∀(j:Nat)(x:Nat×Operand)(q:Nat×yY),pl[j]? =iF x→qs[j]? =iF q→zAq E x.2 q.2∧q.2∈ps∧ ∃u,zs[q.1]? =iF u∧u.size=q.2.tree.size):
  wP P Γ o E (E.app ((d,iF (.agg (ps.map yY.tree)))::pWr d ps 0) ((d,0)::sW ps)):=by
 refine wP.value gf fun a w G g9=>?_
 obtain⟨G',gu⟩:=zWH g9 gB hd;have gz:∀(us:List T),zA1 us=iH→((us.map yY.zero).flatMap (qV G)).length=T.sizes us:=by grind[zFG,zBn]
 obtain⟨cs',h1,h2⟩:=zHw (pv:=qV G) place (pl.map fun x=>(x.1,a.eval x.2)) qs (zs.map yY.zero) z.cells (by rw[zFG,hzv]) (fun i p hp=>by
   rw[K3]at hp;cases hu:zs[i]? with
   |none=>grind
   |some u=>
    simp[hu]at hp;subst hp;rw[cU i u hu,←Ja6,gz _ (zOks_take zs i hz),qV,vV u (zOks_get zs hz i u hu)])
  (by grind[Function.comp_def]) (fun j v q hv hqj=>by
   rw[K3]at hv;cases hx:pl[j]? with
   |none=>grind
   |some x=>
    simp[hx]at hv;subst hv;obtain⟨h3,h4,u,h5,h6⟩:=hq j x q hx hqj;refine⟨zAG g9 gB h4 h3,.zero u,by simp[h5],?_⟩;rw[qV,vV u (zOks_get zs hz _ u h5),h6];cases ab:q.2 with
    |slot s t=>
     rw[ab]at h4;obtain⟨_,_,h7⟩:=gB.slot s t h4;exact(vN t [] (by rintro xs rfl;grind[T.okTup])).symm
    |zero u'=>
     rw[ab]at h4;exact(vV u' (gB.zero u' h4)).symm)
 rw[gV]at h2;have h3:cs'=(ps.flatMap (qV G)).toArray:=by rw[←h2]
 refine⟨_,w,?_,G',gu⟩;have gA:=run_build (P:=P) w t (pl.map fun x=>(x.1,a.eval x.2)).toArray cs' (by grind);simp only[Jbt,execOp,ho,Sem.run_bind]at gA ⊢
 simp_all
where
 zOks_get:(xs:List T)→zA1 xs=iH→ ∀(i:Nat)(x:T),xs[i]? =iF x→x.zOk=iH
  | [],_,_,_,h=>by simp at h
  |y::ys,hk,i,x,h=>by
   simp only[zA1,J2]at hk;cases i with
   |zero=>grind
   |succ i=>exact zOks_get ys hk.2 i x (by grind)
 zOks_take:(xs:List T)→ ∀i,zA1 xs=iH→zA1 (xs.take i)=iH
  | [],i,_=>by simp[zA1]
  |y::ys,0,_=>by simp[zA1]
  |y::ys,i+1,hk=>by
   simp only[zA1,J2,Lj]at hk ⊢
   exact⟨hk.1,zOks_take ys i hk.2⟩
end
mutual
def vO:T→T→Bool
 |.agg xs,.agg ys=>kX xs ys
 |.agg _,_=>iI
 |.tup _,_=>iI
 |_,.agg _=>iI
 |_,.tup _=>iI
 |.any,_|.lit _,_|.ro _,_|.same _ _,_|.addr _ _,_|.sub _ _ _ _ _,_|.sl _ _,_|.ptr _,_=>iH
def kX:List T→List T→Bool
 | [],[]=>iH
 |x::xs,y::ys=>vO x y&&kX xs ys
 | [],_::_=>iI
 |_::_,[]=>iI
end
mutual
theorem zCD:(x y:T)→vO x y=iH→x.size=y.size
 |.agg xs,.agg ys,h=>by simp only[vO]at h;simp only[T.size];exact zEL xs ys h
 |.agg _,.any,h|.agg _,.lit _,h|.agg _,.ro _,h|.agg _,.same _ _,h|.agg _,.addr _ _,h|.agg _,.sub _ _ _ _ _,h|.agg _,.sl _ _,h|.agg _,.ptr _,h|.agg _,.tup _,h=>by grind[vO]
 |.tup _,_,h=>by grind[vO]
 |.any,y,h|.lit _,y,h|.ro _,y,h|.same _ _,y,h|.addr _ _,y,h|.sub _ _ _ _ _,y,h|.sl _ _,y,h|.ptr _,y,h=>by cases y<;>simp[vO]at h<;>simp[T.size]
theorem zEL:(xs ys:List T)→kX xs ys=iH→T.sizes xs=T.sizes ys
 | [],[],_=>rfl
 |x::xs,y::ys,h=>by simp only[kX,J2]at h;simp only[T.sizes,zCD x y h.1,zEL xs ys h.2]
 | [],_::_,h=>by grind[kX]
 |_::_,[],h=>by grind[kX]
end
section
variable {G:Gh}{w:World}{s:Nat}
mutual
theorem zKy:(t:T)→ ∀(p:List Nat)(b o j:Nat),Loc G w s t p b o→j<t.size→ ∃y,G.lb b (o+j)=iF (iI,s,y++p)
 |.agg xs,p,b,o,j,h,hj=>by simp only[Loc,T.size]at h hj;exact zPD xs p 0 b o j h.2 hj
 |.any,p,b,o,j,h,hj|.lit _,p,b,o,j,h,hj|.ro _,p,b,o,j,h,hj|.same _ _,p,b,o,j,h,hj|.addr _ _,p,b,o,j,h,hj|.sub _ _ _ _ _,p,b,o,j,h,hj|.sl _ _,p,b,o,j,h,hj|.ptr _,p,b,o,j,h,hj=>by
  simp only[Loc,T.size]at h hj
  simp_all
 |.tup _,_,_,_,_,h,_=>by simp only[Loc]at h
theorem zPD:(xs:List T)→ ∀(p:List Nat)(i b o j:Nat),vR G w s xs p i b o→j<T.sizes xs→ ∃y,G.lb b (o+j)=iF (iI,s,y++p)
 | [],_,_,_,_,_,_,hj=>by grind[T.sizes]
 |x::xs,p,i,b,o,j,h,hj=>by
  simp only[vR,T.sizes]at h hj
  by_cases gH:j<x.size
  ·obtain⟨y,hy⟩:=zKy x (i::p) b o j h.1 gH
   exact⟨y++[i],by grind⟩
  ·obtain⟨y,hy⟩:=zPD xs p (i+1) b (o+x.size) (j-x.size) h.2 (by omega)
   grind
end
mutual
theorem zSK{G':Gh}{w':World}:(u u0:T)→ ∀(p:List Nat)(b o:Nat),vO u u0=iH→(∀y,u.inT y.reverse=iH→G'.ad s (y++p)=G.ad s (y++p))→
  (∀b o y,G.lb b o=iF (iI,s,y++p)→G'.lb b o=iF (iI,s,y++p))→(∀j v,(vals G' s u p)[j]? =iF v→yU w' b (o+j)=iF v)→Loc G w s u0 p b o→Loc G' w' s u p b o
 |.agg xs,.agg ys,p,b,o,h,ha,hl,hc,h0=>by
  simp only[Loc,vO]at h h0 ⊢
  refine⟨by have:=ha [] rfl;grind,zPE xs ys p 0 b o h (fun i x hx y hy=>?_) (by omega) (by grind[vals]) h0.2⟩
  grind[Uw,T.inT]
 |.agg _,.any,_,_,_,h,_,_,_,_|.agg _,.lit _,_,_,_,h,_,_,_,_|.agg _,.ro _,_,_,_,h,_,_,_,_|.agg _,.same _ _,_,_,_,h,_,_,_,_|.agg _,.addr _ _,_,_,_,h,_,_,_,_|.agg _,.sub _ _ _ _ _,_,_,_,h,_,_,_,_|.agg _,.sl _ _,_,_,_,h,_,_,_,_|.agg _,.ptr _,_,_,_,h,_,_,_,_|.agg _,.tup _,_,_,_,h,_,_,_,_=>by grind[vO]
 |.tup _,_,_,_,_,h,_,_,_,_=>by grind[vO]
 |.any,u0,p,b,o,h,ha,hl,hc,h0|.lit _,u0,p,b,o,h,ha,hl,hc,h0|.ro _,u0,p,b,o,h,ha,hl,hc,h0|.same _ _,u0,p,b,o,h,ha,hl,hc,h0|.addr _ _,u0,p,b,o,h,ha,hl,hc,h0|.sub _ _ _ _ _,u0,p,b,o,h,ha,hl,hc,h0|.sl _ _,u0,p,b,o,h,ha,hl,hc,h0|.ptr _,u0,p,b,o,h,ha,hl,hc,h0=>by have h1:=vK (by cases u0<;>simp[vO]at h<;>rfl) h0;have h2:=ha [] rfl;rw[K0]at h2;simp only[Loc];exact⟨h2.trans h1.1,by simp_all,by simpa using hc 0 (G'.hd s p) (by simp[vals])⟩
theorem zPE{G':Gh}{w':World}:(xs ys:List T)→ ∀(p:List Nat)(j b o:Nat),kX xs ys=iH→(∀i x,xs[i]? =iF x→ ∀y,x.inT y.reverse=iH→G'.ad s (y++((j+i)::p))=G.ad s (y++((j+i)::p)))→
  (∀b o y,G.lb b o=iF (iI,s,y++p)→G'.lb b o=iF (iI,s,y++p))→(∀i v,(yJ G' s xs p j)[i]? =iF v→yU w' b (o+i)=iF v)→vR G w s ys p j b o→vR G' w' s xs p j b o
 | [],[],_,_,_,_,_,_,_,_,_=>by simp only[vR]
 |x::xs,y::ys,p,j,b,o,h,ha,hl,hc,h0=>by
  simp only[kX,J2,vR]at h h0 ⊢
  have hs:=zCD x y h.1;have eg:∀zs,x≠.tup zs:=by rintro zs rfl;grind[vO]
  refine⟨zSK x y (j::p) b o h.1 (fun z hz=>by simpa using ha 0 x (by simp) z hz) (fun b o z hz=>by have:=hl b o (z++[j]) (by grind);grind) (fun i v hv=>hc i v ?_) h0.1,
   zPE xs ys p (j+1) b (o+x.size) h.2 (fun i z hz=>by have:=ha (i+1) z (by grind);grind) hl (fun i v hv=>?_) (by grind)⟩
  ·grind[yJ]
  ·have:=hc (x.size+i) v (by
    grind[yJ,vN])
   grind
 | [],_::_,_,_,_,_,h,_,_,_,_=>by grind[kX]
 |_::_,[],_,_,_,_,h,_,_,_,_=>by grind[kX]
end
end
def zGM(p:yY)(q:List Nat)(s:Nat)(z:List Nat):Option (List Nat):=
 match p with
 |.slot s0 t=>if sV t&&s0==s then iF (z++q)else iG
 |.zero _=>iG
def sHd(G:Gh)(p:yY)(y:List Nat):Value:=
 match p with
 |.slot s _=>G.hd s y
 |.zero u=>kK (zhd u y.reverse)
def sWr(r:Nat)(q:List Nat):yY→Wr
 |.slot s t=>if sV t then[(s,iF (cpT r t q))]else[]
 |.zero _=>[]
def Gh.st(G:Gh)(r:Nat)(q:List Nat)(p:yY):Gh where
 hd s z:=if s=r∧q<:+z then sHd G p (z.take (z.length-q.length))else G.hd s z
 ad s z:=if s=r∧q<:+z∧p.tree.inT (z.take (z.length-q.length)).reverse=iI then(match p with
  |.slot s0 _=>G.ad s0 (z.take (z.length-q.length))
  |.zero _=>default)else G.ad s z
 lb b o:=match G.lb b o with
  |some (fl,s,z)=>(match zGM p q s z with
   |some z'=>iF (fl,r,z')
   |none=>iF (fl,s,z))
  |none=>iG
 ow b:=match G.ow b with
  |some (s,z)=>(match zGM p q s z with
   |some z'=>iF (r,z')
   |none=>iF (s,z))
  |none=>iG
mutual
theorem zLJ{Γ:Ctx}{G:Gh}{w:World}(hm:Mem Γ G w){s:Nat}:(t:T)→ ∀(p:List Nat)(v:Value),v∈vals G s t p→v.oneCell'=iH
 |.agg xs,p,v,h=>by simp only[vals]at h;exact zDv hm xs p 0 v h
 |.any,p,v,h|.lit _,p,v,h|.ro _,p,v,h|.same _ _,p,v,h|.addr _ _,p,v,h|.sub _ _ _ _ _,p,v,h|.sl _ _,p,v,h|.ptr _,p,v,h|.tup _,p,v,h=>by simp only[vals,List.mem_singleton]at h;rw[h];exact hm.one s p
theorem zDv{Γ:Ctx}{G:Gh}{w:World}(hm:Mem Γ G w){s:Nat}:(xs:List T)→ ∀(p:List Nat)(j:Nat)(v:Value),v∈yJ G s xs p j→v.oneCell'=iH
 | [],_,_,_,h=>by grind[yJ]
 |x::xs,p,j,v,h=>by
  simp only[yJ,Jd]at h;rcases h with h|h
  ·exact zLJ hm x _ v h
  ·exact zDv hm xs p _ v h
end
mutual
theorem zFH:(u:T)→u.zOk=iH→ ∀v∈sC u,v.oneCell'=iH
 |.lit v,h,x,hx=>by simp only[sC,List.mem_singleton]at hx;rw[hx];exact h
 |.sl _ _,_,x,hx=>by simp only[sC,List.mem_singleton]at hx;rw[hx];rfl
 |.agg xs,h,x,hx=>by simp only[T.zOk]at h;simp only[sC]at hx;exact zHx xs h x hx
 |.any,h,_,_|.ro _,h,_,_|.same _ _,h,_,_|.addr _ _,h,_,_|.sub _ _ _ _ _,h,_,_|.ptr _,h,_,_|.tup _,h,_,_=>by grind[T.zOk]
theorem zHx:(xs:List T)→zA1 xs=iH→ ∀v∈qR xs,v.oneCell'=iH
 | [],_,_,h=>by grind[qR]
 |x::xs,h,v,hv=>by
  simp only[zA1,J2]at h;simp only[qR,Jd]at hv;rcases hv with hv|hv
  ·exact zFH x h.1 v hv
  ·exact zHx xs h.2 v hv
end
theorem zLK(y q:List Nat):(y++q).take ((y++q).length-q.length)=y:=by simp
theorem zOa{t:T}{v:Option Value}(hv:v=iF (mkV G s t []))(eg:∀xs,t≠.tup xs)(hs:∀p,G'.hd s p=G.hd s p)(bt:∀z,G'.hd d (z++q)=G.hd s z)
  (hr:R Γ.St G' w' d t q):Ent Γ G' w' v s (cpT d t q):=by
 have hz:∀z,G'.hd s (z++[])=G'.hd d (z++q):=by grind
 refine⟨?_,?_,jA d t q⟩
 ·rw[hv,zAF (G:=G') (G':=G') t q [] eg hz,zAe G s t [] eg,zBQ t [] q (fun z=>by rw[bt,Jf])]
 ·exact zEd (G:=G') (G':=G') (fun _=>rfl) t q [] hz eg (xG.triv (fun _ _=>⟨rfl,rfl⟩) _) hr
section
variable {P:Program}{Γ:Ctx}{E:Env}{o:Oper}
theorem kL:(f:List Nat)→ ∀(t u:T),yE t→yE u→yE (t.set f u)
 | [],t,u,_,hu=>by grind[T.set]
 |i::f,t,u,ht,hu=>by
  cases t with
  |sl k xs=>
   simp only[T.set];split
   ·rename_i x hx
    simp only[yE,xG]at ht ⊢
    exact sets_clean xs i _ ht (kL f x u (uR xs ht i x hx) hu)
   ·exact ht
  |agg xs=>
   simp only[T.set];split
   ·rename_i x hx
    simp only[yE,xG]at ht ⊢
    exact sets_clean xs i _ ht (kL f x u (uR xs ht i x hx) hu)
   ·exact ht
  |tup xs=>
   simp only[T.set];split
   ·rename_i x hx
    simp only[yE,xG]at ht ⊢
    exact sets_clean xs i _ ht (kL f x u (uR xs ht i x hx) hu)
   ·exact ht
  |ptr t=>
   simp only[T.set];split
   ·simp only[yE,xG]at ht ⊢
    exact kL f t u ht hu
   ·exact ht
  |_=>grind[T.set]
where sets_clean:(xs:List T)→ ∀(i:Nat)(y:T),xT xs→yE y→xT (xs.set i y)
 | [],_,_,_,_=>by grind
 |x::xs,0,y,h,hy=>by simp only[Kz,xT,wC]at h ⊢;grind
 |x::xs,i+1,y,h,hy=>by simp only[Kx,xT,wC]at h ⊢;exact⟨h.1,sets_clean xs i y h.2 hy⟩
theorem zFI(T':TypeId)(ti:TypeInfo)(x y:Operand)(r:Nat)(q:List Nat)(tr u0:T)(p:yY)(ho:o.op=.store T' x y)(gf:o.dst=iG)
  (hi:P.info? T'=iF ti)(gz:ti.size=p.tree.size)(py:0<ti.size)(hx:zAV Γ E x r q)(hr:E r=iF tr)(d5:tr.single=iH)(hg:tr.get q.reverse=iF u0)(hl:tr.locd q.reverse=iH)
  (fO:vO p.tree u0=iH)(hy:zAq E y p)(gV:tZ E r [p]):
  wP P Γ o E (E.app ((r,iF (tr.set q.reverse p.tree))::sWr r q p) ((r,q.length)::sW [p])):=by
 refine wP.skip gf fun a w G g9=>?_
 have hm:=g9.mem;have bC:=hx a w G g9;obtain⟨e3,e4,e5⟩:=g9.ent r _ hr;have mp:q≠[]:=by rintro rfl;simp[T.locd]at hl
 obtain⟨i0,f0,u5⟩:∃i f,q.reverse=i::f:=by
  cases h:q.reverse with
  |nil=>exact absurd (by simpa using h) mp
  |cons i f=>exact⟨i,f,rfl⟩
 have tp:∀v:T,(tr.set q.reverse v).single=iH∧yE tr:=by
  intro v;rw[u5]at hg ⊢
  cases tr with
  |sl k xs=>exact⟨by simp only[T.set];split<;>rfl,by simpa only[Top,yE,xG]using e5⟩
  |ptr t=>exact⟨by simp only[T.set];split<;>rfl,by simpa only[Top,yE,xG]using e5⟩
  |agg xs=>simp[T.single]at d5
  |tup xs=>simp[T.single]at d5
  |_=>simp[T.get]at hg
 obtain⟨b,ob,cs,et,m9,gJ,ii⟩:=(zAE q.reverse tr u0 [] e4 hg).2 hl;simp only[rp,Kh,Jf]at m9;have hru0:=(zAE q.reverse tr u0 [] e4 hg).1;have fa:=zBR m9;have tx:=zCD _ _ fO;have hc:=zAG g9 gV (by simp) hy;have cy:(a.eval y).cells.size=p.tree.size:=by
  rw[←Kt,hc];cases p with
  |slot s t=>obtain⟨_,_,h3⟩:=gV.slot s t (by simp);exact vN t [] (by rintro xs rfl;simp[T.okTup]at h3)
  |zero u=>exact vV u (gV.zero u (by simp))
 have gx:∀v∈(a.eval y).cells.toList,v.oneCell'=iH:=by
  rw[hc];intro v hv;cases p with
  |slot s t=>exact zLJ hm t [] v hv
  |zero u=>exact zFH u (gV.zero u (by simp)) v hv
 generalize eL:w.setRow b (cs.toList.take ob++(a.eval y).cells.toList++cs.toList.drop (ob+(a.eval y).cells.toList.length)).toArray=w'
 have eJ:w'.heap[b]? =iF (.cells (cs.toList.take ob++(a.eval y).cells.toList++cs.toList.drop (ob+(a.eval y).cells.toList.length)).toArray et (0,0)):=by rw[←eL];exact setRow_heap w b cs _ et _ gJ
 have gG:∀b',b'≠b→w'.heap[b']? =w.heap[b']?:=fun b' h=>by rw[←eL];exact setRow_other w b b' _ h
 have gP:w'.heap.size=w.heap.size:=by rw[←eL];exact size_setRow w b _
 have gC:(a.eval y).cells.toList.length=u0.size:=by rw[Kt,cy,tx]
 have fy:∀k,yU w' b k=if ob≤k∧k<ob+u0.size then(qV G p)[k-ob]? else yU w b k:=by
  intro k;simp only[yU,World.cell?,eJ,gJ,Uj,Ho,if_false];rw[←hc,←gC]at*
  rw[←Ky,←Ky (xs:=cs)];simp only[];have gM:cs.toList.length=cs.size:=Kt ..
  generalize (a.eval y).cells.toList=V at*
  by_cases h1:k<ob
  ·rw[if_neg (by omega),Jj,Kn (by simp;omega),Ja9 h1]
  ·by_cases h2:k<ob+V.length
   ·rw[if_pos ⟨by omega,h2⟩,Jj,Jk (by simp;omega),Kn (by simp;omega)]
    congr 1;simp;omega
   ·rw[if_neg (by omega),Jj,Jk (by simp;omega),Jk (by simp;omega),Hq]
    congr 1;simp;omega
 have cv:∀b' o' fl s z,G.lb b' o'=iF (fl,s,z)→ ¬(s=r∧q<:+z)→yU w' b' o'=yU w b' o':=by
  intro b' o' fl s z h1 h2
  by_cases hb:b'=b
  ·subst hb
   rw[fy];split
   ·rename_i h3
    obtain⟨y',h4⟩:=zKy u0 q b' ob (o'-ob) m9 (by omega);rw[show ob+(o'-ob)=o' from by omega,h1]at h4;simp at h4;exact absurd ⟨h4.2.1,y',h4.2.2.symm⟩ h2
   ·rfl
  ·simp[yU,World.cell?,gG b' hb]
 have eu:Blk w w':=by
  intro b' cs' e' h1
  by_cases hb:b'=b
  ·subst hb
   rw[gJ]at h1;simp at h1;obtain⟨rfl,rfl⟩:=h1;exact⟨_,eJ,by simp;have:cs.toList.length=cs.size:=Kt ..;omega⟩
  ·exact⟨cs',by rw[gG b' hb];exact h1,rfl⟩
 generalize gu:G.st r q p=G'
 have ghd:∀y',G'.hd r (y'++q)=sHd G p y':=fun y'=>by rw[←gu];simp[Gh.st]
 have ghd':∀s z,¬(s=r∧q<:+z)→G'.hd s z=G.hd s z:=fun s z h=>by rw[←gu];simp only[Gh.st];rw[if_neg h]
 have gad:∀s z,¬(s=r∧q<:+z)→G'.ad s z=G.ad s z:=fun s z h=>by rw[←gu];simp only[Gh.st];rw[if_neg (fun h2=>h ⟨h2.1,h2.2.1⟩)]
 have gadf:∀y',p.tree.inT y'.reverse=iH→G'.ad r (y'++q)=G.ad r (y'++q):=fun y' h=>by rw[←gu];simp only[Gh.st,zLK];rw[if_neg (by simp[h])]
 have gadm:∀s0 t y',p=.slot s0 t→t.inT y'.reverse=iI→G'.ad r (y'++q)=G.ad s0 y':=fun s0 t y' h1 h2=>by subst h1;rw[←gu];simp only[Gh.st,zLK,yY.tree];rw[if_pos];simp[h2]
 have glb:∀b' o' fl s z,G.lb b' o'=iF (fl,s,z)→zGM p q s z=iG→G'.lb b' o'=iF (fl,s,z):=fun b' o' fl s z h1 h2=>by rw[←gu];simp[Gh.st,h1,h2]
 have glbm:∀b' o' fl s z z',G.lb b' o'=iF (fl,s,z)→zGM p q s z=iF z'→G'.lb b' o'=iF (fl,r,z'):=fun b' o' fl s z z' h1 h2=>by rw[←gu];simp[Gh.st,h1,h2]
 have gow:∀b' s z,G.ow b'=iF (s,z)→zGM p q s z=iG→G'.ow b'=iF (s,z):=fun b' s z h1 h2=>by rw[←gu];simp[Gh.st,h1,h2]
 have gowm:∀b' s z z',G.ow b'=iF (s,z)→zGM p q s z=iF z'→G'.ow b'=iF (r,z'):=fun b' s z z' h1 h2=>by rw[←gu];simp[Gh.st,h1,h2]
 have ah:∀s z,(∀n,(s,n)∉(r,q.length)::sW [p])→zGM p q s z=iG:=by
  intro s z h;cases p with
  |zero u=>rfl
  |slot s0 t=>
   simp only[zGM];rw[if_neg];intro h2;simp only[J2,beq_iff_eq]at h2;obtain⟨h3,rfl⟩:=h2;exact h 1 (by simp[sW,xW,h3])
 have pz:∀z,zGM p q r z=iG:=by
  intro z;cases p with
  |zero u=>rfl
  |slot s0 t=>
   simp only[zGM];rw[if_neg];intro h2;simp only[J2,beq_iff_eq]at h2;obtain⟨h3,rfl⟩:=h2;have:=(Kv.1 gV.dist).1;simp[xW,h3]at this
 have mw:∀s z,Off ((r,q.length)::sW [p]) s z→ ¬(s=r∧q<:+z):=by
  rintro s z h ⟨rfl,h2⟩
  have:=h q.length (by simp);have:=h2.length_le;omega
 have gy:jF ((r,q.length)::sW [p]) G w G' w':=by
  refine⟨fun s z h=>ghd' s z (mw s z h),fun s z h=>gad s z (mw s z h),fun b' o' fl s z _ h1 h2=>⟨glb b' o' fl s z h1 (ah s z h2),cv b' o' fl s z h1 ?_⟩,fun b' s z h1 h2=>gow b' s z h1 (ah s z h2),eu⟩
  rintro⟨rfl,_⟩
  exact h2 q.length (by simp)
 have aV:zC7 Γ w b:=by obtain⟨y',h4⟩:=zKy u0 q b ob 0 m9 (by omega);exact hm.lb _ _ _ h4
 have gp:Mem Γ G' w':=by
  refine⟨fun s z=>?_,fun b' o' l hl=>?_,fun b' l hl=>?_,fun b' x' hx'=>?_,fun b' h1 h2=>?_,by rw[gP];exact hm.sz,hm.bk.trans eu (by rw[←eL];rfl) (by rw[←eL];rfl)⟩
  ·by_cases h:s=r∧q<:+z
   ·obtain⟨rfl,y',rfl⟩:=h
    rw[ghd];unfold sHd;split
    ·exact hm.one _ _
    ·exact zBz _
   ·rw[ghd' s z h];exact hm.one s z
  ·have:∃l',G.lb b' o'=iF l':=by
    rw[←gu]at hl;simp only[Gh.st]at hl;split at hl
    ·exact⟨_,by assumption⟩
    ·cases hl
   obtain⟨l',be⟩:=this;have:=hm.lb b' o' l' be;exact⟨by rw[gP];exact this.1,this.2⟩
  ·have:∃l',G.ow b'=iF l':=by
    rw[←gu]at hl;simp only[Gh.st]at hl;split at hl
    ·exact⟨_,by assumption⟩
    ·cases hl
   obtain⟨l',be⟩:=this;have:=hm.ow b' l' be;exact⟨by rw[gP];exact this.1,this.2⟩
  ·have hb:b'≠b:=by rintro rfl;rw[aV.2.2]at hx';cases hx'
   rw[gG b' hb];exact hm.st b' x' hx'
  ·have hb:b'≠b:=by
    rintro rfl
    rcases aV.2.1 with h3|h3
    ·omega
    ·exact h2 h3
   rw[gG b' hb];exact hm.fr b' h1 h2
 have dy:Upd G w G' w' r q:=by refine⟨fun z h=>ghd' r z (fun h2=>h h2.2),fun z h=>gad r z (fun h2=>h h2.2),fun b' o' fl z h1 h=>⟨glb b' o' fl r z h1 (pz z),cv b' o' fl r z h1 (fun h2=>h h2.2)⟩,fun b' z h1 _=>gow b' r z h1 (pz z),eu⟩
 have bN:R Γ.St G' w' r p.tree q:=by
  cases hp:p with
  |zero u=>
   refine zKw u q (gV.zero u (by simp[hp])) (fun z=>by rw[ghd];simp[sHd,hp])
  |slot s0 t=>
   obtain⟨h1,h2,h3⟩:=gV.slot s0 t (by simp[hp]);have f8:=(g9.ent s0 t h1).2.1
   by_cases pC:sV t=iH
   ·have dJ:s0≠r:=by
     rintro rfl
     have:=(Kv.1 gV.dist).1;simp[hp,xW,pC]at this
    refine zLG t [] q h3 ⟨fun z=>by rw[ghd,Jf];simp[sHd,hp],fun z hz=>by rw[Jf];exact gadm s0 t z hp hz,fun b' o' fl z _ h4=>?_,fun b' z h4=>?_,eu⟩ (xG.mono (fun _ _=>False.elim) t h2) f8
    ·rw[Jf]at h4
     exact⟨glbm b' o' fl s0 z _ h4 (by simp[zGM,hp,pC]),cv b' o' fl s0 z h4 (fun h5=>dJ h5.1)⟩
    ·rw[Jf]at h4
     exact gowm b' s0 z _ h4 (by simp[zGM,hp,pC])
   ·have hh:G'.hd r q=G.hd s0 []:=by have:=ghd [];rw[K0]at this;rw[this];simp[sHd,hp]
    cases t<;>simp[sV]at pC<;>simp only[R,yY.tree]at f8 ⊢ <;>rw[hh]<;>exact f8
 have p8:vals G' r p.tree q=qV G p:=by
  cases hp:p with
  |zero u=>exact zFF u q (gV.zero u (by simp[hp])) (fun z=>by rw[ghd];simp[sHd,hp])
  |slot s0 t=>exact zAU t [] q (fun z=>by rw[ghd];simp[sHd,hp])
 have aw:∀b' o',Loc G w r u0 q b' o'→Loc G' w' r p.tree q b' o':=by
  intro b' o' h1;have h2:b'=b∧o'=ob:=by have:=(zBR h1).symm.trans fa;simp at this;exact this
  obtain⟨rfl,rfl⟩:=h2;refine zSK p.tree u0 q b' o' fO (fun y' h=>gadf y' h) (fun b2 o2 y' h=>glb b2 o2 iI r _ h (pz _)) (fun j v hv=>?_) h1;rw[p8]at hv;have hj:=(Jv.1 hv).1;have cU:(qV G p).length=u0.size:=by rw[←hc,gC]
  rw[fy,if_pos ⟨by omega,by omega⟩,show o'+j-o'=j from by omega];exact hv
 have a9:R Γ.St G' w' r (tr.set q.reverse p.tree) []:=by
  have cQ:rp q.reverse []=q:=by simp[rp]
  refine zGy q.reverse tr p.tree u0 [] (by rw[cQ];exact dy) e4 hg tx (xG.mono (fun _ _=>False.elim) tr (tp .any).2) (by rw[cQ];exact aw) (by rw[cQ];exact bN)
 have gF:=run_storeCells_at P b ob et (a.eval y).cells.toList 0 cs w gJ (by omega) gx;simp only[Q6]at gF;rw[eL]at gF;refine⟨w',?_,G',vS g9 rfl gy gp ?_ ?_⟩
 ·have dD:(a.eval y).cells.size=ti.size:=by rw[cy,gz]
  simp[execOp,ho,bC,fa,Instr.storeAt,sF,storeVar,sizeOf,typeInfo,hi,dD,gF]
 ·intro s hs
  simp only[Wr.find]at hs;split at hs
  ·cases hs
  ·rename_i gg
   refine⟨fun n hn=>?_,rfl⟩;simp only[J7,Jba.injEq]at hn;rcases hn with⟨h1,_⟩|hn
   ·exact gg h1.symm
   ·cases p with
    |zero u=>simp[sW,xW]at hn
    |slot s0 t=>
     by_cases pC:sV t=iH
     ·simp[sW,xW,pC]at hn
      simp[sWr,pC,Wr.find,hn.1.symm]at hs
     ·simp[sW,xW,pC]at hn
 ·intro s t hs
  simp only[Wr.find]at hs;split at hs
  ·rename_i he
   subst he;simp at hs;subst hs;refine⟨?_,a9,Top.of_clean _ (kL _ _ _ (tp .any).2 ?_)⟩
   ·rw[e3,xU (tp p.tree).1,xU d5]
    congr 1
    exact(ghd' r [] (fun h=>mp (by simpa using h.2))).symm
   ·cases p with
    |zero u=>exact(zB0 u (gV.zero u (by simp))).1
    |slot s0 t=>exact(gV.slot s0 t (by simp)).2.1
  ·rename_i gg
   cases hp:p with
   |zero u=>simp[sWr,hp,Wr.find]at hs
   |slot s0 t0=>
    by_cases pC:sV t0=iH
    ·simp only[sWr,hp,pC,if_true,Wr.find]at hs
     split at hs
     ·rename_i he
      subst he;simp at hs;subst hs;obtain⟨h1,h2,h3⟩:=gV.slot s0 t0 (by simp[hp]);refine zOa (G:=G) (g9.ent s0 t0 h1).1 (by rintro xs rfl;simp[T.okTup]at h3) (fun z=>ghd' s0 z (fun h=>gg h.1.symm)) (fun z=>by rw[ghd];simp[sHd,hp]) (by rw[hp]at bN;exact bN)
     ·cases hs
    ·simp[sWr,hp,pC,Wr.find]at hs
theorem zLL(T':TypeId)(ti:TypeInfo)(x y:Operand)(r:Nat)(q:List Nat)(tr u0:T)(p:yY)(ho:o.op=.store T' x y)(gf:o.dst=iG)
  (hi:P.info? T'=iF ti)(gz:ti.size=p.tree.size)(py:0<ti.size)(hx:opT E x=iF (.addr r q))(hr:E r=iF tr)(d5:tr.single=iH)(hg:tr.get q.reverse=iF u0)(hl:tr.locd q.reverse=iH)
  (fO:vO p.tree u0=iH)(hy:zAq E y p)(gV:tZ E r [p]):
  wP P Γ o E (E.app ((r,iF (tr.set q.reverse p.tree))::sWr r q p) ((r,q.length)::sW [p])):=
 by grind[zFI,zAV.addr]
end
section
variable {G G':Gh}{s:Nat}
theorem zOb(xs:List T):∀(p:List Nat)(j:Nat),(∀k,j≤k→ ∀z,G'.hd s (z++(k::p))=G.hd s (z++(k::p)))→yJ G' s xs p j=yJ G s xs p j:=by
 induction xs with
 |nil=>grind[yJ]
 |cons z zs ih=>
  intro p j h;simp only[yJ];rw[zAU z (j::p) (j::p) (h j (Jh _)),ih p (j+1) (by grind)]
theorem zRg(xs:List T):∀(p:List Nat)(j i:Nat)(x y:T),xs[i]? =iF x→(∀k,k≠j+i→ ∀z,G'.hd s (z++(k::p))=G.hd s (z++(k::p)))→
  vals G' s y ((j+i)::p)=vals G s x ((j+i)::p)→yJ G' s (xs.set i y) p j=yJ G s xs p j:=by
 induction xs with
 |nil=>simp
 |cons z zs ih=>
  intro p j i x y h hz hy;cases i with
  |zero=>
   grind[yJ,zOb]
  |succ i=>
   simp only[Kx,yJ];rw[zAU z (j::p) (j::p) (hz j (by omega)),ih p (j+1) i x y (by grind) (by grind) (by grind)]
theorem zLM:(f:List Nat)→ ∀(t u u0:T)(p:List Nat),t.get f=iF u0→u0.single=iH→u.single=iH→(∀z,(rp f p<:+z→z=rp f p)→G'.hd s z=G.hd s z)→vals G' s (t.set f u) p=vals G s t p
 | [],t,u,u0,p,hg,h0,h1,hh=>by simp[T.get]at hg;subst hg;have:G'.hd s p=G.hd s p:=hh p (by simp[rp]);simp only[T.set];cases t<;>simp[T.single]at h0<;>cases u<;>simp[T.single]at h1<;>simp[vals,this]
 |i::f,t,u,u0,p,hg,h0,h1,hh=>by
  rw[zBP]at hh;have hp:G'.hd s p=G.hd s p:=by grind[kW]
  cases t with
  |agg xs=>
   simp only[T.get]at hg;cases hx:xs[i]? with
   |none=>grind
   |some x=>
    rw[hx]at hg;simp only[T.set,hx,vals];refine zRg xs p 0 i x _ hx (by grind[kI]) ?_;rw[Ja];exact zLM f x u u0 (i::p) hg h0 h1 hh
  |tup xs=>
   grind[T.set,vals]
  |sl k xs=>grind[T.set,vals]
  |ptr t=>grind[T.set,vals]
  |_=>grind[T.get]
theorem zLN(f:List Nat)(t u u0:T)(p:List Nat)(hg:t.get f=iF u0)(h0:u0.single=iH)(h1:u.single=iH)(hh:∀z,(rp f p<:+z→z=rp f p)→G'.hd s z=G.hd s z)(eg:∀xs,t≠.tup xs):
  sU G' s (t.set f u) p=sU G s t p:=by
 have h:=zLM f t u u0 p hg h0 h1 hh;cases f with
 |nil=>
  simp[T.get]at hg;subst hg;have:G'.hd s p=G.hd s p:=hh p (by simp[rp]);simp only[T.set];cases t<;>simp[T.single]at h0<;>cases u<;>simp[T.single]at h1<;>simp[sU,this]
 |cons i f=>
  rw[zBP]at hh;have hp:G'.hd s p=G.hd s p:=by grind[kW]
  cases t with
  |agg xs=>
   grind[T.set,vals,sU]
  |tup xs=>grind
  |sl k xs=>grind[T.set,sU]
  |ptr t=>grind[T.set,sU]
  |_=>grind[T.get]
theorem zRh(xs:List T):∀(p:List Nat)(j:Nat),(∀k,j≤k→ ∀z,G'.hd s (z++(k::p))=G.hd s (z++(k::p)))→zAd G' s xs p j=zAd G s xs p j:=by
 induction xs with
 |nil=>grind[zAd]
 |cons z zs ih=>
  intro p j h;simp only[zAd];rw[zBQ z (j::p) (j::p) (h j (Jh _)),ih p (j+1) (by grind)]
theorem zSL(xs:List T):∀(p:List Nat)(j i:Nat)(x y:T),xs[i]? =iF x→(∀k,k≠j+i→ ∀z,G'.hd s (z++(k::p))=G.hd s (z++(k::p)))→
  sU G' s y ((j+i)::p)=sU G s x ((j+i)::p)→zAd G' s (xs.set i y) p j=zAd G s xs p j:=by
 induction xs with
 |nil=>simp
 |cons z zs ih=>
  intro p j i x y h hz hy;cases i with
  |zero=>
   grind[zAd,zRh]
  |succ i=>
   simp only[Kx,zAd];rw[zBQ z (j::p) (j::p) (hz j (by omega)),ih p (j+1) i x y (by grind) (by grind) (by grind)]
def xN:T→Bool
 |.tup xs=>xs.all fun x=>match x with
  |.tup _=>iI
  |_=>iH
 |_=>iH
theorem zKz(f:List Nat)(t u u0:T)(p:List Nat)(hg:t.get f=iF u0)(h0:u0.single=iH)(h1:u.single=iH)(hh:∀z,(rp f p<:+z→z=rp f p)→G'.hd s z=G.hd s z)(mB:xN t=iH):
  mkV G' s (t.set f u) p=mkV G s t p:=by
 by_cases ht:∃xs,t=.tup xs
 ·obtain⟨xs,rfl⟩:=ht
  cases f with
  |nil=>grind[T.get,T.single]
  |cons i f=>
   rw[zBP]at hh;simp only[T.get]at hg;cases hx:xs[i]? with
   |none=>grind
   |some x=>
    rw[hx]at hg;simp only[T.set,hx,mkV];rw[zSL xs p 0 i x _ hx (fun k hk z=>hh _ (fun h=>absurd h (kI (by omega) z)))];rw[Ja];refine zLN f x u u0 (i::p) hg h0 h1 hh ?_
    rintro ys rfl
    simp only[xN]at mB;have:=Kc.1 mB _ (Hv hx)
    grind
 ·have eg:∀xs,t≠.tup xs:=by grind
  rw[zAe G s t p eg,←zLN f t u u0 p hg h0 h1 hh eg];refine zAe G' s _ p ?_
  rintro xs fJ
  cases f with
  |nil=>grind[T.set,T.single]
  |cons i f=>cases t<;>simp only[T.set]at fJ<;>first|grind|grind|cases fJ
end
theorem zEM:(f:List Nat)→ ∀(t u:T),Top t→yE u→Top (t.set f u)
 | [],t,u,_,hu=>by grind[T.set,Top.of_clean]
 |i::f,t,u,ht,hu=>by
  cases t with
  |sl k xs=>
   refine Top.of_clean _ (kL (i::f) _ u (by simpa only[Top,yE,xG]using ht) hu)
  |ptr t=>exact Top.of_clean _ (kL (i::f) _ u (by simpa only[Top,yE,xG]using ht) hu)
  |agg xs=>
   simp only[T.set];split
   ·rename_i x hx
    simp only[Top]at ht ⊢
    exact tops_set xs i _ ht (zEM f x u (tops_get xs ht i x hx) hu)
   ·exact ht
  |tup xs=>
   simp only[T.set];split
   ·rename_i x hx
    simp only[Top]at ht ⊢
    exact tops_set xs i _ ht (zEM f x u (tops_get xs ht i x hx) hu)
   ·exact ht
  |_=>grind[T.set]
where
 tops_set:(xs:List T)→ ∀(i:Nat)(y:T),uA xs→Top y→uA (xs.set i y)
  | [],_,_,_,_=>by simp[uA]
  |x::xs,0,y,h,hy=>by simp only[Kz,uA]at h ⊢;grind
  |x::xs,i+1,y,h,hy=>by simp only[Kx,uA]at h ⊢;exact⟨h.1,tops_set xs i y h.2 hy⟩
 tops_get:(xs:List T)→uA xs→ ∀(i:Nat)(x:T),xs[i]? =iF x→Top x
  | [],_,_,_,h=>by simp at h
  |y::ys,hk,i,x,h=>by
   simp only[uA]at hk;cases i with
   |zero=>grind
   |succ i=>exact tops_get ys hk.2 i x (by grind)
def Gh.tr(G:Gh)(d:Nat)(g:List Nat)(r:Nat)(p:List Nat):Gh where
 hd s z:=if s=d∧g<:+z then G.hd r (z.take (z.length-g.length)++p)else G.hd s z
 ad s z:=if s=d∧g<:+z∧z≠g then G.ad r (z.take (z.length-g.length)++p)else G.ad s z
 lb b o:=match G.lb b o with
  |some (fl,s,z)=>if s=r∧p<:+z∧(fl=iH∨z≠p)then iF (fl,d,z.take (z.length-p.length)++g)else iF (fl,s,z)
  |none=>iG
 ow b:=match G.ow b with
  |some (s,z)=>if s=r∧p<:+z then iF (d,z.take (z.length-p.length)++g)else iF (s,z)
  |none=>iG
theorem zG2{t:T}(h:t.single=iH):t.size=1:=by cases t<;>simp[T.single]at h<;>simp[T.size]
theorem zEj{w:World}(g9:Rep Γ E G tmps w)(d:Nat)(g:List Nat)(r:Nat)(p:List Nat)(td tr u v0:T)(hd:E d=iF td)(hg:td.get g.reverse=iF v0)(tj:v0.single=iH)(gY:G.hd d g=G.hd r p)(hr:E r=iF tr)
  (hp:tr.get p.reverse=iF u)(hu:u.single=iH)(eC:yE u)(hH:d≠r)(b5:td.okB [(d,g.length+1),(r,p.length+1)]=iH)(m7:tr.okB [(d,g.length+1),(r,p.length+1)]=iH)(fI:xN td=iH)(fH:xN tr=iH):
  Rep Γ (E.app [(d,iF (td.set g.reverse u)),(r,iF (if p=[]then .same d g else tr.set p.reverse .any))] [(d,g.length+1),(r,p.length+1)]) (G.tr d g r p) tmps w∧ ∀s z,¬(s=d∧g<:+z∧z≠g)→(G.tr d g r p).hd s z=G.hd s z:=by
 obtain⟨d1,d2,d3⟩:=g9.ent d td hd;obtain⟨r1,r2,r3⟩:=g9.ent r tr hr;have hm:=g9.mem;have bN:=(zAE p.reverse tr u [] r2 hp).1;simp only[rp,Kh,Jf]at bN;have gJ:Blk w w:=fun b cs e' h=>⟨cs,h,rfl⟩
 generalize gu:G.tr d g r p=G'
 have ghd:∀z,G'.hd d (z++g)=G.hd r (z++p):=fun z=>by rw[←gu];simp[Gh.tr]
 have ghd0:∀s z,¬(s=d∧g<:+z∧z≠g)→G'.hd s z=G.hd s z:=by
  intro s z h;rw[←gu];simp only[Gh.tr]
  by_cases h2:s=d∧g<:+z
  ·have h3:z=g:=by
    rcases Decidable.em (z=g)with e|e
    ·exact e
    ·exact absurd ⟨h2.1,h2.2,e⟩ h
   subst h3;rw[if_pos h2,h2.1];simpa using gY.symm
  ·rw[if_neg h2]
 have gad0:∀s z,¬(s=d∧g<:+z∧z≠g)→G'.ad s z=G.ad s z:=fun s z h=>by rw[←gu];simp only[Gh.tr];rw[if_neg h]
 have gad:∀z,z≠[]→G'.ad d (z++g)=G.ad r (z++p):=fun z h=>by rw[←gu];simp only[Gh.tr];rw[if_pos (by simpa using h)];simp
 have glb0:∀b o fl s z,G.lb b o=iF (fl,s,z)→ ¬(s=r∧p<:+z∧(fl=iH∨z≠p))→G'.lb b o=iF (fl,s,z):=fun b o fl s z h1 h2=>by rw[←gu];simp only[Gh.tr,h1];rw[if_neg h2]
 have glb:∀b o fl z,G.lb b o=iF (fl,r,z++p)→(fl=iH∨z≠[])→G'.lb b o=iF (fl,d,z++g):=fun b o fl z h1 h2=>by rw[←gu];simp only[Gh.tr,h1];rw[if_pos (by simpa using h2)];simp
 have gow0:∀b s z,G.ow b=iF (s,z)→ ¬(s=r∧p<:+z)→G'.ow b=iF (s,z):=fun b s z h1 h2=>by rw[←gu];simp only[Gh.tr,h1];rw[if_neg h2]
 have gow:∀b z,G.ow b=iF (r,z++p)→G'.ow b=iF (d,z++g):=fun b z h1=>by rw[←gu];simp only[Gh.tr,h1];rw[if_pos (by simp)];simp
 have gE:∀s z,Off [(d,g.length+1),(r,p.length+1)] s z→ ¬(s=d∧g<:+z∧z≠g):=by
  rintro s z h ⟨rfl,⟨y,rfl⟩,h3⟩
  have:=h (g.length+1) (by simp);have:y=[]:=Ly (by simp at this;omega);exact h3 (by simp[this])
 have gy:jF [(d,g.length+1),(r,p.length+1)] G w G' w:=by
  refine⟨fun s z h=>ghd0 s z (gE s z h),fun s z h=>gad0 s z (gE s z h),fun b o fl s z _ h1 h2=>⟨glb0 b o fl s z h1 ?_,rfl⟩,fun b s z h1 h2=>gow0 b s z h1 ?_,gJ⟩
  ·rintro⟨rfl,_⟩;exact h2 (p.length+1) (by simp)
  ·rintro⟨rfl,_⟩;exact h2 (p.length+1) (by simp)
 have gp:Mem Γ G' w:=by
  refine⟨fun s z=>?_,fun b o l hl=>?_,fun b l hl=>?_,hm.st,hm.fr,hm.sz,hm.bk⟩
  ·rw[←gu]
   simp only[Gh.tr];split
   ·exact hm.one _ _
   ·exact hm.one _ _
  ·have:∃l',G.lb b o=iF l':=by
    rw[←gu]at hl;simp only[Gh.tr]at hl;split at hl
    ·exact⟨_,by assumption⟩
    ·cases hl
   obtain⟨l',be⟩:=this;exact hm.lb b o l' be
  ·have:∃l',G.ow b=iF l':=by
    rw[←gu]at hl;simp only[Gh.tr]at hl;split at hl
    ·exact⟨_,by assumption⟩
    ·cases hl
   obtain⟨l',be⟩:=this;exact hm.ow b l' be
 have cQ:∀q:List Nat,rp q.reverse []=q:=fun q=>by simp[rp]
 have hud:R Γ.St G' w d u g:=by
  refine zAy (G:=G) (w:=w) (s:=r) (p:=p) ⟨⟨ghd,gad,fun b o f z hz _ hl=>⟨glb b o f z hl (.inr hz),rfl⟩,fun b z _ hl=>gow b z hl,gJ⟩,fun b o _ hl=>⟨by simpa using glb b o iH [] (by simpa using hl) (.inl rfl),rfl⟩,fun b hl=>by simpa using gow b [] (by simpa using hl)⟩ u
   (xG.mono (fun _ _=>False.elim) u eC) bN
 have tk:Upd G w G' w d g:=⟨fun z h=>ghd0 d z (fun h2=>h h2.2.1),fun z h=>gad0 d z (fun h2=>h h2.2.1),fun b o f z h1 _=>⟨glb0 b o f d z h1 (fun h2=>hH h2.1),rfl⟩,fun b z h1 _=>gow0 b d z h1 (fun h2=>hH h2.1),gJ⟩;have ax:∀b o,Loc G w d v0 g b o→Loc G' w d u g b o:=by intro b o h1;obtain⟨h2,h3,h4⟩:=vK tj h1;have h5:G'.ad d g=⟨b,o,iG⟩∧G'.lb b o=iF (iI,d,g)∧yU w b o=iF (G'.hd d g):=⟨(gad0 d g (fun h=>h.2.2 rfl)).trans h2,glb0 b o iI d g h3 (fun h=>hH h.1),by rw[h4,ghd0 d g (fun h=>h.2.2 rfl)]⟩;cases u<;>simp[T.single]at hu<;>simpa only[Loc]using h5
 have aT:R Γ.St G' w d (td.set g.reverse u) []:=
  zGy g.reverse td u v0 [] (by rw[cQ];exact tk) d2 hg (by rw[zG2 tj,zG2 hu]) (gy.keepR (zAz td d3 b5)) (by rw[cQ];exact ax) (by rw[cQ];exact hud)
 have hVd:mkV G' d (td.set g.reverse u) []=mkV G d td []:=
  zKz g.reverse td u v0 [] hg tj hu (fun z hz=>ghd0 d z (fun h2=>h2.2.2 (by rw[cQ]at hz;exact hz h2.2.1))) fI
 have hRr:p≠[]→R Γ.St G' w r (tr.set p.reverse .any) []:=by intro bR;refine zGy p.reverse tr .any u [] (by rw[cQ];exact⟨fun z _=>ghd0 r z (fun h2=>hH h2.1.symm),fun z _=>gad0 r z (fun h2=>hH h2.1.symm),fun b o f z h1 h=>⟨glb0 b o f r z h1 (fun h2=>h h2.2.1),rfl⟩,fun b z h1 h=>gow0 b r z h1 (fun h2=>h h2.2),gJ⟩) r2 hp (by cases u<;>simp[T.single]at hu<;>simp[T.size]) (gy.keepR (zAz tr r3 m7)) ?_ (by simp only[R]);rw[cQ];intro b o h1;obtain⟨h2,h3,h4⟩:=vK hu h1;simp only[Loc];exact⟨(gad0 r p (fun h=>hH h.1.symm)).trans h2,glb0 b o iI r p h3 (by simp),by rw[h4,ghd0 r p (fun h=>hH h.1.symm)]⟩
 have hVr:p≠[]→mkV G' r (tr.set p.reverse .any) []=mkV G r tr []:=fun _=>
  zKz p.reverse tr .any u [] hp hu rfl (fun z _=>ghd0 r z (fun h2=>hH h2.1.symm)) fH
 refine⟨vS g9 rfl gy gp ?_ ?_,ghd0⟩
 ·intro s hs
  simp only[Wr.find]at hs;split at hs
  ·cases hs
  ·rename_i h1
   split at hs
   ·cases hs
   ·rename_i h2
    refine⟨fun n hn=>?_,rfl⟩;simp only[J7,Jba.injEq,Ut,or_false]at hn;rcases hn with⟨e,_⟩|⟨e,_⟩
    ·exact h1 e.symm
    ·exact h2 e.symm
 ·intro s t hs
  simp only[Wr.find]at hs;split at hs
  ·rename_i he
   subst he;simp at hs;subst hs;exact⟨by rw[d1,hVd],aT,zEM _ _ _ d3 eC⟩
  ·split at hs
   ·rename_i he
    subst he;simp at hs
    by_cases bR:p=[]
    ·rw[if_pos bR]at hs
     subst hs;subst bR;simp[T.get]at hp;subst hp;refine⟨?_,?_,by simp[Top]⟩
     ·rw[r1,xU hu,xU rfl,ghd0 r [] (fun h=>hH h.1.symm)]
     ·simp only[R]
      rw[ghd0 r [] (fun h=>hH h.1.symm)];have:=ghd [];simpa using this.symm
    ·rw[if_neg bR]at hs
     subst hs;exact⟨by rw[r1,hVr bR],hRr bR,zEM _ _ _ r3 (by simp[yE,xG])⟩
   ·cases hs
theorem zOc{w:World}(h:Sim Γ E a w)(d:Nat)(g:List Nat)(r:Nat)(p:List Nat)(td tr u:T)(hd:E d=iF td)(hg:td.get g.reverse=iF (.same r p))(hr:E r=iF tr)
  (hp:tr.get p.reverse=iF u)(hu:u.single=iH)(eC:yE u)(hH:d≠r)(b5:td.okB [(d,g.length+1),(r,p.length+1)]=iH)(m7:tr.okB [(d,g.length+1),(r,p.length+1)]=iH)(fI:xN td=iH)(fH:xN tr=iH):
  Sim Γ (E.app [(d,iF (td.set g.reverse u)),(r,iF (if p=[]then .same d g else tr.set p.reverse .any))] [(d,g.length+1),(r,p.length+1)]) a w:=by
 obtain⟨gL,G,g9⟩:=h;have gY:=(zAE g.reverse td _ [] (g9.ent d td hd).2.1 hg).1;simp only[rp,Kh,Jf,R]at gY;exact⟨gL,_,(zEj g9 d g r p td tr u _ hd hg rfl gY hr hp hu eC hH b5 m7 fI fH).1⟩
theorem zK0{St:Stb}{G:Gh}{w:World}{s:Nat}{k:Nat}:(xs:List T)→ ∀(p:List Nat)(j b o:Nat),(∀i x,xs[i]? =iF x→Loc G w s x ((j+i)::p) b (o+i*k)∧x.size=k∧R St G w s x ((j+i)::p))→RL St G w s xs p j b o k
 | [],_,_,_,_,_=>by simp only[RL]
 |x::xs,p,j,b,o,h=>by
  obtain⟨h1,h2,h3⟩:=h 0 x (by simp);simp only[RL];refine⟨by grind,by omega,zK0 xs p (j+1) b (o+k) (fun i y hy=>?_)⟩;have:=h (i+1) y (by grind)
  grind
theorem zAH{St:Stb}{G:Gh}{w:World}{s:Nat}{k:Nat}:(xs:List T)→ ∀(p:List Nat)(j b o:Nat),RL St G w s xs p j b o k→vR G w s xs p j b o
 | [],_,_,_,_,_=>by simp only[vR]
 |x::xs,p,j,b,o,h=>by simp only[RL]at h;simp only[vR];exact⟨h.1.1,zAH xs p (j+1) b (o+x.size) (by rw[h.1.2];exact h.2.2)⟩
theorem zB3{St:Stb}{G:Gh}{w:World}{s:Nat}{k:Nat}:(xs:List T)→ ∀(p:List Nat)(j b o:Nat),RL St G w s xs p j b o k→RF St G w s xs p j∧ ∀x∈xs,x.size=k
 | [],_,_,_,_,_=>by simp[RF]
 |x::xs,p,j,b,o,h=>by simp only[RL]at h;obtain⟨h1,h2⟩:=zB3 xs p (j+1) b (o+k) h.2.2;exact⟨by simp only[RF];grind,by grind⟩
section
variable {G:Gh}{w:World}{G':Gh}{w':World}{s s':Nat}
mutual
theorem zHy:(t:T)→ ∀(p p':List Nat)(b o:Nat),(∀z,G'.hd s' (z++p')=G.hd s (z++p))→(∀z,G'.ad s' (z++p')=G.ad s (z++p))→
  (∀b o z,G.lb b o=iF (iI,s,z++p)→G'.lb b o=iF (iI,s',z++p')∧yU w' b o=yU w b o)→Loc G w s t p b o→Loc G' w' s' t p' b o
 |.agg xs,p,p',b,o,hh,ha,hl,h=>by
  simp only[Loc]at h ⊢
  exact⟨by have:=ha [];grind,zJ2 xs p p' 0 b o hh ha hl h.2⟩
 |.any,p,p',b,o,hh,ha,hl,h|.lit _,p,p',b,o,hh,ha,hl,h|.ro _,p,p',b,o,hh,ha,hl,h|.same _ _,p,p',b,o,hh,ha,hl,h|.addr _ _,p,p',b,o,hh,ha,hl,h|.sub _ _ _ _ _,p,p',b,o,hh,ha,hl,h|.sl _ _,p,p',b,o,hh,ha,hl,h|.ptr _,p,p',b,o,hh,ha,hl,h=>by
  simp only[Loc]at h ⊢
  have h1:=hl b o [] (by grind)
  grind
 |.tup _,_,_,_,_,_,_,_,h=>by simp only[Loc]at h
theorem zJ2:(xs:List T)→ ∀(p p':List Nat)(j b o:Nat),(∀z,G'.hd s' (z++p')=G.hd s (z++p))→(∀z,G'.ad s' (z++p')=G.ad s (z++p))→
  (∀b o z,G.lb b o=iF (iI,s,z++p)→G'.lb b o=iF (iI,s',z++p')∧yU w' b o=yU w b o)→vR G w s xs p j b o→vR G' w' s' xs p' j b o
 | [],_,_,_,_,_,_,_,_,_=>by simp only[vR]
 |x::xs,p,p',j,b,o,hh,ha,hl,h=>by
  simp only[vR]at h ⊢
  exact⟨zHy x (j::p) (j::p') b o (fun z=>by have:=hh (z++[j]);grind) (fun z=>by have:=ha (z++[j]);grind) (fun b o z hz=>by have:=hl b o (z++[j]) (by grind);grind) h.1,
   zJ2 xs p p' (j+1) b _ hh ha hl h.2⟩
end
end
theorem zEN(G:Gh)(s:Nat):∀(xs us:List T)(p:List Nat)(j:Nat),yJ G s (xs++us) p j=yJ G s xs p j++yJ G s us p (j+xs.length)
 | [],us,p,j=>by rfl
 |x::xs,us,p,j=>by simp[yJ,zEN G s xs us p (j+1),Qd,Nat.add_comm 1]
theorem zEO:∀(xs us:List T),T.sizes (xs++us)=T.sizes xs+T.sizes us
 | [],us=>by simp[T.sizes]
 |x::xs,us=>by simp[T.sizes,zEO xs us,Qd]
theorem zDO:∀(xs us:List T),yX xs=iH→yX us=iH→yX (xs++us)=iH
 | [],us,_,h=>h
 |x::xs,us,h,h'=>by
  simp only[yX,J2,K5]at h ⊢
  exact⟨h.1,zDO xs us h.2 h'⟩
theorem zDP:∀(xs us:List T),xT xs→xT us→xT (xs++us)
 | [],us,_,h=>h
 |x::xs,us,h,h'=>by
  simp only[xT,wC,K5]at h ⊢
  exact⟨h.1,zDP xs us h.2 h'⟩
theorem kY{St:Stb}{G:Gh}{w:World}{s:Nat}{k:Nat}:(xs:List T)→ ∀(p:List Nat)(j b o:Nat),vR G w s xs p j b o→yX xs=iH
 | [],_,_,_,_,_=>rfl
 |x::xs,p,j,b,o,h=>by simp only[vR]at h;simp only[yX,J2];exact⟨one x (j::p) b o h.1,kY (St:=St) (k:=k) xs p (j+1) b _ h.2⟩
where
 one:(t:T)→ ∀(p:List Nat)(b o:Nat),Loc G w s t p b o→t.okTup=iH
  |.agg xs,p,b,o,h=>by simp only[Loc]at h;simp only[T.okTup];exact kY (St:=St) (k:=k) xs p 0 b o h.2
  |.tup _,_,_,_,h=>by simp only[Loc]at h
  |.any,_,_,_,_|.lit _,_,_,_,_|.ro _,_,_,_,_|.same _ _,_,_,_,_|.addr _ _,_,_,_,_|.sub _ _ _ _ _,_,_,_,_|.sl _ _,_,_,_,_|.ptr _,_,_,_,_=>rfl
section
variable {P:Program}
structure zHz (P:Program) (t2:TypeId) (e:TypeId) (ti:TypeInfo) (xv:Value) (m:Nat) (nv:List Value) (w:World):Prop where
 arg:(∃e2 xa c,P.underlying t2=iF (.slice e2)∧xv=.slice xa m c∧ ∀w2:World,w2.heap=w.heap→(Builtin.firstCells ti.size m (.slice xa m c)).run P w2=.ok nv.toArray w2)∨
  ∃k2 k3 z,P.underlying t2=iF (.int k2)∧xv=.int k3 (m:Int)∧ti.zero=iF z∧nv.toArray=Builtin.zeroCells z.cells m∧m*ti.bytes≤2 ^ 47∧z.cells.size=ti.size
theorem zEP{t:TypeId}{m:Nat}{nv:List Value}{w:World}(ht:P.underlying t=iF (.slice e))(hi:P.info? e=iF ti)
  (hx:zHz P t2 e ti xv m nv w)(hm:m≤68719476736){base:Option Addr}{cap:Nat}(ef:n+m≤cap)
  (gF:(if let iF a:=base then storeCells (a.add (n*ti.size)) nv else pure ():Sem Unit).run P w=.ok () w'):
  (Builtin.append_ #[t,t2] ty #[.slice base n cap,xv]).run P w=.ok (.slice base (n+m) cap) w':=by
 rcases hx.arg with⟨e2,xa,c,h1,rfl,h2⟩|⟨k2,k3,z,h1,rfl,h2,h3,h4,h5⟩
 ·have h2:=h2 w rfl
  cases base with
  |none=>
   simp at gF;subst gF;simp[Builtin.append_,run_underlying ht,run_underlying h1,sizeOf,typeInfo,hi,Builtin.lenOf,ef,h2]
  |some a=>
   simp only at gF;simp[Builtin.append_,run_underlying ht,run_underlying h1,sizeOf,typeInfo,hi,Builtin.lenOf,ef,h2,gF]
 ·have mF:IntKind.i64.wrap (m:Int)=m:=by grind[IntKind.wrap_i64]
  have bG:¬(281474976710656<(m:Int)*(ti.bytes:Int)):=by omega
  have cr:¬((m:Int)<0):=by omega
  have d9:nv=(Builtin.zeroCells z.cells m).toList:=by rw[←h3]
  by_cases hz:m*ti.size=0
  ·have b6:nv=[]:=by
    grind[Builtin.zeroCells]
   subst b6;cases base with
   |none=>
    simp at gF;subst gF;simp[Builtin.append_,run_underlying ht,run_underlying h1,sizeOf,typeInfo,hi,asInt,asIntOf,mF,bG,cr,ef,hz]
   |some a=>
    simp only[storeCells,Sem.run_pure]at gF;cases gF;simp[Builtin.append_,run_underlying ht,run_underlying h1,sizeOf,typeInfo,hi,asInt,asIntOf,mF,bG,cr,ef,hz,storeCells]
  ·cases base with
   |none=>
    simp at gF;subst gF;simp[Builtin.append_,run_underlying ht,run_underlying h1,sizeOf,typeInfo,zeroValue,hi,h2,asInt,asIntOf,mF,bG,cr,ef]
   |some a=>
    simp only[d9]at gF;simp[Builtin.append_,run_underlying ht,run_underlying h1,sizeOf,typeInfo,zeroValue,hi,h2,asInt,asIntOf,mF,bG,cr,ef,hz,gF]
theorem zK1{t:TypeId}{m:Nat}{nv olds:List Value}{w:World}(ht:P.underlying t=iF (.slice e))(hi:P.info? e=iF ti)(hz:ti.zero=iF z)
  (hx:zHz P t2 e ti xv m nv w){base:Option Addr}{cap:Nat}(gZ:cap<n+m)(pA:n+m≤68719476736)(hb:ti.bytes≤2048)
  (gG:∀w2:World,w2.heap=w.heap→(Builtin.firstCells ti.size n (.slice base n cap)).run P w2=.ok olds.toArray w2):
  (Builtin.append_ #[t,t2] ty #[.slice base n cap,xv]).run P w=.ok (.slice (iF ⟨w.heap.size,0,iG⟩) (n+m) (grownCap w (n+m) cap e))
    (w.drew.alloc (.cells ((olds++nv).toArray++Builtin.zeroCells z.cells (grownCap w (n+m) cap e-(n+m))) e)):=by
 have hn:¬(n+m≤cap):=by omega
 have bE:¬(9223372036854775807<((n:Int)+(m:Int))):=by omega
 have ii:=growslice_fits (need:=n+m) (old:=cap) (bytes:=ti.bytes) gZ (H2 (Jm pA hb) (by decide));have bF:¬(281474976710656<Builtin.nextslicecap (n+m) cap*ti.bytes):=by omega
 have ho:=gG w.drew rfl;rcases hx.arg with⟨e2,xa,c,h1,rfl,h2⟩|⟨k2,k3,z',h1,rfl,h2,h3,h4,h5⟩
 ·have h2:=h2 w.drew rfl
  simp[Builtin.append_,run_underlying ht,run_underlying h1,sizeOf,typeInfo,zeroValue,hi,hz,Builtin.lenOf,hn,bE,bF,Question.forced,h2,ho,newRow,grownCap]
  grind
 ·have mF:IntKind.i64.wrap (m:Int)=m:=by grind[IntKind.wrap_i64]
  have bG:¬(281474976710656<(m:Int)*(ti.bytes:Int)):=by omega
  have cr:¬((m:Int)<0):=by omega
  have d9:nv=(Builtin.zeroCells z'.cells m).toList:=by rw[←h3]
  rw[hz]at h2;simp at h2;subst h2
  by_cases mD:m*ti.size=0
  ·have b6:nv=[]:=by
    grind[Builtin.zeroCells]
   subst b6;simp[Builtin.append_,run_underlying ht,run_underlying h1,sizeOf,typeInfo,zeroValue,hi,hz,asInt,asIntOf,mF,bG,cr,hn,bE,bF,Question.forced,mD,ho,newRow,grownCap]
  ·simp[Builtin.append_,run_underlying ht,run_underlying h1,sizeOf,typeInfo,zeroValue,hi,hz,asInt,asIntOf,mF,bG,cr,hn,bE,bF,Question.forced,mD,ho,newRow,grownCap,←h3]
   grind
end
def zEk(s0:Nat)(y:Option Nat)(n:Nat)(s:Nat)(z:List Nat):Option (List Nat):=
 if s=s0 then iF z else if y=iF s then(match z.getLast? with
  |some j=>iF (z.dropLast++[n+j])
  |none=>iG)else iG
def Gh.ip(G:Gh)(d s0:Nat)(y:Option Nat)(b n k:Nat)(us:List T)(f2:Nat→List Nat→Value)(hH:Value):Gh where
 hd s z:=if s=d then(match z.getLast? with
  |some i=>if i<n then G.hd s0 z else f2 (i-n) z.dropLast
  |none=>hH)else G.hd s z
 ad s z:=if s=d then(match z.getLast? with
  |some i=>if i<n then G.ad s0 z else if(T.agg us).inT ((i-n)::z.dropLast.reverse)then⟨b,n*k+(T.agg us).offT ((i-n)::z.dropLast.reverse),iG⟩else(match y with
   |some y=>G.ad y (z.dropLast++[i-n])
   |none=>default)
  |none=>default)else G.ad s z
 lb b' o:=if b'=b∧n*k≤o∧o<n*k+us.length*k then(match zCA us [] n (o-n*k)with
  |some p=>iF (iI,d,p)
  |none=>iG)else match G.lb b' o with
  |some (fl,s,z)=>(match zEk s0 y n s z with
   |some z'=>iF (fl,d,z')
   |none=>iF (fl,s,z))
  |none=>iG
 ow b':=match G.ow b' with
  |some (s,z)=>(match zEk s0 y n s z with
   |some z'=>iF (d,z')
   |none=>iF (s,z))
  |none=>iG
def aWr(d s0:Nat)(y:Option Nat)(k:Nat)(ts:List T):Wr:=(d,iF (.sl k ts))::(s0,iF .any)::(match y with
 |some y=>[(y,iF .any)]
 |none=>[])
def zBo(d s0:Nat)(y:Option Nat):Chg:=(d,0)::(s0,1)::(match y with
 |some y=>[(y,1)]
 |none=>[])
structure zH0 (Γ:Ctx) (E:Env) (G:Gh) (d s0:Nat) (y:Option Nat) (k n:Nat) (us:List T) (f2:Nat→List Nat→Value) (nv:List Value):Prop where
 size:∀u∈us,u.size=k
 tup:yX us=iH
 clean:xT us
 one:∀j z,(f2 j z).oneCell'=iH
 len:nv.length=us.length*k
 slot:∀y',y=iF y'→y'≠d∧y'≠s0∧E y'=iF (.sl k us)∧ ∀j z,f2 j z=G.hd y' (z++[j])
 none:y=iG→ ∀(j:Nat) u,us[j]? =iF u→ ∀(G2:Gh)(w2:World),(∀z,G2.hd d (z++[n+j])=f2 j z)→R Γ.St G2 w2 d u [n+j]
 vals:∀(G2:Gh),(∀j z,G2.hd d (z++[n+j])=f2 j z)→ ∀(o:Nat)(v:Value),(yJ G2 d us [] n)[o]? =iF v→nv[o]? =iF v
theorem zLO{G G2:Gh}{s d:Nat}:(xs:List T)→ ∀(p:List Nat)(j:Nat),(∀i,i<xs.length→ ∀z,G2.hd d (z++((j+i)::p))=G.hd s (z++((j+i)::p)))→yJ G2 d xs p j=yJ G s xs p j
 | [],_,_,_=>by rfl
 |x::xs,p,j,h=>by
  simp only[yJ];have ih:yJ G2 d xs p (j+1)=yJ G s xs p (j+1):=zLO xs p (j+1) (fun i hi z=>by
   rw[show j+1+i=j+(i+1)from by omega]
   simp_all)
  rw[zAU x (j::p) (j::p) (by simpa using h 0 (by simp)),ih]
theorem zJd(z:List Nat):z=[]∨ ∃y i,z=y++[i]:=by
 rcases List.eq_nil_or_concat z with h|⟨y,i,h⟩
 all_goals grind
section
variable {P:Program}{Γ:Ctx}{E:Env}{d:Nat}
theorem zBU{w:World}(g9:Rep Γ E G a.tmps w)(hd:d<Γ.N){t:TypeId}(ht:P.underlying t=iF (.slice e))(hi:P.info? e=iF ti)(hz:ti.zero=iF z)
  (hk:ti.size=k)(_hk0:0<k)(fZ:z.cells.size=k)(hb:ti.bytes≤2048){s0:Nat}{y:Option Nat}{us:List T}{f2:Nat→List Nat→Value}{nv:List Value}(ex:E s0=iF (.sl k xs))(fP:s0≠d)
  (hn:zH0 Γ E G d s0 y k xs.length us f2 nv)(hx:zHz P t2 e ti xv us.length nv w)(gx:∀v∈nv,v.oneCell'=iH)(pA:xs.length+us.length≤68719476736):
  ∃v w',(Builtin.append_ #[t,t2] ty #[G.hd s0 [],xv]).run P w=.ok v w'∧ ∃G',Rep Γ (E.app (aWr d s0 y k (xs++us)) (zBo d s0 y)) G' (a.tmps.setIfInBounds d v) w':=by
 have hm:=g9.mem;obtain⟨e1,e2,e3⟩:=g9.ent s0 _ ex;simp only[Top]at e3;simp only[R]at e2;have dE:T.sizes us=us.length*k:=wZ us hn.size;have fin:∀(G':Gh)(w':World)(v:Value),jF (zBo d s0 y) G w G' w'→Mem Γ G' w'→G'.hd d []=v→R Γ.St G' w' d (.sl k (xs++us)) []→(∀s p,s≠d→G'.hd s p=G.hd s p)→
   Rep Γ (E.app (aWr d s0 y k (xs++us)) (zBo d s0 y)) G' (a.tmps.setIfInBounds d v) w':=by
  intro G' w' v gy gp ik aT hother;refine vS g9 (by simp) gy gp ?_ ?_
  ·intro s hs
   have gg:s≠d:=by rintro rfl;simp[aWr,Wr.find]at hs
   have ao:s≠s0:=by rintro rfl;simp[aWr,Wr.find,gg.symm]at hs
   have hney:∀y',y=iF y'→s≠y':=by
    rintro y' rfl rfl
    grind[aWr,Wr.find]
   refine⟨fun n' hn'=>?_,by grind⟩;simp only[zBo,J7,Jba.injEq]at hn'
   grind
  ·intro s t' hs
   by_cases h1:s=d
   ·subst h1
    simp[aWr,Wr.find]at hs;subst hs;refine⟨?_,aT,by simp only[Top];exact zDP xs us e3 hn.clean⟩;rw[Jp];simp[g9.size,hd,mkV,ik]
   ·have h3:t'=.any∧(s=s0∨y=iF s):=by
     simp only[aWr,Wr.find]at hs;rw[if_neg (fun h=>h1 h.symm)]at hs
     grind[Wr.find]
    obtain⟨rfl,h3⟩:=h3;refine⟨?_,by simp only[R],by simp[Top]⟩;rw[Jp];simp only[Ne.symm h1,if_false,mkV];rw[hother s [] h1];rcases h3 with rfl|h3
    ·exact e1
    ·obtain⟨_,_,h4,_⟩:=hn.slot s h3
     exact(g9.ent s _ h4).1
 have mr:∀s p,(∀n',(s,n')∉zBo d s0 y)→zEk s0 y xs.length s p=iG:=by
  intro s p h;have h1:s≠s0:=fun e=>h 1 (by simp[zBo,e])
  grind[zBo,zEk]
 by_cases ef:∃a' c,G.hd s0 []=.slice a' xs.length c∧xs.length+us.length≤c
 ·
  obtain⟨a',c,hh,ef⟩:=ef;rcases e2 with⟨rfl,a1,h1⟩|⟨b,cap,cs,et,h1,h2,h3,h4,h5,h6,h7,h8⟩
  ·rw[h1]at hh
   simp at hh;obtain⟨rfl,rfl⟩:=hh;have cN:us=[]:=by grind
   subst cN;have d9:nv=[]:=Ly (by have:=hn.len;grind);subst d9;have gA:=zEP (P:=P) (t:=t) (ty:=ty) (w':=w) ht hi hx (by simp) (base:=a1) (n:=0) (cap:=0) (by simp) (by cases a1<;>rfl);refine⟨.slice a1 0 0,w,by grind,G.put d (fun _=>.slice a1 0 0),fin _ w _ ?_ (hm.put rfl d _ (fun _=>rfl)) (by rw[Gh.put_self]) (by simp[R,Gh.put]) (fun s p h=>G.put_other _ p h)⟩;have:=G.put_keep (w:=w) (w':=w) rfl d (fun _=>.slice a1 0 0);exact⟨fun s p h=>this.hd s p (fun n hn=>h n (by simp at hn;simp[zBo,hn])),fun s p h=>rfl,fun b o f s p h0 h1 h2=>this.lb b o f s p h0 h1 (fun n hn=>h2 n (by simp at hn;simp[zBo,hn])),fun b s p h1 h2=>this.ow b s p h1 (fun n hn=>h2 n (by simp at hn;simp[zBo,hn])),this.blk⟩
  ·rw[h1]at hh
   simp at hh;obtain⟨rfl,rfl⟩:=hh;have uw:us.length*k+xs.length*k≤cap*k:=by rw[←Ua];exact K6 _ (by omega)
   have hmk:us.length*k+xs.length*k≤cs.size:=H2 uw h5
   generalize eL:w.setRow b (cs.toList.take (xs.length*k)++nv++cs.toList.drop (xs.length*k+nv.length)).toArray=w'
   have eJ:w'.heap[b]? =iF (.cells (cs.toList.take (xs.length*k)++nv++cs.toList.drop (xs.length*k+nv.length)).toArray et (0,0)):=by grind[setRow_heap]
   have gG:∀b',b'≠b→w'.heap[b']? =w.heap[b']?:=by grind[setRow_other]
   have gP:w'.heap.size=w.heap.size:=by grind[size_setRow]
   have hcsl:cs.toList.length=cs.size:=rfl;have pB:=hn.len;have fy:∀i,yU w' b i=if xs.length*k≤i∧i<xs.length*k+us.length*k then nv[i-xs.length*k]? else yU w b i:=by
    intro i;simp only[yU,World.cell?,eJ,h2,Uj,Ho,if_false];rw[←Ky,←Ky (xs:=cs)];simp only[]
    by_cases g1:i<xs.length*k
    ·grind
    ·by_cases g2:i<xs.length*k+us.length*k
     ·grind
     ·rw[if_neg (by omega),Jj,Jk (by simp;omega),Jk (by simp;omega),Hq]
      grind
   have gO:∀b' o fl s p,G.lb b' o=iF (fl,s,p)→(fl,s,p)≠(iH,s0,[])→ ¬(b'=b∧xs.length*k≤o∧o<xs.length*k+us.length*k):=by grind
   have fW:∀b' o,¬(b'=b∧xs.length*k≤o∧o<xs.length*k+us.length*k)→yU w' b' o=yU w b' o:=by
    intro b' o g
    by_cases f9:b'=b
    ·grind
    grind[yU,World.cell?]
   have um:((cs.toList.take (xs.length*k)++nv++cs.toList.drop (xs.length*k+nv.length)).toArray).size=cs.size:=by simp;omega
   have eu:Blk w w':=by
    intro b' cs' e' g1
    grind
   generalize gu:G.ip d s0 y b xs.length k us f2 (.slice (iF ⟨b,0,iG⟩) (xs.length+us.length) cap)=G'
   have ghdr:G'.hd d []=.slice (iF ⟨b,0,iG⟩) (xs.length+us.length) cap:=by grind[Gh.ip]
   have ghd1:∀i z,i<xs.length→G'.hd d (z++[i])=G.hd s0 (z++[i]):=by grind[Gh.ip]
   have ghd2:∀j z,G'.hd d (z++[xs.length+j])=f2 j z:=fun j z=>by rw[←gu];simp[Gh.ip,show¬xs.length+j<xs.length from by omega]
   have ghd0:∀s z,s≠d→G'.hd s z=G.hd s z:=by grind[Gh.ip]
   have gad0:∀s z,s≠d→G'.ad s z=G.ad s z:=by grind[Gh.ip]
   have gad1:∀i z,i<xs.length→G'.ad d (z++[i])=G.ad s0 (z++[i]):=by grind[Gh.ip]
   have gad2:∀j f,(T.agg us).inT (j::f)=iH→G'.ad d (f.reverse++[xs.length+j])=⟨b,xs.length*k+(T.agg us).offT (j::f),iG⟩:=fun j f g=>by rw[←gu];simp[Gh.ip,g,show¬xs.length+j<xs.length from by omega]
   have gad3:∀y' j z,y=iF y'→(T.agg us).inT (j::z.reverse)=iI→G'.ad d (z++[xs.length+j])=G.ad y' (z++[j]):=fun y' j z g1 g2=>by rw[←gu];simp[Gh.ip,g1,g2,show¬xs.length+j<xs.length from by omega]
   have glb2:∀i p,i<us.length*k→zCA us [] xs.length i=iF p→G'.lb b (xs.length*k+i)=iF (iI,d,p):=fun i p g1 g2=>by rw[←gu];simp only[Gh.ip];grind
   have glb0:∀b' o fl s p,G.lb b' o=iF (fl,s,p)→ ¬(b'=b∧xs.length*k≤o∧o<xs.length*k+us.length*k)→zEk s0 y xs.length s p=iG→G'.lb b' o=iF (fl,s,p):=fun b' o fl s p g1 g2 g3=>by rw[←gu];simp only[Gh.ip];grind
   have glb1:∀b' o fl s p p',G.lb b' o=iF (fl,s,p)→ ¬(b'=b∧xs.length*k≤o∧o<xs.length*k+us.length*k)→zEk s0 y xs.length s p=iF p'→G'.lb b' o=iF (fl,d,p'):=fun b' o fl s p p' g1 g2 g3=>by rw[←gu];simp only[Gh.ip];grind
   have gow0:∀b' s p,G.ow b'=iF (s,p)→zEk s0 y xs.length s p=iG→G'.ow b'=iF (s,p):=by grind[Gh.ip]
   have gow1:∀b' s p p',G.ow b'=iF (s,p)→zEk s0 y xs.length s p=iF p'→G'.ow b'=iF (d,p'):=by grind[Gh.ip]
   have hphis:∀p,zEk s0 y xs.length s0 p=iF p:=by grind[zEk]
   have ag:∀y' z j,y=iF y'→y'≠s0→zEk s0 y xs.length y' (z++[j])=iF (z++[xs.length+j]):=fun y' z j g1 g2=>by simp[zEk,g1,g2]
   have gg:∀s p,Off (zBo d s0 y) s p→s≠d:=fun s p h e=>absurd (h 0 (by simp[zBo,e])) (by simp)
   have gy:jF (zBo d s0 y) G w G' w':=by
    refine⟨by grind,by grind,fun b' o fl s p _ g1 g2=>?_,by grind,eu⟩;have hs:s≠s0:=fun e=>g2 1 (by simp[zBo,e])
    have g3:=gO b' o fl s p g1 (by simp[hs]);exact⟨glb0 b' o fl s p g1 g3 (mr s p g2),fW b' o g3⟩
   have aV:=hm.ow b _ h6;have gp:Mem Γ G' w':=by
    refine⟨fun s z=>?_,fun b' o' l hl=>?_,fun b' l hl=>?_,fun b' x' hx'=>?_,fun b' g1 g2=>?_,by rw[gP];exact hm.sz,hm.bk.trans eu (by rw[←eL];rfl) (by rw[←eL];rfl)⟩
    ·by_cases g:s=d
     ·subst g
      rcases zJd z with rfl|⟨z',i,rfl⟩
      ·rw[ghdr];rfl
      ·by_cases g1:i<xs.length
       ·rw[ghd1 i z' g1];exact hm.one _ _
       ·have:=ghd2 (i-xs.length) z'
        rw[show xs.length+(i-xs.length)=i from by omega]at this;rw[this];exact hn.one _ _
     ·rw[ghd0 s z g];exact hm.one _ _
    ·have:zC7 Γ w b':=by
      rw[←gu]at hl;simp only[Gh.ip]at hl;split at hl
      ·grind
      ·split at hl
       ·rename_i g;exact hm.lb _ _ _ g
       ·cases hl
     exact⟨by rw[gP];exact this.1,this.2⟩
    ·have:zC7 Γ w b':=by
      rw[←gu]at hl;simp only[Gh.ip]at hl;split at hl
      ·rename_i g;exact hm.ow _ _ g
      ·cases hl
     exact⟨by rw[gP];exact this.1,this.2⟩
    ·have f9:b'≠b:=by rintro rfl;rw[aV.2.2]at hx';cases hx'
     rw[gG b' f9];exact hm.st b' x' hx'
    ·have f9:b'≠b:=by
      rintro rfl
      rcases aV.2.1 with g3|g3
      all_goals grind
     rw[gG b' f9];exact hm.fr b' g1 g2
   have b9:vR G' w' d us [] xs.length b (xs.length*k):=by
    refine zGS us [] xs.length b (xs.length*k) hn.tup (fun i x hx' f hf=>?_) (by grind) (fun i v hv=>?_)
    ·grind[T.inT,T.offT]
    ·have g1:=hn.vals G' ghd2 i v hv
     have g2:=(Jv.1 g1).1;rw[fy,if_pos (by omega),show xs.length*k+i-xs.length*k=i from by omega];exact g1
   have aT:R Γ.St G' w' d (.sl k (xs++us)) []:=by
    simp only[R];rw[ghdr];refine .inr ⟨b,cap,_,et,by simp,eJ,by simp;omega,h4,by omega,by grind,?_,zK0 _ _ _ _ _ (fun i x hx'=>?_)⟩
    ·grind[Ua]
    ·rw[Ki]at hx'
     simp only[Ja];split at hx'
     ·rename_i gH
      obtain⟨g1,g2,g3⟩:=kH xs [] 0 b 0 k i x h8 hx';simp only[Ja]at g1 g3;have bc:∀b' o fl z,G.lb b' o=iF (fl,s0,z++[i])→G'.lb b' o=iF (fl,d,z++[i])∧yU w' b' o=yU w b' o:=fun b' o fl z g=>by
       have g4:=gO b' o fl s0 _ g (by simp)
       grind
      refine⟨zHy x [i] [i] b _ (by grind) (by grind) (by grind) g1,g2,?_⟩;refine zAy (G:=G) (w:=w) (s:=s0) (p:=[i]) ⟨⟨fun z=>ghd1 i z gH,by grind,by grind,by grind,eu⟩,fun b' o _ g=>?_,by grind⟩ x (xG.mono (by simp) x (uR xs e3 i x hx')) g3;have:=bc b' o iH [] (by grind)
      grind
     ·rename_i hge
      obtain⟨j,rfl⟩:∃j,i=xs.length+j:=⟨i-xs.length,by omega⟩;rw[show xs.length+j-xs.length=j from by omega]at hx';have g1:=zC8 us [] xs.length b (xs.length*k) j x b9 hx';rw[show T.sizes (us.take j)=j*k from by rw[wZ _ (fun u hu=>hn.size u (by grind)),Kk,Ud (by grind)],←Ua]at g1
      refine⟨g1,hn.size x (by grind),?_⟩;cases hy:y with
      |none=>exact hn.none hy j x hx' G' w' (fun z=>ghd2 j z)
      |some y'=>
       obtain⟨y1,y2,y3,y4⟩:=hn.slot y' hy;obtain⟨_,y5,_⟩:=g9.ent y' _ y3;simp only[R]at y5;rcases y5 with⟨rfl,_⟩|⟨b2,cap2,cs2,et2,_,_,_,_,_,_,_,y6⟩
       ·simp at hx'
       ·obtain⟨_,_,y7⟩:=kH us [] 0 b2 0 k j x y6 hx'
        simp only[Ja]at y7;refine zLG x [j] [xs.length+j] (zDt.okTups_get us hn.tup j x hx') ⟨by grind,fun z g=>gad3 y' j z hy (by grind[T.inT]),fun b' o fl z _ g=>?_,by grind,eu⟩ (xG.mono (by simp) x (uR us hn.clean j x hx')) y7;have g4:=gO b' o fl y' _ g (by simp[y2]);exact⟨glb1 b' o fl y' _ _ g g4 (ag y' z j hy y2),fW b' o g4⟩
   have gF:=run_storeCells_at P b (xs.length*k) et nv 0 cs w h2 (by omega) gx;simp only[Q6]at gF;rw[eL]at gF;have gA:=zEP (P:=P) (t:=t) (ty:=ty) (w':=w') ht hi hx (by omega) (base:=iF ⟨b,0,iG⟩) ef (by simp only[hk,uW,Ja];exact gF);refine⟨_,w',by grind,G',fin G' w' _ gy gp ghdr aT ghd0⟩
 ·
  have aP:∃a' c,G.hd s0 []=.slice a' xs.length c∧ ∀w2:World,w2.heap=w.heap→(Builtin.firstCells ti.size xs.length (.slice a' xs.length c)).run P w2=.ok (yJ G s0 xs [] 0).toArray w2:=by
   rcases e2 with⟨rfl,a1,h1⟩|⟨b,cap,cs,et,h1,h2,h3,h4,h5,h6,h7,h8⟩
   ·exact⟨a1,0,h1,fun w2 _=>by cases a1<;>simp[Builtin.firstCells,loadCells,loadCellsFrom,yJ]⟩
   ·refine⟨_,_,h1,fun w2 hw2=>?_⟩
    have hl:=zAH xs [] 0 b 0 h8;refine run_firstCells_some (P:=P) w2 ti.size xs.length ⟨b,0,iG⟩ _ _ _ ?_ (fun j v hv=>?_)
    ·rw[wW,hk]
     exact wZ xs (zB3 xs [] 0 b 0 h8).2
    ·have:=zBy xs [] 0 b 0 hl j v hv
     grind[uW,yU,World.cell?]
  obtain⟨a',c,hh,gG⟩:=aP;have fJ:yX xs=iH∧(∀x∈xs,x.size=k)∧ ∀i x,xs[i]? =iF x→R Γ.St G w s0 x [i]:=by
   rcases e2 with⟨rfl,a1,h1⟩|⟨b,cap,cs,et,h1,h2,h3,h4,h5,h6,h7,h8⟩
   ·simp[yX]
   ·refine⟨kY (St:=Γ.St) (k:=k) xs [] 0 b 0 (zAH xs [] 0 b 0 h8),(zB3 xs [] 0 b 0 h8).2,fun i x hx'=>?_⟩
    have:=(kH xs [] 0 b 0 k i x h8 hx').2.2
    grind
  have gZ:c<xs.length+us.length:=by grind
  have gA:=zK1 (P:=P) (t:=t) (ty:=ty) ht hi hz hx gZ pA hb gG;have hge:=grownCap_ge w (xs.length+us.length) c e;have df:=grownCap_le_maxLen w (xs.length+us.length) c e (by grind[maxLen])
  generalize grownCap w (xs.length+us.length) c e=cap' at gA hge df
  generalize eL:w.drew.alloc (.cells ((yJ G s0 xs [] 0++nv).toArray++Builtin.zeroCells z.cells (cap'-(xs.length+us.length))) e)=w' at gA
  have hwh:w'.heap=w.heap.push (.cells ((yJ G s0 xs [] 0++nv).toArray++Builtin.zeroCells z.cells (cap'-(xs.length+us.length))) e):=by rw[←eL];rfl
  have hszxs:T.sizes xs=xs.length*k:=wZ xs fJ.2.1;obtain⟨g1,g2,g3,g4,g5⟩:=zDt hm hwh d (xs++us) (fun i=>if i<xs.length then iF (s0,[i])else y.map fun y'=>(y',[i-xs.length])) (zEk s0 y xs.length) (fun i z=>if i<xs.length then G.hd s0 (z++[i])else f2 (i-xs.length) z) (.slice (iF ⟨w.heap.size,0,iG⟩) (xs.length+us.length) cap') ((zBo d s0 y).tail)
   (zDO xs us fJ.1 hn.tup) (fun i z=>by split;exact hm.one _ _;exact hn.one _ _) rfl
   (fun i u x q z' hu hs=>by
    split at hs
    ·simp at hs;obtain⟨rfl,rfl⟩:=hs;simp[zEk]
    ·rename_i cY
     cases y with
     |none=>simp at hs
     |some y'=>
      simp at hs;obtain⟨rfl,rfl⟩:=hs;have:=(hn.slot y' rfl).2.1;simp[zEk,this,show xs.length+(i-xs.length)=i from by omega])
   (fun i u x q hu hs=>by
    rw[Ki]at hu;split at hs
    ·rename_i gH
     rw[if_pos gH]at hu;simp at hs;obtain⟨rfl,rfl⟩:=hs
     grind[uR]
    ·rename_i cY
     rw[if_neg cY]at hu;cases hy:y with
     |none=>grind
     |some y'=>
      rw[hy]at hs;simp at hs;obtain⟨rfl,rfl⟩:=hs;obtain⟨y1,y2,y3,y4⟩:=hn.slot y' hy;obtain⟨_,y5,_⟩:=g9.ent y' _ y3;simp only[R]at y5;refine⟨by grind,?_,uR us hn.clean _ u hu,y1⟩;rcases y5 with⟨rfl,_⟩|⟨b2,cap2,cs2,et2,_,_,_,_,_,_,_,y6⟩
      ·simp at hu
      ·have:=(kH us [] 0 b2 0 k _ u y6 hu).2.2
       grind)
   (fun i u hu hs G2 w2 fY=>by
    rw[Ki]at hu;split at hs
    ·cases hs
    ·rename_i cY
     rw[if_neg cY]at hu;cases hy:y with
     |some y'=>grind
     |none=>
      have:=hn.none hy (i-xs.length) u hu G2 w2 (fun z'=>by simp_all)
      simp_all)
   (fun G2 fY o v hv=>by
    rw[zEN,Ja]at hv;have h1:yJ G2 d xs [] 0=yJ G s0 xs [] 0:=zLO xs [] 0 (by grind);rw[h1]at hv;have bc:(yJ G s0 xs [] 0).length=xs.length*k:=by grind[wW]
    have aB:(yJ G2 d us [] xs.length).length=us.length*k:=by grind[wW]
    have ho:o<xs.length*k+us.length*k:=by grind
    have pB:=hn.len;rw[Array.getElem?_append_left (by simp;omega),List.getElem?_toArray];rw[Ki]at hv ⊢
    split at hv
    ·grind
    ·rename_i cY;rw[if_neg cY]
     exact hn.vals G2 (by grind) _ v hv)
   (fun s p h=>mr s p (by simpa[zBo]using h)) (ho:=by rw[←eL];rfl) (hq:=by rw[←eL];rfl)
  refine⟨_,w',by rw[hh];exact gA,_,fin _ w' _ (by simpa[zBo]using g1) g2 (by simp[Gh.nb]) ?_ (by grind[Gh.nb])⟩;simp only[R];refine .inr ⟨w.heap.size,cap',_,e,by simp[Gh.nb],g5,by grind,df,?_,by simp[Gh.nb],?_,zSH _ _ _ _ _ (fun x hx'=>?_) g3 g4⟩
  ·have bc:(yJ G s0 xs [] 0).length=xs.length*k:=by grind[wW]
   have pB:=hn.len;simp only[Array.size_append,Jbf,J9,size_zeroCells,fZ,bc,pB,←Ua]
   grind
  ·grind[Ua,Gh.nb,zEg,zEO]
  ·rcases Jd.1 hx' with h|h
   ·grind
   ·exact hn.size x h
end
mutual
def T.flat:T→Bool
 |.lit _|.ro _=>iH
 |.agg xs=>zAI xs
 |.any|.same _ _|.addr _ _|.sub _ _ _ _ _|.sl _ _|.ptr _|.tup _=>iI
def zAI:List T→Bool
 | []=>iH
 |x::xs=>x.flat&&zAI xs
end
section
variable {St:Stb}{G G2:Gh}{w w2:World}{s d:Nat}
mutual
theorem zK2:(t:T)→ ∀(p p':List Nat),t.flat=iH→(∀z,G2.hd d (z++p')=G.hd s (z++p))→R St G w s t p→R St G2 w2 d t p'
 |.lit _,p,p',_,h,hr=>by have:=h [];grind[R]
 |.ro _,p,p',_,h,hr=>by have:=h [];grind[R]
 |.agg xs,p,p',hf,h,hr=>by simp only[R,T.flat]at hr hf ⊢;exact zPF xs p p' 0 hf h hr
 |.any,_,_,hf,_,_|.same _ _,_,_,hf,_,_|.addr _ _,_,_,hf,_,_|.sub _ _ _ _ _,_,_,hf,_,_|.sl _ _,_,_,hf,_,_|.ptr _,_,_,hf,_,_|.tup _,_,_,hf,_,_=>by grind[T.flat]
theorem zPF:(xs:List T)→ ∀(p p':List Nat)(j:Nat),zAI xs=iH→(∀z,G2.hd d (z++p')=G.hd s (z++p))→RF St G w s xs p j→RF St G2 w2 d xs p' j
 | [],_,_,_,_,_,_=>by grind[RF]
 |x::xs,p,p',j,hf,h,hr=>by
  simp only[RF,zAI,J2]at hr hf ⊢
  exact⟨zK2 x (j::p) (j::p') hf.1 (fun z=>by have:=h (z++[j]);grind) hr.1,zPF xs p p' (j+1) hf.2 h hr.2⟩
end
end
mutual
theorem zH1:(t:T)→t.flat=iH→yE t∧t.okTup=iH
 |.lit _,_|.ro _,_=>by simp[yE,xG,T.okTup]
 |.agg xs,h=>by simp only[T.flat]at h;simpa only[yE,xG,T.okTup]using zAf xs h
 |.any,h|.same _ _,h|.addr _ _,h|.sub _ _ _ _ _,h|.sl _ _,h|.ptr _,h|.tup _,h=>by grind[T.flat]
theorem zAf:(xs:List T)→zAI xs=iH→xT xs∧yX xs=iH
 | [],_=>by simp[xT,wC,yX]
 |x::xs,h=>by simp only[zAI,J2]at h;simp only[xT,wC,yX,J2];exact⟨⟨(zH1 x h.1).1,(zAf xs h.2).1⟩,(zH1 x h.1).2,(zAf xs h.2).2⟩
end
theorem zJ3:(xs:List T)→zAI xs=iH→ ∀(i:Nat)(x:T),xs[i]? =iF x→x.flat=iH
 | [],_,_,_,h=>by simp at h
 |y::ys,hk,i,x,h=>by
  simp only[zAI,J2]at hk;cases i with
  |zero=>grind
  |succ i=>exact zJ3 ys hk.2 i x (by grind)
mutual
def zFJ:T→Bool
 |.lit _=>iH
 |.sl _ xs=>zB4 xs
 |.agg xs=>zB4 xs
 |.ptr t=>zFJ t
 |.any|.ro _|.same _ _|.addr _ _|.sub _ _ _ _ _|.tup _=>iI
def zB4:List T→Bool
 | []=>iH
 |x::xs=>zFJ x&&zB4 xs
end
theorem zLP:(ys:List T)→zB4 ys=iH→ ∀u∈ys,∀xs,u≠.tup xs
 | [],_,_,h,_=>by simp at h
 |y::ys,hr,u,h,xs=>by
  simp only[zB4,J2]at hr;rcases J7.1 h with rfl|h
  ·rintro rfl;grind[zFJ]
  ·exact zLP ys hr.2 u h xs
theorem zG3:(ys:List T)→(roT.roTs ys).length=ys.length
 | []=>rfl
 |y::ys=>by simp[roT.roTs,zG3 ys]
theorem zH2{k:Nat}:(ys:List T)→(∀u∈ys,u.size=k)→(∀u∈ys,∀xs,u≠.tup xs)→ ∀u∈roT.roTs ys,u.size=k
 | [],_,_,u,h=>by grind[roT.roTs]
 |y::ys,h1,h2,u,h=>by
  simp only[roT.roTs,J7]at h;rcases h with rfl|h
  ·grind[zEK]
  ·exact zH2 ys (by grind) (by grind) u h
theorem zLQ:(ys:List T)→ ∀(j:Nat)(u:T),(roT.roTs ys)[j]? =iF u→ ∃u0,ys[j]? =iF u0∧u=roT u0
 | [],_,_,h=>by grind[roT.roTs]
 |y::ys,j,u,h=>by
  cases j with
  |zero=>grind[roT.roTs]
  |succ j=>
   obtain⟨u0,h1,h2⟩:=zLQ ys j u (by grind[roT.roTs])
   grind
theorem zPG{St:Stb}{G2:Gh}{d:Nat}:(ys:List T)→ ∀(cs':Array Value)(o' k n:Nat),RoL St ys cs' o' k→(∀u∈ys,u.size=k)→(∀j u,ys[j]? =iF u→ ∀z',G2.hd d (z'++[n+j])=kK (zEf u cs' (o'+j*k) z'.reverse))→
  ∀(i:Nat)(v:Value),(yJ G2 d (roT.roTs ys) [] n)[i]? =iF v→cs'[o'+i]? =iF v
 | [],_,_,_,_,_,_,_,i,v,hv=>by grind[roT.roTs,yJ]
 |y::ys,cs',o',k,n,h,hs,hd,i,v,hv=>by
  simp only[RoL]at h;simp only[roT.roTs,yJ]at hv;have eg:∀xs,y≠.tup xs:=by rintro xs rfl;grind[RoC]
  have hnt':∀xs,roT y≠.tup xs:=fun xs e=>by cases y<;>simp[roT]at e
  have hl:(vals G2 d (roT y) [n]).length=k:=by grind[vN,zEK]
  rw[Ki]at hv;split at hv
  ·exact zHo y cs' o' [n] (fun z'=>by simpa using hd 0 y (by simp) z') h.1 i v hv
  ·have:=zPG ys cs' (o'+k) k (n+1) h.2 (by grind) (fun j u hu z'=>by
    have:=hd (j+1) u (by grind) z'
    grind) _ v hv
   grind
mutual
theorem zRi{G:Gh}(hg:∀s z,(G.hd s z).oneCell'=iH){s:Nat}:(t:T)→ ∀(p:List Nat)(v:Value),v∈vals G s t p→v.oneCell'=iH
 |.agg xs,p,v,h=>by simp only[vals]at h;exact zEl hg xs p 0 v h
 |.any,p,v,h|.lit _,p,v,h|.ro _,p,v,h|.same _ _,p,v,h|.addr _ _,p,v,h|.sub _ _ _ _ _,p,v,h|.sl _ _,p,v,h|.ptr _,p,v,h|.tup _,p,v,h=>by grind[vals]
theorem zEl{G:Gh}(hg:∀s z,(G.hd s z).oneCell'=iH){s:Nat}:(xs:List T)→ ∀(p:List Nat)(j:Nat)(v:Value),v∈yJ G s xs p j→v.oneCell'=iH
 | [],_,_,_,h=>by grind[yJ]
 |x::xs,p,j,v,h=>by
  simp only[yJ,Jd]at h;rcases h with h|h
  ·exact zRi hg x _ v h
  ·exact zEl hg xs p _ v h
end
theorem zCE{G G2:Gh}{s d:Nat}:(us:List T)→ ∀(n j:Nat),(∀i z,G2.hd d (z++[n+i])=G.hd s (z++[j+i]))→yJ G2 d us [] n=yJ G s us [] j
 | [],_,_,_=>by rfl
 |x::xs,n,j,h=>by
  have ih:yJ G2 d xs [] (n+1)=yJ G s xs [] (j+1):=zCE xs (n+1) (j+1) (fun i z=>by rw[show n+1+i=n+(i+1)from by omega,show j+1+i=j+(i+1)from by omega];simp_all)
  simp only[yJ];rw[ih,zAU x [j] [n] (by simpa using h 0)]
theorem zEQ{G G2:Gh}{s d:Nat}:(us:List T)→ ∀(n j:Nat)(q:List Nat),(∀i z,G2.hd d (z++[n+i])=G.hd s (z++((j+i)::q)))→yJ G2 d us [] n=yJ G s us q j
 | [],_,_,_,_=>by rfl
 |x::xs,n,j,q,h=>by
  have ih:yJ G2 d xs [] (n+1)=yJ G s xs q (j+1):=zEQ xs (n+1) (j+1) q (fun i z=>by rw[show n+1+i=n+(i+1)from by omega,show j+1+i=j+(i+1)from by omega];simp_all)
  simp only[yJ];rw[ih,zAU x (j::q) [n] (by simpa using h 0)]
section
variable {P:Program}{Γ:Ctx}{E:Env}{o:Oper}{d:Nat}
theorem zPH{w:World}{us:List T}(h:R St G w r (.sl k us) q){size:Nat}(hk:size=k):
  ∃xa c,G.hd r q=.slice xa us.length c∧ ∀w2:World,w2.heap=w.heap→(Builtin.firstCells size us.length (.slice xa us.length c)).run P w2=.ok (yJ G r us q 0).toArray w2:=by
 simp only[R]at h;rcases h with⟨rfl,a1,h1⟩|⟨b,cap,cs,et,h1,h2,h3,h4,h5,h6,h7,h8⟩
 ·exact⟨a1,0,h1,fun w2 _=>by cases a1<;>simp[Builtin.firstCells,loadCells,loadCellsFrom,yJ]⟩
 ·refine⟨_,_,h1,fun w2 hw2=>?_⟩
  have hl:=zAH us q 0 b 0 h8;refine run_firstCells_some (P:=P) w2 size us.length ⟨b,0,iG⟩ _ _ _ ?_ (fun j v hv=>?_)
  ·rw[wW,hk]
   exact wZ us (zB3 us q 0 b 0 h8).2
  ·have:=zBy us q 0 b 0 hl j v hv
   grind[uW,yU,World.cell?]
theorem zB5{w:World}(g9:Rep Γ E G a.tmps w){t:T}(h:E s=iF t)(ht:t.single=iH):a.eval (.tmp s)=G.hd s []:=by rw[wK (g9.ent s t h).1,xU ht]
theorem zK3(t e:TypeId)(ti:TypeInfo)(z:Value)(k s0 y:Nat)(xs us:List T)(ho:o.op=.call { callee:=.builtin .append,args:=#[.tmp s0,.tmp y],argTypes:=#[t,t] })(gf:o.dst=iF d)(hd:d<Γ.N)
  (ht:P.underlying t=iF (.slice e))(hi:P.info? e=iF ti)(hz:ti.zero=iF z)(hk:ti.size=k)(eR:0<k)(fZ:z.cells.size=k)(hb:ti.bytes≤2048)
  (ex:E s0=iF (.sl k xs))(hy:E y=iF (.sl k us))(fP:s0≠d)(hyd:y≠d)(hys:y≠s0)(pA:xs.length+us.length≤68719476736):
  wP P Γ o E (E.app (aWr d s0 (iF y) k (xs++us)) (zBo d s0 (iF y))):=by
 refine wP.value gf fun a w G g9=>?_
 obtain⟨_,y2,y3⟩:=g9.ent y _ hy;simp only[Top]at y3;obtain⟨xa,c,h1,h2⟩:=zPH (P:=P) y2 hk;have cN:yX us=iH∧ ∀u∈us,u.size=k:=by
  simp only[R]at y2;rcases y2 with⟨rfl,_⟩|⟨b,cap,cs,et,_,_,_,_,_,_,_,h8⟩
  ·simp[yX]
  ·exact⟨kY (St:=Γ.St) (k:=k) us [] 0 b 0 (zAH us [] 0 b 0 h8),(zB3 us [] 0 b 0 h8).2⟩
 have hn:zH0 Γ E G d s0 (iF y) k xs.length us (fun j z'=>G.hd y (z'++[j])) (yJ G y us [] 0):=
  ⟨cN.2,cN.1,y3,fun j z'=>g9.mem.one _ _,by grind[wW,wZ],fun y' hy'=>by simp_all,fun h=>by simp at h,
   fun G2 fY o v hv=>by rw[←zCE us xs.length 0 (fun i z'=>by rw[fY,Ja])];exact hv⟩
 obtain⟨v,w',gA,G',gu⟩:=zBU (P:=P) (ty:=o.type) g9 hd ht hi hz hk eR fZ hb ex fP hn (xv:=a.eval (.tmp y)) ⟨.inl ⟨e,xa,c,ht,by rw[zB5 g9 hy rfl,h1],h2⟩⟩ (fun v hv=>zDv g9.mem us [] 0 v hv) pA;refine⟨v,w',?_,G',gu⟩;rw[←zB5 g9 ex rfl]at gA;simp[execOp,ho,resolve,invoke,builtin,gA]
theorem zK4(t e:TypeId)(ti:TypeInfo)(z:Value)(k s0:Nat)(y:Operand)(r:Nat)(q:List Nat)(xs us:List T)(ho:o.op=.call { callee:=.builtin .append,args:=#[.tmp s0,y],argTypes:=#[t,t] })(gf:o.dst=iF d)(hd:d<Γ.N)
  (ht:P.underlying t=iF (.slice e))(hi:P.info? e=iF ti)(hz:ti.zero=iF z)(hk:ti.size=k)(eR:0<k)(fZ:z.cells.size=k)(hb:ti.bytes≤2048)
  (ex:E s0=iF (.sl k xs))(hy:tU E y=iF (r,q,.sl k us))(hf:zAI us=iH)(fP:s0≠d)(pA:xs.length+us.length≤68719476736):
  wP P Γ o E (E.app (aWr d s0 iG k (xs++us)) (zBo d s0 iG)):=by
 refine wP.value gf fun a w G g9=>?_
 obtain⟨y2,y1⟩:=jS g9 hy rfl;obtain⟨xa,c,h1,h2⟩:=zPH (P:=P) y2 hk;have cN:(∀u∈us,u.size=k)∧ ∀j u,us[j]? =iF u→R Γ.St G w r u (j::q):=by
  simp only[R]at y2;rcases y2 with⟨rfl,_⟩|⟨b,cap,cs,et,_,_,_,_,_,_,_,h8⟩
  ·simp
  ·refine⟨(zB3 us q 0 b 0 h8).2,fun j u hu=>?_⟩
   have:=(kH us q 0 b 0 k j u h8 hu).2.2
   grind
 have gC:=zAf us hf;have hn:zH0 Γ E G d s0 iG k xs.length us (fun j z'=>G.hd r (z'++(j::q))) (yJ G r us q 0):=
  ⟨cN.1,gC.2,gC.1,fun j z'=>g9.mem.one _ _,by grind[wW,wZ],by simp,
   by grind[zK2,zJ3],
   fun G2 fY o v hv=>by rw[←zEQ us xs.length 0 q (fun i z'=>by rw[fY,Ja])];exact hv⟩
 obtain⟨v,w',gA,G',gu⟩:=zBU (P:=P) (ty:=o.type) g9 hd ht hi hz hk eR fZ hb ex fP hn (xv:=a.eval y) ⟨.inl ⟨e,xa,c,ht,by rw[y1,h1],h2⟩⟩ (fun v hv=>zDv g9.mem us q 0 v hv) pA;refine⟨v,w',?_,G',gu⟩;rw[←zB5 g9 ex rfl]at gA;simp[execOp,ho,resolve,invoke,builtin,gA]
mutual
theorem zSM:(u:T)→zFJ u=iH→(roT u).flat=iH
 |.agg xs,h=>by simp only[zFJ]at h;simp only[roT,T.flat];exact zFK xs h
 |.lit _,_|.sl _ _,_|.ptr _,_=>by rfl
 |.any,h|.ro _,h|.same _ _,h|.addr _ _,h|.sub _ _ _ _ _,h|.tup _,h=>by grind[zFJ]
theorem zFK:(xs:List T)→zB4 xs=iH→zAI (roT.roTs xs)=iH
 | [],_=>by rfl
 |x::xs,h=>by simp only[zB4,J2]at h;simp only[roT.roTs,zAI,J2];exact⟨zSM x h.1,zFK xs h.2⟩
end
theorem zK5(t e:TypeId)(ti:TypeInfo)(z:Value)(k s0:Nat)(y:Operand)(r:Nat)(q:List Nat)(xs ys:List T)(ho:o.op=.call { callee:=.builtin .append,args:=#[.tmp s0,y],argTypes:=#[t,t] })(gf:o.dst=iF d)(hd:d<Γ.N)
  (ht:P.underlying t=iF (.slice e))(hi:P.info? e=iF ti)(hz:ti.zero=iF z)(hk:ti.size=k)(eR:0<k)(fZ:z.cells.size=k)(hb:ti.bytes≤2048)
  (ex:E s0=iF (.sl k xs))(hy:tU E y=iF (r,q,.ro (.sl k ys)))(hro:zB4 ys=iH)(hys:∀u∈ys,u.size=k)(fP:s0≠d)(pA:xs.length+ys.length≤68719476736):
  wP P Γ o E (E.app (aWr d s0 iG k (xs++roT.roTs ys)) (zBo d s0 iG)):=by
 refine wP.value gf fun a w G g9=>?_
 obtain⟨y2,y1⟩:=jS g9 hy rfl;obtain⟨xa,c,h1,h2,h3,h4⟩:=zDr y2;have hf:=zFK ys hro;have gC:=zAf _ hf;have gj:(roT.roTs ys).length=ys.length:=zG3 ys;have gz:∀u∈roT.roTs ys,u.size=k:=zH2 ys hys (by grind[zLP]);obtain⟨cs',o',h5,h6⟩:∃(cs':Array Value)(o':Nat),RoL Γ.St ys cs' o' k∧(ys≠[]→ ∃b et fr,xa=iF ⟨b,o',iG⟩∧Γ.St b=iF (.cells cs' et fr)):=by
  by_cases gg:ys=[]
  ·subst gg;exact⟨#[],0,by simp[RoL],fun h=>absurd rfl h⟩
  grind
 let f2:Nat→List Nat→Value:=fun j z'=>match ys[j]? with
  |some u=>kK (zEf u cs' (o'+j*k) z'.reverse)
  |none=>.bool iI
 have hf2:∀j u,ys[j]? =iF u→ ∀z',f2 j z'=kK (zEf u cs' (o'+j*k) z'.reverse):=by grind
 let G0:Gh:={ G with hd:=fun s z'=>if s=d then(match z'.getLast? with
  |some j=>f2 j z'.dropLast
  |none=>.bool iI)else G.hd s z' }
 have hG0:∀j z',G0.hd d (z'++[j])=f2 j z':=by grind
 have p8:∀(G2:Gh)(n:Nat),(∀j z',G2.hd d (z'++[n+j])=f2 j z')→ ∀(i:Nat)(v:Value),(yJ G2 d (roT.roTs ys) [] n)[i]? =iF v→cs'[o'+i]? =iF v:=by grind[zPG]
 have hload:∀w2:World,w2.heap=w.heap→(Builtin.firstCells ti.size ys.length (.slice xa ys.length c)).run P w2=.ok (yJ G0 d (roT.roTs ys) [] 0).toArray w2:=by
  intro w2 hw2
  by_cases gg:ys=[]
  ·subst gg
   cases xa<;>simp[Builtin.firstCells,loadCells,loadCellsFrom,roT.roTs,yJ]
  ·obtain⟨b,et,fr,rfl,h7⟩:=h6 gg
   refine run_firstCells_some (P:=P) w2 ti.size ys.length ⟨b,o',iG⟩ _ _ _ ?_ (fun j v hv=>?_)
   ·grind[wW,wZ]
   ·have:=p8 G0 0 (fun j z'=>by rw[Ja];grind) j v hv
    rw[uW];have h8:=g9.mem.st b _ h7
    grind[World.cell?]
 have mu:∀j z',(f2 j z').oneCell'=iH:=fun j z'=>by
  dsimp only[f2];split
  ·exact zBz _
  ·rfl
 have hn:zH0 Γ E G d s0 iG k xs.length (roT.roTs ys) f2 (yJ G0 d (roT.roTs ys) [] 0):=by
  refine⟨gz,gC.2,gC.1,mu,by grind[wW,wZ],by simp,fun _ j u hu G2 w2 fY=>?_,fun G2 fY i v hv=>?_⟩
  ·obtain⟨u0,hu0,rfl⟩:=zLQ ys j u hu
   exact zSC u0 cs' (o'+j*k) [xs.length+j] (by grind) (by grind[zGR])
  ·rw[←zCE (roT.roTs ys) xs.length 0 (fun i z'=>by rw[fY,Ja];grind)]
   exact hv
 have ak:∀v∈yJ G0 d (roT.roTs ys) [] 0,v.oneCell'=iH:=by
  intro v hv;refine zEl (fun s z'=>?_) _ [] 0 v hv;simp only[G0];split
  ·split
   ·exact mu _ _
   ·rfl
  ·exact g9.mem.one _ _
 have bA:zHz P t e ti (a.eval y) (roT.roTs ys).length (yJ G0 d (roT.roTs ys) [] 0) w:=⟨by grind⟩;obtain⟨v,w',gA,G',gu⟩:=zBU (P:=P) (ty:=o.type) g9 hd ht hi hz hk eR fZ hb ex fP hn bA ak (by omega);refine⟨v,w',?_,G',gu⟩;rw[←zB5 g9 ex rfl]at gA;simp[execOp,ho,resolve,invoke,builtin,gA]
end
theorem zG4:(us:List T)→qR us=us.flatMap sC
 | []=>rfl
 |u::us=>by simp[qR,zG4 us]
theorem zCF(u:T)(h:u.zOk=iH):∀m,zA1 (J1 m u)=iH
 |0=>rfl
 |m+1=>by simp[Jq,zA1,h,zCF u h m]
section
variable {P:Program}{Γ:Ctx}{E:Env}{o:Oper}{d:Nat}
theorem zH3(t t2 e:TypeId)(k2:IntKind)(ti:TypeInfo)(z:Value)(u:T)(k s0:Nat)(y:Operand)(kd:IntKind)(m:Nat)(xs:List T)(ho:o.op=.call { callee:=.builtin .append,args:=#[.tmp s0,y],argTypes:=#[t,t2] })(gf:o.dst=iF d)(hd:d<Γ.N)
  (ht:P.underlying t=iF (.slice e))(mM:P.underlying t2=iF (.int k2))(hi:P.info? e=iF ti)(hz:ti.zero=iF z)(hk:ti.size=k)(eR:0<k)(hb:ti.bytes≤2048)(hu:u.zOk=iH)(hv:sC u=z.cells.toList)(cN:u.size=k)
  (ex:E s0=iF (.sl k xs))(hy:opT E y=iF (.lit (.int kd m)))(fP:s0≠d)(pA:xs.length+m≤68719476736):
  wP P Γ o E (E.app (aWr d s0 iG k (xs++J1 m u)) (zBo d s0 iG)):=by
 refine wP.value gf fun a w G g9=>?_
 have fZ:z.cells.size=k:=by grind[vV]
 have hzo:=zCF u hu m;have gC:=zBT _ hzo
 let f2:Nat→List Nat→Value:=fun _ z'=>kK (zhd u z'.reverse)
 have hnvl:((Builtin.zeroCells z.cells m).toList).length=m*k:=by grind[Builtin.zeroCells]
 have hn:zH0 Γ E G d s0 iG k xs.length (J1 m u) f2 (Builtin.zeroCells z.cells m).toList:=by
  refine⟨by grind,gC.2,gC.1,fun _ _=>zBz _,by grind,by simp,fun _ j x hx G2 w2 fY=>?_,fun G2 fY i v mj=>?_⟩
  ·grind[zKw]
  ·have h1:yJ G2 d (J1 m u) [] xs.length=qR (J1 m u):=by grind[zEh]
   rw[h1,zG4]at mj;obtain⟨h2,h3⟩:=zKx sC u k (by grind) eR m i v mj
   grind[Builtin.zeroCells]
 have gx:∀v∈(Builtin.zeroCells z.cells m).toList,v.oneCell'=iH:=by
  intro v mj;simp only[Builtin.zeroCells,Array.toList_map,Array.toList_range,Jl,Ln]at mj;obtain⟨i,fu,rfl⟩:=mj
  grind[Hb,zFH]
 have bA:zHz P t2 e ti (a.eval y) (J1 m u).length (Builtin.zeroCells z.cells m).toList w:=by
  refine⟨.inr ⟨k2,kd,z,mM,?_,hz,by simp,?_,by omega⟩⟩
  ·rw[(wQ g9 hy).1];simp
  ·simp only[Jc]
   exact H2 (Jm (show m≤68719476736 by omega) hb) (by decide)
 obtain⟨v,w',gA,G',gu⟩:=zBU (P:=P) (ty:=o.type) g9 hd ht hi hz hk eR fZ hb ex fP hn bA gx (by grind);refine⟨v,w',?_,G',gu⟩;rw[←zB5 g9 ex rfl]at gA;simp[execOp,ho,resolve,invoke,builtin,gA]
end
def zLR(G:Gh)(nd:List (Nat×List Nat×T)):Value:=
 match nd with
 | [x]=>sU G x.1 x.2.2 x.2.1
 |nd=>.tuple (nd.map fun x=>sU G x.1 x.2.2 x.2.1).toArray
def FnC(P:Program)(f:FuncId)(us:List T)(res:List T)(rws:List (Nat×T)):Prop:=
 ∀(St:Stb)(W:Nat→Prop)(w:World)(G:Gh)(vs:Array Value),vs.size=us.length→
  (∀(i:Nat) u,us[i]? =iF u→vs[i]? =iF (mkV G i u [])∧R St G w i u [])→Mem ⟨St,W,w,0⟩ G w→
  Calls P f vs w fun e w'=> ∃(S':Stb)(G':Gh)(nd:List (Nat×List Nat×T)),zDD St S' W w.heap.size∧e=.returned (zLR G' nd)∧Mem ⟨S',W,w,0⟩ G' w'∧nd.map (·.2.2)=res∧
   (∀x∈nd,R S' G' w' x.1 x.2.2 x.2.1∧us.length≤x.1)∧(nd.map (·.1)).Nodup∧
   ∀i u',(i,u')∈rws→R S' G' w' i u' []∧ ∃u,us[i]? =iF u∧mkV G' i u' []=mkV G i u []
mutual
def vF:T→Bool
 |.ro _=>iI
 |.sl _ xs|.agg xs|.tup xs=>uO xs
 |.ptr t=>vF t
 |.any|.lit _|.same _ _|.addr _ _|.sub _ _ _ _ _=>iH
def uO:List T→Bool
 | []=>iH
 |x::xs=>vF x&&uO xs
end
section
variable {St St':Stb}{G:Gh}{w:World}{s:Nat}
mutual
theorem zRj:(t:T)→ ∀(p:List Nat),vF t=iH→R St G w s t p→R St' G w s t p
 |.ro _,_,h,_=>by grind[vF]
 |.sl k xs,p,h,hr=>by
  simp only[vF,R]at h hr ⊢
  rcases hr with hr|⟨b,cap,cs,e,h1,h2,h3,h4,h5,h6,h7,h8⟩
  ·grind
  ·exact .inr ⟨b,cap,cs,e,h1,h2,h3,h4,h5,h6,h7,zYs xs p 0 b 0 k h h8⟩
 |.agg xs,p,h,hr|.tup xs,p,h,hr=>by simp only[vF,R]at h hr ⊢;exact zYt xs p 0 h hr
 |.ptr t,p,h,hr=>by
  simp only[vF,R]at h hr ⊢
  obtain⟨b,cs,e,h1,h2,h3,h6,h4,h5⟩:=hr;exact⟨b,cs,e,h1,h2,h3,h6,h4,zRj t _ h h5⟩
 |.any,_,_,hr|.lit _,_,_,hr|.same _ _,_,_,hr|.addr _ _,_,_,hr|.sub _ _ _ _ _,_,_,hr=>by first|(simp only[R];done)|simpa only[R]using hr
theorem zYs:(xs:List T)→ ∀(p:List Nat)(i b o k:Nat),uO xs=iH→RL St G w s xs p i b o k→RL St' G w s xs p i b o k
 | [],_,_,_,_,_,_,_=>by simp only[RL]
 |x::xs,p,i,b,o,k,h,hr=>by
  simp only[uO,J2,RL]at h hr ⊢
  exact⟨hr.1,zRj x _ h.1 hr.2.1,zYs xs p (i+1) b _ k h.2 hr.2.2⟩
theorem zYt:(xs:List T)→ ∀(p:List Nat)(i:Nat),uO xs=iH→RF St G w s xs p i→RF St' G w s xs p i
 | [],_,_,_,_=>by simp only[RF]
 |x::xs,p,i,h,hr=>by
  simp only[uO,J2,RF]at h hr ⊢
  exact⟨zRj x _ h.1 hr.1,zYt xs p (i+1) h.2 hr.2⟩
end
end
section
variable {St St':Stb} (h:∀b x,St b=iF x→St' b=iF x)
 include h
mutual
theorem sD:(t:T)→ ∀(cs:Array Value)(o:Nat),RoC St t cs o→RoC St' t cs o
 |.sl k xs,cs,o,hr=>by
  simp only[RoC]at hr ⊢
  obtain⟨a,c,h1,h2,h3,h4⟩:=hr;refine⟨a,c,h1,h2,h3,fun gg=>?_⟩;obtain⟨b,o',cs',e,fr,h5,h6,h7⟩:=h4 gg;exact⟨b,o',cs',e,fr,h5,h b _ h6,zLS xs cs' o' k h7⟩
 |.agg xs,cs,o,hr=>by simp only[RoC]at hr ⊢;exact zLT xs cs o hr
 |.ptr t,cs,o,hr=>by
  simp only[RoC]at hr ⊢
  obtain⟨b,o',cs',e,fr,h5,h6,h7⟩:=hr;exact⟨b,o',cs',e,fr,h5,h b _ h6,sD t cs' o' h7⟩
 |.any,_,_,hr|.lit _,_,_,hr|.ro _,_,_,hr|.same _ _,_,_,hr|.addr _ _,_,_,hr|.sub _ _ _ _ _,_,_,hr|.tup _,_,_,hr=>by first|(simp only[RoC]at hr;done)|simpa only[RoC]using hr
theorem zLS:(xs:List T)→ ∀(cs:Array Value)(o k:Nat),RoL St xs cs o k→RoL St' xs cs o k
 | [],_,_,_,_=>by have _:=h;simp only[RoL]
 |x::xs,cs,o,k,hr=>by simp only[RoL]at hr ⊢;exact⟨sD x cs o hr.1,zLS xs cs _ k hr.2⟩
theorem zLT:(xs:List T)→ ∀(cs:Array Value)(o:Nat),RoF St xs cs o→RoF St' xs cs o
 | [],_,_,_=>by have _:=h;simp only[RoF]
 |x::xs,cs,o,hr=>by simp only[RoF]at hr ⊢;exact⟨sD x cs o hr.1,zLT xs cs _ hr.2⟩
end
end
section
variable {St St':Stb}{G:Gh}{w:World}{s:Nat} (h:∀b x,St b=iF x→St' b=iF x)
 include h
mutual
theorem zK6:(t:T)→ ∀(p:List Nat),R St G w s t p→R St' G w s t p
 |.ro t,_,hr=>by simp only[R]at hr ⊢;grind[sD]
 |.sl k xs,p,hr=>by
  simp only[R]at hr ⊢
  rcases hr with hr|⟨b,cap,cs,e,h1,h2,h3,h4,h5,h6,h7,h8⟩
  ·grind
  ·exact .inr ⟨b,cap,cs,e,h1,h2,h3,h4,h5,h6,h7,zPI xs p 0 b 0 k h8⟩
 |.agg xs,p,hr|.tup xs,p,hr=>by simp only[R]at hr ⊢;exact zPJ xs p 0 hr
 |.ptr t,p,hr=>by
  simp only[R]at hr ⊢
  obtain⟨b,cs,e,h1,h2,h3,h6,h4,h5⟩:=hr;exact⟨b,cs,e,h1,h2,h3,h6,h4,zK6 t _ h5⟩
 |.any,_,hr|.lit _,_,hr|.same _ _,_,hr|.addr _ _,_,hr|.sub _ _ _ _ _,_,hr=>by first|(simp only[R];done)|simpa only[R]using hr
theorem zPI:(xs:List T)→ ∀(p:List Nat)(i b o k:Nat),RL St G w s xs p i b o k→RL St' G w s xs p i b o k
 | [],_,_,_,_,_,_=>by have _:=h;simp only[RL]
 |x::xs,p,i,b,o,k,hr=>by simp only[RL]at hr ⊢;exact⟨hr.1,zK6 x _ hr.2.1,zPI xs p (i+1) b _ k hr.2.2⟩
theorem zPJ:(xs:List T)→ ∀(p:List Nat)(i:Nat),RF St G w s xs p i→RF St' G w s xs p i
 | [],_,_,_=>by have _:=h;simp only[RF]
 |x::xs,p,i,hr=>by simp only[RF]at hr ⊢;exact⟨zK6 x _ hr.1,zPJ xs p (i+1) hr.2⟩
end
end
mutual
def strip:T→T
 |.lit v=>.lit v
 |.ro u=>if u.single then u else .any
 |.sl k xs=>.sl k (vA xs)
 |.agg xs=>.agg (vA xs)
 |.ptr t=>.ptr (strip t)
 |.any|.same _ _|.addr _ _|.sub _ _ _ _ _|.tup _=>.any
def vA:List T→List T
 | []=>[]
 |x::xs=>strip x::vA xs
end
theorem kZ:(xs:List T)→(vA xs).length=xs.length
 | []=>rfl
 |x::xs=>by simp[vA,kZ xs]
mutual
theorem zEm:(t:T)→(strip t).size=t.size
 |.agg xs=>by simp only[strip,T.size];exact zG5 xs
 |.ro u=>by
  simp only[strip];split
  ·rename_i h;cases u<;>simp[T.single]at h<;>simp[T.size]
  rfl
 |.lit _|.sl _ _|.ptr _|.any|.same _ _|.addr _ _|.sub _ _ _ _ _|.tup _=>by rfl
theorem zG5:(xs:List T)→T.sizes (vA xs)=T.sizes xs
 | []=>rfl
 |x::xs=>by simp only[vA,T.sizes,zEm x,zG5 xs]
end
theorem jN(hu:u.single=iH){cs:Array Value}{o:Nat}(h:RoC St u #[v] 0)(hc:cs[o]? =iF v):RoC St u cs o:=by
 cases u<;>simp[T.single]at hu<;>simp only[RoC]at h ⊢ <;>simp at h<;>first
  |grind
  |grind
  |grind
  |grind
section
variable {St Sc:Stb}{G:Gh}{w:World}{s:Nat} (gx:∀s p,(G.hd s p).oneCell'=iH) (eK:∀b x,St b=iF x→Sc b=iF x) (eG:∀b,(∃y,G.ow b=iF (s,y))→Sc b=w.heap[b]?)
 include gx eK eG
mutual
theorem frz:(t:T)→ ∀(p:List Nat)(b o:Nat)(cs:Array Value)(e:TypeId)(fr:Nat×Nat),w.heap[b]? =iF (.cells cs e fr)→Loc G w s t p b o→R St G w s t p→RoC Sc (strip t) cs o
 |.agg xs,p,b,o,cs,e,fr,hb,hl,hr=>by simp only[Loc,R,strip,RoC]at hl hr ⊢;exact yAR xs p 0 b o cs e fr hb hl.2 hr
 |.tup _,_,_,_,_,_,_,_,hl,_=>by have _:=eG;simp only[Loc]at hl
 |.any,p,b,o,cs,e,fr,hb,hl,hr|.same _ _,p,b,o,cs,e,fr,hb,hl,hr|.addr _ _,p,b,o,cs,e,fr,hb,hl,hr|.sub _ _ _ _ _,p,b,o,cs,e,fr,hb,hl,hr=>by
  have h1:=(vK rfl hl).2.2;simp only[yU,World.cell?,hb]at h1;simp only[strip,RoC]
  grind
 |.lit v,p,b,o,cs,e,fr,hb,hl,hr=>by
  have h1:=(vK rfl hl).2.2;simp only[yU,World.cell?,hb]at h1;simp only[strip,RoC,R]at hr ⊢
  grind
 |.ro u,p,b,o,cs,e,fr,hb,hl,hr=>by
  have h1:=(vK rfl hl).2.2;simp only[yU,World.cell?,hb]at h1;simp only[strip,R]at hr ⊢
  split
  ·grind[jN,sD]
  ·simp only[RoC];grind
 |.sl k xs,p,b,o,cs,e,fr,hb,hl,hr=>by have h1:=(vK rfl hl).2.2;simp only[yU,World.cell?,hb]at h1;exact jN rfl (zLU (.sl k xs) p rfl hr) (by grind)
 |.ptr t,p,b,o,cs,e,fr,hb,hl,hr=>by have h1:=(vK rfl hl).2.2;simp only[yU,World.cell?,hb]at h1;exact jN rfl (zLU (.ptr t) p rfl hr) (by grind)
theorem yAR:(xs:List T)→ ∀(p:List Nat)(j b o:Nat)(cs:Array Value)(e:TypeId)(fr:Nat×Nat),w.heap[b]? =iF (.cells cs e fr)→vR G w s xs p j b o→RF St G w s xs p j→RoF Sc (vA xs) cs o
 | [],_,_,_,_,_,_,_,_,_,_=>by have _:=gx;have _:=eK;have _:=eG;simp only[vA,RoF]
 |x::xs,p,j,b,o,cs,e,fr,hb,hl,hr=>by
  simp only[vR,RF,vA,RoF]at hl hr ⊢
  exact⟨frz x _ b o cs e fr hb hl.1 hr.1,by rw[zEm];exact yAR xs p (j+1) b _ cs e fr hb hl.2 hr.2⟩
theorem yAS:(xs:List T)→ ∀(p:List Nat)(i b o k:Nat)(cs:Array Value)(e:TypeId)(fr:Nat×Nat),w.heap[b]? =iF (.cells cs e fr)→RL St G w s xs p i b o k→RoL Sc (vA xs) cs o k
 | [],_,_,_,_,_,_,_,_,_,_=>by have _:=gx;have _:=eK;have _:=eG;simp only[vA,RoL]
 |x::xs,p,i,b,o,k,cs,e,fr,hb,hr=>by
  simp only[RL,vA,RoL]at hr ⊢
  exact⟨frz x _ b o cs e fr hb hr.1.1 hr.2.1,yAS xs p (i+1) b _ k cs e fr hb hr.2.2⟩
theorem zLU:(t:T)→ ∀(p:List Nat),t.single=iH→R St G w s t p→RoC Sc (strip t) #[G.hd s p] 0
 |.agg _,_,h,_|.tup _,_,h,_=>by grind[T.single]
 |.any,p,_,_|.same _ _,p,_,_|.addr _ _,p,_,_|.sub _ _ _ _ _,p,_,_=>by simp only[strip,RoC];simp_all
 |.lit v,p,_,hr=>by simp only[strip,RoC,R]at hr ⊢;grind
 |.ro u,p,_,hr=>by
  simp only[strip,R]at hr ⊢
  split
  ·grind[sD]
  ·simp only[RoC];grind
 |.sl k xs,p,_,hr=>by
  simp only[strip,R,RoC]at hr ⊢
  rw[kZ];rcases hr with⟨rfl,a,h1⟩|⟨b,cap,cs,e,h1,h2,h3,h4,h5,h6,h7,h8⟩
  ·grind[vA]
  ·exact⟨iF ⟨b,0,iG⟩,cap,by simp[h1],h3,h4,fun _=>⟨b,0,cs,e,(0,0),rfl,by grind,yAS xs p 0 b 0 k cs e (0,0) h2 h8⟩⟩
 |.ptr t,p,_,hr=>by
  simp only[strip,R,RoC]at hr ⊢
  obtain⟨b,cs,e,h1,h2,h3,h6,h4,h5⟩:=hr;exact⟨b,0,cs,e,(0,0),by simp[h1],by grind,frz t _ b 0 cs e (0,0) h2 h4 h5⟩
end
end
mutual
def clo(E:Env):T→T
 |.agg ts=>.agg (zBV E ts)
 |.lit v=>.lit v
 |.ro u=>.ro u
 |.same r q=>match jG E 4 r q with
  |some (_,_,.ro u)=>.ro u
  |some (_,_,.lit v)=>.lit v
  |some (_,_,t)=>if t.single then .ro (strip t)else .any
  |none=>.any
 |.sub r q k lo hi=>match jG E 4 r q with
  |some (_,_,.sl k' xs)=>if k=k'∧lo≤hi∧hi≤xs.length then .ro (.sl k (((vA xs).drop lo).take (hi-lo)))else .any
  |_=>.any
 |.sl k xs=>.ro (strip (.sl k xs))
 |.ptr t=>.ro (strip (.ptr t))
 |.any|.addr _ _|.tup _=>.any
def zBV(E:Env):List T→List T
 | []=>[]
 |x::xs=>clo E x::zBV E xs
end
mutual
def qO(E:Env)(rs:List Nat)(s:Nat):T→Bool
 |.agg ts=>zAJ E rs s ts
 |.same r q|.sub r q _ _ _=>match jG E 4 r q with
  |some (r',_,_)=> !rs.contains r'
  |none=>iH
 |.sl _ _|.ptr _=> !rs.contains s
 |.lit _|.ro _|.any|.addr _ _=>iH
 |.tup _=>iI
def zAJ(E:Env)(rs:List Nat)(s:Nat):List T→Bool
 | []=>iH
 |x::xs=>qO E rs s x&&zAJ E rs s xs
end
theorem zWI{lo hi:Nat}(h:RoC St (.sl k xs) #[v] 0)(h1:lo≤hi)(h2:hi≤xs.length):RoC St (.sl k ((xs.drop lo).take (hi-lo))) #[zBw v k lo hi] 0:=by
 simp only[RoC]at h ⊢
 obtain⟨a',c,g4,g5,g6,g7⟩:=h;have hv:v=.slice a' xs.length c:=by grind
 subst hv;have gj:((xs.drop lo).take (hi-lo)).length=hi-lo:=by simp;omega
 refine⟨if c=lo then a' else a'.map (·.add (lo*k)),c-lo,by grind[zBw],by omega,by omega,?_⟩;intro gg;have eE:xs≠[]:=by grind
 obtain⟨b,o',cs',e',fr,rfl,h3,h4⟩:=g7 eE;have gC:c≠lo:=by grind
 grind[uW,zHq,zHp]
section
variable {Γ:Ctx}{E:Env}{G Gc:Gh}{a:Act}{w:World}{Sc:Stb}{rs:List Nat}{s i:Nat} (g9:Rep Γ E G a.tmps w) (eK:∀b x,Γ.St b=iF x→Sc b=iF x) (eG:∀r,r∉rs→ ∀b,(∃y,G.ow b=iF (r,y))→Sc b=w.heap[b]?) (gI:∀z,Gc.hd i z=G.hd s z)
 include g9 eK eG gI
mutual
theorem zYu:(t:T)→ ∀(p:List Nat),qO E rs s t=iH→R Γ.St G w s t p→R Sc Gc w i (clo E t) p
 |.agg ts,p,h,hr=>by simp only[qO,clo,R]at h hr ⊢;exact zSN ts p 0 h hr
 |.tup _,_,h,_=>by grind[qO]
 |.lit v,p,_,hr=>by simp only[clo,R]at hr ⊢;grind
 |.ro u,p,_,hr=>by simp only[clo,R]at hr ⊢;grind[sD]
 |.any,_,_,_|.addr _ _,_,_,_=>by simp only[clo,R]
 |.sl k xs,p,h,hr=>by
  simp only[qO,Gm,H3,decide_eq_false_iff_not]at h;have:=zLU (fun s p=>g9.mem.one s p) eK (eG s h) (.sl k xs) p rfl hr;simp only[clo,R]
  grind
 |.ptr t,p,h,hr=>by
  simp only[qO,Gm,H3,decide_eq_false_iff_not]at h;have:=zLU (fun s p=>g9.mem.one s p) eK (eG s h) (.ptr t) p rfl hr;simp only[clo,R]
  grind
 |.same r q,p,h,hr=>by
  simp only[qO,clo,R]at h hr ⊢
  cases hf:jG E 4 r q with
  |none=>simp only[R]
  |some x=>
   obtain⟨r',q',t⟩:=x;simp only[hf,Gm,H3,decide_eq_false_iff_not]at h;obtain⟨h1,h2,_⟩:=zDq g9 4 r q r' q' t hf;have h3:Gc.hd i p=G.hd r' q':=by grind
   by_cases hs:t.single=iH
   ·have h4:=zLU (fun s p=>g9.mem.one s p) eK (eG r' h) t q' hs h1
    cases t with
    |ro u=>simp only[R]at h1 ⊢;grind[sD]
    |lit v=>simp only[R]at h1 ⊢;grind
    |agg _=>grind[T.single]
    |tup _=>grind[T.single]
    |_=>simp only[hs,if_true,R];grind
   ·cases t<;>simp[T.single]at hs<;>simp[T.single,R]
 |.sub r q k lo hi,p,h,hr=>by
  simp only[qO,clo,R]at h hr ⊢
  cases hf:jG E 4 r q with
  |none=>simp only[R]
  |some x=>
   obtain⟨r',q',t⟩:=x;simp only[hf,Gm,H3,decide_eq_false_iff_not]at h;obtain⟨h1,h2,_⟩:=zDq g9 4 r q r' q' t hf;cases t with
   |sl k' xs=>
    simp only[];split
    ·rename_i hc
     obtain⟨rfl,fI,fH⟩:=hc;have h4:=zLU (fun s p=>g9.mem.one s p) eK (eG r' h) (.sl k xs) q' rfl h1;simp only[strip]at h4;simp only[R]
     grind[zWI,kZ]
    ·simp only[R]
   |_=>simp only[R]
theorem zSN:(ts:List T)→ ∀(p:List Nat)(j:Nat),zAJ E rs s ts=iH→RF Γ.St G w s ts p j→RF Sc Gc w i (zBV E ts) p j
 | [],_,_,_,_=>by have _:=g9;have _:=eK;have _:=eG;have _:=gI;simp only[zBV,RF]
 |x::xs,p,j,h,hr=>by
  simp only[zAJ,J2,zBV,RF]at h hr ⊢
  exact⟨zYu x _ h.1 hr.1,zSN xs p (j+1) h.2 hr.2⟩
end
end
section
variable {E:Env}{G Gc:Gh}{rs:List Nat}{s i:Nat}
theorem zH4(t:T)(h:t.single=iH):(clo E t).single=iH:=by cases t<;>simp[T.single]at h<;>simp only[clo]<;>first|rfl|(split<;>first|rfl|(split<;>rfl))
mutual
theorem zSO(gI:∀z,Gc.hd i z=G.hd s z):(t:T)→ ∀(p:List Nat),qO E rs s t=iH→vals Gc i (clo E t) p=vals G s t p
 |.agg ts,p,h=>by simp only[qO,clo,vals]at h ⊢;exact zFL gI ts p 0 h
 |.tup _,_,h=>by grind[qO]
 |.lit _,p,_|.ro _,p,_|.any,p,_|.addr _ _,p,_|.sl _ _,p,_|.ptr _,p,_|.same _ _,p,_|.sub _ _ _ _ _,p,_=>by
  have h1:∀u:T,u.single=iH→vals Gc i u p=[G.hd s p]:=fun u hu=>by cases u<;>simp[T.single]at hu<;>simp[vals,gI]
  rw[h1 _ (zH4 _ rfl)];simp[vals]
theorem zFL(gI:∀z,Gc.hd i z=G.hd s z):(ts:List T)→ ∀(p:List Nat)(j:Nat),zAJ E rs s ts=iH→yJ Gc i (zBV E ts) p j=yJ G s ts p j
 | [],_,_,_=>by rfl
 |x::xs,p,j,h=>by simp only[zAJ,J2]at h;simp only[zBV,yJ];rw[zSO gI x _ h.1,zFL gI xs p _ h.2]
end
theorem zK7(gI:∀z,Gc.hd i z=G.hd s z)(t:T)(h:qO E rs s t=iH):mkV Gc i (clo E t) []=mkV G s t []:=by
 cases t with
 |agg ts=>grind[qO,clo,mkV,zFL]
 |tup _=>grind[qO]
 |_=>rw[xU (zH4 _ rfl),xU rfl,gI]
end
end Go.Ab
