/- The program's CoverOf returns what the reference's returns,for all arguments;no conditions. -/
import Derived.Orders
import Derived.Laws.AppendOwn
import Derived.Laws.MakeOwn
import Derived.Great.BuildSlice
import Derived.Laws.Tables
open List renaming replicate→J0,length_append→J5,length_cons→J6,length_replicate→J8,append_nil→Ja,getElem?_append_right→Jb,mem_cons→Jc,append_assoc→Jd,mem_append→Jh,replicate_succ→Jq,map_cons→Js,mem_map→Jt,nil_append→Ju,getElem?_eq_some_iff→Jw,getElem?_append_left→Jx,cons_append→Jy,length_take→Jz,getElem?_map→K4,getElem?_replicate→Ke,mem_range→Kh,all_eq_true→Ki,reverse_reverse→Kn,ext_getElem?→Kr,getElem?_append→Ks,take_succ_cons→Ku,nodup_cons→Le,set_cons_succ→Lg,flatMap_cons→Li,getElem?_drop→Lr,eq_nil_of_length_eq_zero→Ls,set_cons_zero→Lw,mem_of_getElem?→Lz,map_nil→He,contains_eq_mem→Hh,drop_eq_getElem_cons→Hy,flatMap_append→G5,reverse_nil→Gf,foldl_cons→Gx,getElem?_take_of_lt→Ug,getElem?_cons_succ→Uv,length_set→Ql,map_toArray→Qp,cons→Qt,getElem?_set_ne→Jaa,reverse_append→Jax,not_mem_nil→Jb1,take_append_drop→Jb8,take_append→Jbg,reverse_cons→Jbi,map_take→Jbk,isEmpty_iff→Jbm,size_toArray→Jbx
open Bool renaming and_eq_true→J4,false_eq_true→G6,not_eq_true'→Uc,false_and→Jcs
open Int renaming toNat_natCast→J9
open Nat renaming zero_add→Jf,le_refl→Jl,mul_le_mul→K1,succ_mul→K6,mul_le_mul_right→K7,sub_self→Kd,min_eq_left→G8,add_zero→G9,mod_lt→Gd,le_trans→Gm,add_mul→Uu,lt_of_lt_of_le→Jb5,le_mul_of_pos_right→Jb6,mul_pos→Jbt
open Array renaming getElem?_setIfInBounds→Jk,getElem?_toList→Kk,getD_eq_getD_getElem?→Km,length_toList→Kv,getElem?_eq_some_iff→L8,range→Jca
open Option renaming isSome_none→Q2,map_none→Jb4
open Prod renaming mk→Jav
open Option renaming some→iz,none→iA
open Bool renaming true→iB,false→iC
theorem iD{p:Prop}[h:Decidable p](a:¬p):decide p=false:=decide_eq_false a
theorem iE{p:Prop}[h:Decidable p](a:p):decide p=true:=decide_eq_true a
namespace Go.Ab
open Go
inductive T where
 |any
 |lit (v:Value)
 |ro (t:T)
 |same (r:Nat) (p:List Nat)
 |addr (r:Nat) (p:List Nat)
 |sub (r:Nat) (p:List Nat) (k lo hi:Nat)
 |sl (k:Nat) (xs:List T)
 |agg (xs:List T)
 |ptr (t:T)
 |tup (xs:List T)
 deriving Inhabited
abbrev Stb:=Nat→Option Obj
mutual
def T.size:T→Nat
 |.agg xs=>T.sizes xs
 |_=>1
def T.sizes:List T→Nat
 | []=>0
 |x::xs=>x.size+T.sizes xs
end
mutual
def RoC(St:Stb):T→Array Value→Nat→Prop
 |.any,cs,o=> ∃v,cs[o]? =iz v∧v.oneCell'=iB
 |.lit v,cs,o=>cs[o]? =iz v∧v.oneCell'=iB
 |.ro _,_,_=>False
 |.sl k xs,cs,o=> ∃a c,cs[o]? =iz (.slice a xs.length c)∧xs.length≤c∧c≤maxLen∧
   (xs≠[]→ ∃b o' cs' e fr,a=iz ⟨b,o',iA⟩∧St b=iz (.cells cs' e fr)∧RoL St xs cs' o' k)
 |.agg xs,cs,o=>RoF St xs cs o
 |.ptr t,cs,o=> ∃b o' cs' e fr,cs[o]? =iz (.pointer (iz ⟨b,o',iA⟩))∧St b=iz (.cells cs' e fr)∧RoC St t cs' o'
 |.same _ _,_,_=>False
 |.addr _ _,_,_=>False
 |.sub _ _ _ _ _,_,_=>False
 |.tup _,_,_=>False
def RoL(St:Stb):List T→Array Value→Nat→Nat→Prop
 | [],_,_,_=>True
 |x::xs,cs,o,k=>RoC St x cs o∧RoL St xs cs (o+k) k
def RoF(St:Stb):List T→Array Value→Nat→Prop
 | [],_,_=>True
 |x::xs,cs,o=>RoC St x cs o∧RoF St xs cs (o+x.size)
end
structure Gh where
 hd:Nat→List Nat→Value
 ad:Nat→List Nat→Addr
 lb:Nat→Nat→Option (Bool×Nat×List Nat)
 ow:Nat→Option (Nat×List Nat)
def yS(w:World)(b o:Nat):Option Value:=w.cell? ⟨b,o,iA⟩
mutual
def Loc(G:Gh)(w:World)(s:Nat):T→List Nat→Nat→Nat→Prop
 |.agg xs,p,b,o=>G.ad s p=⟨b,o,iA⟩∧vL G w s xs p 0 b o
 |.tup _,_,_,_=>False
 |.any,p,b,o|.lit _,p,b,o|.ro _,p,b,o|.same _ _,p,b,o|.addr _ _,p,b,o|.sub _ _ _ _ _,p,b,o|.sl _ _,p,b,o|.ptr _,p,b,o=>
  G.ad s p=⟨b,o,iA⟩∧G.lb b o=iz (iC,s,p)∧yS w b o=iz (G.hd s p)
def vL(G:Gh)(w:World)(s:Nat):List T→List Nat→Nat→Nat→Nat→Prop
 | [],_,_,_,_=>True
 |x::xs,p,j,b,o=>Loc G w s x (j::p) b o∧vL G w s xs p (j+1) b (o+x.size)
end
def zBg(v:Value)(k lo hi:Nat):Value:=
 match v with
 |.slice a _ c=>.slice (if c=lo then a else a.map (·.add (lo*k))) (hi-lo) (c-lo)
 |v=>v
mutual
def R(St:Stb)(G:Gh)(w:World)(s:Nat):T→List Nat→Prop
 |.any,_=>True
 |.lit v,p=>G.hd s p=v
 |.ro t,p=>RoC St t #[G.hd s p] 0
 |.same r q,p=>G.hd s p=G.hd r q
 |.addr r q,p=>G.hd s p=.pointer (iz (G.ad r q))
 |.sub r q k lo hi,p=>G.hd s p=zBg (G.hd r q) k lo hi
 |.sl k xs,p=>(xs=[]∧ ∃a,G.hd s p=.slice a 0 0)∨ ∃b cap cs e,G.hd s p=.slice (iz ⟨b,0,iA⟩) xs.length cap∧
   w.heap[b]? =iz (.cells cs e (0,0))∧xs.length≤cap∧cap≤maxLen∧cap*k≤cs.size∧G.ow b=iz (s,p)∧
   (∀o,xs.length*k≤o→o<cap*k→G.lb b o=iz (iB,s,p))∧RL St G w s xs p 0 b 0 k
 |.agg xs,p=>RF St G w s xs p 0
 |.ptr t,p=> ∃b cs e,G.hd s p=.pointer (iz ⟨b,0,iA⟩)∧w.heap[b]? =iz (.cells cs e (0,0))∧cs.size=t.size∧G.ow b=iz (s,p)∧
   Loc G w s t (0::p) b 0∧R St G w s t (0::p)
 |.tup xs,p=>RF St G w s xs p 0
def RL(St:Stb)(G:Gh)(w:World)(s:Nat):List T→List Nat→Nat→Nat→Nat→Nat→Prop
 | [],_,_,_,_,_=>True
 |x::xs,p,i,b,o,k=>(Loc G w s x (i::p) b o∧x.size=k)∧R St G w s x (i::p)∧RL St G w s xs p (i+1) b (o+k) k
def RF(St:Stb)(G:Gh)(w:World)(s:Nat):List T→List Nat→Nat→Prop
 | [],_,_=>True
 |x::xs,p,j=>R St G w s x (j::p)∧RF St G w s xs p (j+1)
end
mutual
def xF(φ:Nat→List Nat→Prop):T→Prop
 |.same r p|.addr r p|.sub r p _ _ _=>φ r p
 |.sl _ xs|.agg xs|.tup xs=>wC φ xs
 |.ptr t=>xF φ t
 |.any|.lit _|.ro _=>True
def wC(φ:Nat→List Nat→Prop):List T→Prop
 | []=>True
 |x::xs=>xF φ x∧wC φ xs
end
mutual
theorem xF.mono{φ ψ:Nat→List Nat→Prop}(h:∀r p,φ r p→ψ r p):(t:T)→xF φ t→xF ψ t
 |.same _ _,ht|.addr _ _,ht|.sub _ _ _ _ _,ht=>h _ _ ht
 |.sl _ xs,ht|.agg xs,ht|.tup xs,ht=>by simp only[xF]at ht ⊢;exact wC.mono h xs ht
 |.ptr t,ht=>by simp only[xF]at ht ⊢;exact xF.mono h t ht
 |.any,_|.lit _,_|.ro _,_=>by simp[xF]
theorem wC.mono{φ ψ:Nat→List Nat→Prop}(h:∀r p,φ r p→ψ r p):(xs:List T)→wC φ xs→wC ψ xs
 | [],_=>trivial
 |x::xs,hx=>⟨xF.mono h x hx.1,wC.mono h xs hx.2⟩
end
mutual
theorem xF.triv{φ:Nat→List Nat→Prop}(h:∀r p,φ r p):(t:T)→xF φ t
 |.same _ _|.addr _ _|.sub _ _ _ _ _=>by simp only[xF];exact h _ _
 |.sl _ xs|.agg xs|.tup xs=>by simp only[xF];exact wC.triv h xs
 |.ptr t=>by simp only[xF];exact xF.triv h t
 |.any|.lit _|.ro _=>by simp only[xF]
theorem wC.triv{φ:Nat→List Nat→Prop}(h:∀r p,φ r p):(xs:List T)→wC φ xs
 | []=>by simp only[wC]
 |x::xs=>by simp only[wC];exact⟨xF.triv h x,wC.triv h xs⟩
end
abbrev yD(t:T):Prop:=xF (fun _ _=>False) t
abbrev xX(xs:List T):Prop:=wC (fun _ _=>False) xs
def Blk(w w':World):Prop:=∀(b:Nat) cs e,w.heap[b]? =iz (.cells cs e (0,0))→ ∃cs',w'.heap[b]? =iz (.cells cs' e (0,0))∧cs'.size=cs.size
structure MovesE (G:Gh) (w:World) (G':Gh) (w':World) (s:Nat) (p:List Nat) (s':Nat) (p':List Nat):Prop where
 hd:∀z,G'.hd s' (z++p')=G.hd s (z++p)
 ad:∀z,z≠[]→G'.ad s' (z++p')=G.ad s (z++p)
 lb:∀b o f z,z≠[]→(∃y,G.ow b=iz (s,y))→G.lb b o=iz (f,s,z++p)→G'.lb b o=iz (f,s',z++p')∧yS w' b o=yS w b o
 ow:∀b z,z≠[]→G.ow b=iz (s,z++p)→G'.ow b=iz (s',z++p')
 blk:Blk w w'
structure zID (G:Gh) (w:World) (G':Gh) (w':World) (s:Nat) (p:List Nat) (s':Nat) (p':List Nat):Prop extends MovesE G w G' w' s p s' p' where
 sp:∀b o,(∃y,G.ow b=iz (s,y))→G.lb b o=iz (iB,s,p)→G'.lb b o=iz (iB,s',p')∧yS w' b o=yS w b o
 ow0:∀b,G.ow b=iz (s,p)→G'.ow b=iz (s',p')
def zAf(G G':Gh)(r:Nat)(p:List Nat):Prop:=G'.hd r p=G.hd r p∧G'.ad r p=G.ad r p
section
variable {St:Stb}{G:Gh}{w:World}{G':Gh}{w':World}{s:Nat}{p:List Nat}{s':Nat}{p':List Nat}
mutual
theorem zEl(hm:MovesE G w G' w' s p s' p'):(t:T)→ ∀(z:List Nat)(b o:Nat),z≠[]→(∃y,G.ow b=iz (s,y))→Loc G w s t (z++p) b o→Loc G' w' s' t (z++p') b o
 |.agg xs,z,b,o,hz,hJ,h=>by
  simp only[Loc]at h ⊢
  exact⟨(hm.ad z hz).trans h.1,zIE hm xs z 0 b o hJ h.2⟩
 |.any,z,b,o,hz,hJ,h|.lit _,z,b,o,hz,hJ,h|.ro _,z,b,o,hz,hJ,h|.same _ _,z,b,o,hz,hJ,h|.addr _ _,z,b,o,hz,hJ,h|.sub _ _ _ _ _,z,b,o,hz,hJ,h|.sl _ _,z,b,o,hz,hJ,h|.ptr _,z,b,o,hz,hJ,h=>by
  simp only[Loc]at h ⊢
  obtain⟨h1,h2,h3⟩:=h;have hl:=hm.lb b o iC z hz hJ h2;exact⟨(hm.ad z hz).trans h1,hl.1,by rw[hl.2,h3,hm.hd]⟩
 |.tup _,_,_,_,_,_,h=>by simp only[Loc]at h
theorem zIE(hm:MovesE G w G' w' s p s' p'):(xs:List T)→ ∀(z:List Nat)(j b o:Nat),(∃y,G.ow b=iz (s,y))→vL G w s xs (z++p) j b o→vL G' w' s' xs (z++p') j b o
 | [],_,_,_,_,_,_=>by simp only[vL]
 |x::xs,z,j,b,o,hJ,h=>by
  simp only[vL]at h ⊢
  exact⟨zEl hm x (j::z) b o (by simp) hJ h.1,zIE hm xs z (j+1) b _ hJ h.2⟩
end
mutual
theorem zEm(hm:MovesE G w G' w' s p s' p'):(t:T)→ ∀(z:List Nat),z≠[]→xF (zAf G G') t→R St G w s t (z++p)→R St G' w' s' t (z++p')
 |.any,_,_,_,_=>by simp only[R]
 |.lit _,z,_,_,h=>by simp only[R]at h ⊢;rw[hm.hd];exact h
 |.ro _,z,_,_,h=>by simp only[R]at h ⊢;rw[hm.hd];exact h
 |.same r q,z,_,hk,h=>by simp only[R]at h ⊢;rw[hm.hd,hk.1];exact h
 |.addr r q,z,_,hk,h=>by simp only[R]at h ⊢;rw[hm.hd,hk.2];exact h
 |.sub r q k lo hi,z,_,hk,h=>by simp only[R]at h ⊢;rw[hm.hd,hk.1];exact h
 |.agg xs,z,_,hk,h=>by simp only[R,xF]at h hk ⊢;exact zEn hm xs z 0 hk h
 |.tup xs,z,_,hk,h=>by simp only[R,xF]at h hk ⊢;exact zEn hm xs z 0 hk h
 |.sl k xs,z,hz,hk,h=>by
  simp only[R,xF]at h hk ⊢
  rw[hm.hd];rcases h with h|⟨b,cap,cs,e,h1,h2,h3,h4,h5,h6,h7,h8⟩
  ·exact .inl h
  ·obtain⟨cs',cr,gw⟩:=hm.blk b cs e h2
   exact .inr ⟨b,cap,cs',e,h1,cr,h3,h4,by omega,hm.ow b z hz h6,fun o ho ho2=>(hm.lb b o iB z hz ⟨_,h6⟩ (h7 o ho (by omega))).1,zJ4 hm xs z 0 b 0 k ⟨_,h6⟩ hk h8⟩
 |.ptr t,z,hz,hk,h=>by
  simp only[R,xF]at h hk ⊢
  rw[hm.hd];obtain⟨b,cs,e,h1,h2,h3,h6,h4,h5⟩:=h;obtain⟨cs',cr,gw⟩:=hm.blk b cs e h2;exact⟨b,cs',e,h1,cr,by omega,hm.ow b z hz h6,zEl hm t (0::z) b 0 (by simp) ⟨_,h6⟩ h4,zEm hm t (0::z) (by simp) hk h5⟩
theorem zJ4(hm:MovesE G w G' w' s p s' p'):(xs:List T)→ ∀(z:List Nat)(i b o k:Nat),(∃y,G.ow b=iz (s,y))→wC (zAf G G') xs→RL St G w s xs (z++p) i b o k→RL St G' w' s' xs (z++p') i b o k
 | [],_,_,_,_,_,_,_,_=>by simp only[RL]
 |x::xs,z,i,b,o,k,hJ,hk,h=>by
  simp only[RL,wC]at h hk ⊢
  exact⟨⟨zEl hm x (i::z) b o (by simp) hJ h.1.1,h.1.2⟩,zEm hm x (i::z) (by simp) hk.1 h.2.1,zJ4 hm xs z (i+1) b _ k hJ hk.2 h.2.2⟩
theorem zEn(hm:MovesE G w G' w' s p s' p'):(xs:List T)→ ∀(z:List Nat)(j:Nat),wC (zAf G G') xs→RF St G w s xs (z++p) j→RF St G' w' s' xs (z++p') j
 | [],_,_,_,_=>by simp only[RF]
 |x::xs,z,j,hk,h=>by
  simp only[RF,wC]at h hk ⊢
  exact⟨zEm hm x (j::z) (by simp) hk.1 h.1,zEn hm xs z (j+1) hk.2 h.2⟩
end
theorem zAl(hm:zID G w G' w' s p s' p')(t:T)(hk:xF (zAf G G') t)(h:R St G w s t p):R St G' w' s' t p':=by
 have hd0:G'.hd s' p'=G.hd s p:=by simpa using hm.hd []
 cases t with
 |any=>simp only[R]
 |lit _=>simp only[R]at h ⊢;rw[hd0];exact h
 |ro _=>simp only[R]at h ⊢;rw[hd0];exact h
 |same r q=>simp only[R]at h ⊢;rw[hd0,hk.1];exact h
 |addr r q=>simp only[R]at h ⊢;rw[hd0,hk.2];exact h
 |sub r q k lo hi=>simp only[R]at h ⊢;rw[hd0,hk.1];exact h
 |agg xs=>simp only[R,xF]at h hk ⊢;simpa using zEn hm.toMovesE xs [] 0 hk (by simpa using h)
 |tup xs=>simp only[R,xF]at h hk ⊢;simpa using zEn hm.toMovesE xs [] 0 hk (by simpa using h)
 |sl k xs=>
  simp only[R,xF]at h hk ⊢
  rw[hd0];rcases h with h|⟨b,cap,cs,e,h1,h2,h3,h4,h5,h6,h7,h8⟩
  ·exact .inl h
  ·obtain⟨cs',cr,gw⟩:=hm.blk b cs e h2
   exact .inr ⟨b,cap,cs',e,h1,cr,h3,h4,by omega,hm.ow0 b h6,fun o ho ho2=>(hm.sp b o ⟨_,h6⟩ (h7 o ho (by omega))).1,by simpa using zJ4 hm.toMovesE xs [] 0 b 0 k ⟨_,h6⟩ hk (by simpa using h8)⟩
 |ptr t=>
  simp only[R,xF]at h hk ⊢
  rw[hd0];obtain⟨b,cs,e,h1,h2,h3,h6,h4,h5⟩:=h;obtain⟨cs',cr,gw⟩:=hm.blk b cs e h2;exact⟨b,cs',e,h1,cr,by omega,hm.ow0 b h6,zEl hm.toMovesE t [0] b 0 (by simp) ⟨_,h6⟩ h4,zEm hm.toMovesE t [0] (by simp) hk h5⟩
theorem zR3(hm:zID G w G' w' s p s' p')(t:T)(z:List Nat)(hk:xF (zAf G G') t)(h:R St G w s t (z++p)):R St G' w' s' t (z++p'):=by
 cases z with
 |nil=>exact zAl hm t hk h
 |cons i z=>exact zEm hm.toMovesE t (i::z) (by simp) hk h
end
end Go.Ab

namespace Go.Ab
open Go
def T.get:T→List Nat→Option T
 |t,[]=>iz t
 |.sl _ xs,i::f|.agg xs,i::f|.tup xs,i::f=>match xs[i]? with
  |some x=>x.get f
  |none=>iA
 |.ptr t,i::f=>if i=0 then t.get f else iA
 |.any,_::_|.lit _,_::_|.ro _,_::_|.same _ _,_::_|.addr _ _,_::_|.sub _ _ _ _ _,_::_=>iA
termination_by structural _ f=>f
def T.set:T→List Nat→T→T
 |_,[],u=>u
 |.sl k xs,i::f,u=>match xs[i]? with
  |some x=>.sl k (xs.set i (x.set f u))
  |none=>.sl k xs
 |.agg xs,i::f,u=>match xs[i]? with
  |some x=>.agg (xs.set i (x.set f u))
  |none=>.agg xs
 |.tup xs,i::f,u=>match xs[i]? with
  |some x=>.tup (xs.set i (x.set f u))
  |none=>.tup xs
 |.ptr t,i::f,u=>if i=0 then .ptr (t.set f u)else .ptr t
 |.any,_::_,_=>.any
 |.lit v,_::_,_=>.lit v
 |.ro t,_::_,_=>.ro t
 |.same r q,_::_,_=>.same r q
 |.addr r q,_::_,_=>.addr r q
 |.sub r q k lo hi,_::_,_=>.sub r q k lo hi
termination_by structural _ f _=>f
def T.locd:T→List Nat→Bool
 |_,[]=>iC
 |.sl _ _,_::_|.ptr _,_::_=>iB
 |.agg xs,i::f|.tup xs,i::f=>match xs[i]? with
  |some x=>x.locd f
  |none=>iC
 |.any,_::_|.lit _,_::_|.ro _,_::_|.same _ _,_::_|.addr _ _,_::_|.sub _ _ _ _ _,_::_=>iC
termination_by structural _ f=>f
abbrev rp(f p:List Nat):List Nat:=f.reverse++p
theorem zBA(i:Nat)(f p:List Nat):rp (i::f) p=rp f (i::p):=by simp[rp]
section
variable {St:Stb}{G:Gh}{w:World}{s:Nat}
theorem jS:(xs:List T)→ ∀(p:List Nat)(i0 b o k i:Nat)(x:T),RL St G w s xs p i0 b o k→xs[i]? =iz x→
  Loc G w s x ((i0+i)::p) b (o+i*k)∧x.size=k∧R St G w s x ((i0+i)::p)
 | [],_,_,_,_,_,_,_,_,h=>by simp at h
 |y::ys,p,i0,b,o,k,i,x,hr,h=>by
  simp only[RL]at hr;cases i with
  |zero=>
   grind
  |succ i=>
   have:=jS ys p (i0+1) b (o+k) k i x hr.2.2 (by grind)
   grind
theorem zAX:(xs:List T)→ ∀(p:List Nat)(j i:Nat)(x:T),RF St G w s xs p j→xs[i]? =iz x→R St G w s x ((j+i)::p)
 | [],_,_,_,_,_,h=>by simp at h
 |y::ys,p,j,i,x,hr,h=>by
  simp only[RF]at hr;cases i with
  |zero=>grind
  |succ i=>
   have:=zAX ys p (j+1) i x hr.2 (by grind)
   grind
theorem zKI:(xs:List T)→ ∀(p:List Nat)(j b o i:Nat)(x:T),vL G w s xs p j b o→xs[i]? =iz x→
  ∃o',Loc G w s x ((j+i)::p) b o'∧o≤o'∧o'+x.size≤o+T.sizes xs
 | [],_,_,_,_,_,_,_,h=>by simp at h
 |y::ys,p,j,b,o,i,x,hr,h=>by
  simp only[vL]at hr;cases i with
  |zero=>grind[T.sizes]
  |succ i=>
   obtain⟨o',h1,h2,h3⟩:=zKI ys p (j+1) b (o+y.size) i x hr.2 (by grind)
   grind[T.sizes]
def At(G:Gh)(w:World)(s:Nat)(t:T)(p:List Nat):Prop:=
 ∃b o cs e,Loc G w s t p b o∧w.heap[b]? =iz (.cells cs e (0,0))∧o+t.size≤cs.size
theorem At.field{xs:List T}{p:List Nat}(h:At G w s (.agg xs) p){i:Nat}{x:T}(hx:xs[i]? =iz x):At G w s x (i::p):=by obtain⟨b,o,cs,e,hl,hh,hs⟩:=h;simp only[Loc]at hl;obtain⟨o',h1,h2,h3⟩:=zKI xs p 0 b o i x hl.2 hx;simp only[T.size]at hs;exact⟨b,o',cs,e,by grind,hh,by omega⟩
theorem zCV{k:Nat}{xs:List T}{p:List Nat}(h:R St G w s (.sl k xs) p){i:Nat}{x:T}(hx:xs[i]? =iz x):
  At G w s x (i::p)∧R St G w s x (i::p):=by
 simp only[R]at h;have hi:=(Jw.1 hx).1;rcases h with⟨rfl,_⟩|⟨b,cap,cs,e,h1,h2,h3,h4,h5,h6,h7,h8⟩
 ·simp at hx
 ·obtain⟨a1,a2,a3⟩:=jS xs p 0 b 0 k i x h8 hx
  simp only[Jf]at a1 a3;refine⟨⟨b,i*k,cs,e,a1,h2,?_⟩,a3⟩;rw[a2,←K6];exact Gm (K7 _ (by omega)) h5
theorem zBh{t:T}{p:List Nat}(h:R St G w s (.ptr t) p):At G w s t (0::p)∧R St G w s t (0::p):=by simp only[R]at h;obtain⟨b,cs,e,h1,h2,h3,h6,h4,h5⟩:=h;exact⟨⟨b,0,cs,e,h4,h2,by omega⟩,h5⟩
theorem zA1:(f:List Nat)→ ∀(t u:T)(p:List Nat),At G w s t p→R St G w s t p→t.get f=iz u→At G w s u (rp f p)∧R St G w s u (rp f p)
 | [],t,u,p,ha,h,hg=>by simp[T.get]at hg;grind
 |i::f,t,u,p,ha,h,hg=>by
  rw[zBA];cases t with
  |sl k xs=>
   simp only[T.get]at hg;cases hx:xs[i]? with
   |none=>grind
   |some x=>rw[hx]at hg;exact zA1 f x u _ (zCV h hx).1 (zCV h hx).2 hg
  |ptr t=>
   simp only[T.get]at hg;split at hg
   ·rename_i hi;subst hi;exact zA1 f t u _ (zBh h).1 (zBh h).2 hg
   ·cases hg
  |agg xs=>
   simp only[T.get]at hg;cases hx:xs[i]? with
   |none=>grind
   |some x=>rw[hx]at hg;exact zA1 f x u _ (ha.field hx) (by simp only[R]at h;simpa using zAX xs p 0 i x h hx) hg
  |tup xs=>obtain⟨b,o,cs,e,hl,_⟩:=ha;simp only[Loc]at hl
  |_=>grind[T.get]
theorem zA2:(f:List Nat)→ ∀(t u:T)(p:List Nat),R St G w s t p→t.get f=iz u→R St G w s u (rp f p)∧(t.locd f=iB→At G w s u (rp f p))
 | [],t,u,p,h,hg=>by simp[T.get]at hg;subst hg;simpa[rp,T.locd]using h
 |i::f,t,u,p,h,hg=>by
  rw[zBA];cases t with
  |sl k xs=>
   simp only[T.get]at hg;cases hx:xs[i]? with
   |none=>grind
   |some x=>rw[hx]at hg;exact⟨(zA1 f x u _ (zCV h hx).1 (zCV h hx).2 hg).2,fun _=>(zA1 f x u _ (zCV h hx).1 (zCV h hx).2 hg).1⟩
  |ptr t=>
   simp only[T.get]at hg;split at hg
   ·rename_i hi;subst hi;exact⟨(zA1 f t u _ (zBh h).1 (zBh h).2 hg).2,fun _=>(zA1 f t u _ (zBh h).1 (zBh h).2 hg).1⟩
   ·cases hg
  |agg xs=>
   simp only[T.get,T.locd]at hg ⊢
   cases hx:xs[i]? with
   |none=>grind
   |some x=>rw[hx]at hg;exact zA2 f x u _ (by simp only[R]at h;simpa using zAX xs p 0 i x h hx) hg
  |tup xs=>
   simp only[T.get,T.locd]at hg ⊢
   cases hx:xs[i]? with
   |none=>grind
   |some x=>rw[hx]at hg;exact zA2 f x u _ (by simp only[R]at h;simpa using zAX xs p 0 i x h hx) hg
  |_=>grind[T.get]
end
structure Upd (G:Gh) (w:World) (G':Gh) (w':World) (s:Nat) (tgt:List Nat):Prop where
 hd:∀p,¬tgt<:+p→G'.hd s p=G.hd s p
 ad:∀p,¬tgt<:+p→G'.ad s p=G.ad s p
 lb:∀b o f p,G.lb b o=iz (f,s,p)→ ¬tgt<:+p→G'.lb b o=iz (f,s,p)∧yS w' b o=yS w b o
 ow:∀b p,G.ow b=iz (s,p)→ ¬tgt<:+p→G'.ow b=iz (s,p)
 blk:Blk w w'
section
variable {St:Stb}{G:Gh}{w:World}{G':Gh}{w':World}{s:Nat}{tgt:List Nat}
theorem Upd.moves(h:Upd G w G' w' s tgt){p:List Nat}(hp:∀z,¬tgt<:+z++p):zID G w G' w' s p s p where
 hd z:=h.hd _ (hp z)
 ad z _:=h.ad _ (hp z)
 lb b o f z _ _ hl:=h.lb b o f _ hl (hp z)
 ow b z _ hl:=h.ow b _ hl (hp z)
 sp b o _ hl:=h.lb b o iB p hl (hp [])
 ow0 b hl:=h.ow b p hl (hp [])
 blk:=h.blk
mutual
theorem zEo(hm:Upd G w G' w' s tgt):(t:T)→ ∀(p:List Nat)(b o:Nat),(∀z,¬tgt<:+z++p)→Loc G w s t p b o→Loc G' w' s t p b o
 |.agg xs,p,b,o,hz,h=>by
  simp only[Loc]at h ⊢
  exact⟨(hm.ad p (hz [])).trans h.1,zKJ hm xs p 0 b o hz h.2⟩
 |.any,p,b,o,hz,h|.lit _,p,b,o,hz,h|.ro _,p,b,o,hz,h|.same _ _,p,b,o,hz,h|.addr _ _,p,b,o,hz,h|.sub _ _ _ _ _,p,b,o,hz,h|.sl _ _,p,b,o,hz,h|.ptr _,p,b,o,hz,h=>by
  simp only[Loc]at h ⊢
  obtain⟨h1,h2,h3⟩:=h;have hl:=hm.lb b o iC p h2 (hz []);exact⟨(hm.ad p (hz [])).trans h1,hl.1,by rw[hl.2,h3,hm.hd p (hz [])]⟩
 |.tup _,_,_,_,_,h=>by simp only[Loc]at h
theorem zKJ(hm:Upd G w G' w' s tgt):(xs:List T)→ ∀(p:List Nat)(j b o:Nat),(∀z,¬tgt<:+z++p)→vL G w s xs p j b o→vL G' w' s xs p j b o
 | [],_,_,_,_,_,_=>by simp only[vL]
 |x::xs,p,j,b,o,hz,h=>by
  simp only[vL]at h ⊢
  exact⟨zEo hm x (j::p) b o (fun z=>by have:=hz (z++[j]);grind) h.1,zKJ hm xs p (j+1) b _ hz h.2⟩
end
theorem zKK(hm:Upd G w G' w' s tgt)(t u:T)(p:List Nat)(b o:Nat)(ht:∀xs,t≠.agg xs)(hu:∀xs,u≠.agg xs)(tp:∀xs,u≠.tup xs)(hz:¬tgt<:+p)(h:Loc G w s t p b o):Loc G' w' s u p b o:=by
 have h3:G.ad s p=⟨b,o,iA⟩∧G.lb b o=iz (iC,s,p)∧yS w b o=iz (G.hd s p):=by
  cases t with
  |agg xs=>grind
  |tup xs=>simp only[Loc]at h
  |_=>simpa only[Loc]using h
 obtain⟨h1,h2,h3⟩:=h3;have hl:=hm.lb b o iC p h2 hz;have h4:G'.ad s p=⟨b,o,iA⟩∧G'.lb b o=iz (iC,s,p)∧yS w' b o=iz (G'.hd s p):=⟨(hm.ad p hz).trans h1,hl.1,by rw[hl.2,h3,hm.hd p hz]⟩;cases u with
 |agg xs=>grind
 |tup xs=>grind
 |_=>simpa only[Loc]using h4
theorem jT{f p:List Nat}{i i':Nat}(hi:i'≠i)(z:List Nat):¬f.reverse++(i::p)<:+z++(i'::p):=by
 rintro⟨y,hy⟩
 rw[←Jd]at hy;have:=List.append_inj_right' hy rfl
 grind
theorem kH{f p:List Nat}{i:Nat}:¬f.reverse++(i::p)<:+p:=by
 intro h;have:=h.length_le
 grind
theorem zIF:(xs:List T)→ ∀(i:Nat)(x y:T),xs[i]? =iz x→y.size=x.size→T.sizes (xs.set i y)=T.sizes xs
 | [],_,_,_,h,_=>by simp at h
 |z::zs,i,x,y,h,hs=>by
  cases i with
  |zero=>grind[T.sizes]
  |succ i=>simp only[Lg,T.sizes,zIF zs i x y (by grind) hs]
theorem zEp:(f:List Nat)→ ∀(t u u0:T),t.get f=iz u0→u.size=u0.size→(t.set f u).size=t.size
 | [],t,u,u0,h,hs=>by grind[T.get,T.set]
 |i::f,t,u,u0,h,hs=>by
  cases t with
  |sl k xs=>grind[T.set,T.size]
  |tup xs=>grind[T.set,T.size]
  |agg xs=>
   simp only[T.get]at h;cases hx:xs[i]? with
   |none=>grind
   |some x=>
    rw[hx]at h;simp only[T.set,hx,T.size];exact zIF xs i x _ hx (zEp f x u u0 h hs)
  |ptr t=>grind[T.set,T.size]
  |_=>rfl
theorem zKL(hm:Upd G w G' w' s tgt):(xs:List T)→ ∀(p:List Nat)(j b o i:Nat)(x y:T),vL G w s xs p j b o→xs[i]? =iz x→y.size=x.size→
  (∀i',i'≠j+i→ ∀z,¬tgt<:+z++(i'::p))→(∀o',Loc G w s x ((j+i)::p) b o'→Loc G' w' s y ((j+i)::p) b o')→vL G' w' s (xs.set i y) p j b o
 | [],_,_,_,_,_,_,_,_,h,_,_,_=>by simp at h
 |z::zs,p,j,b,o,i,x,y,hl,h,hs,hz,hy=>by
  simp only[vL]at hl;cases i with
  |zero=>
   simp at h;subst h;simp only[Lw,vL,hs];exact⟨by grind,LocF_upd' hm zs p (j+1) b _ (by grind) hl.2⟩
  |succ i=>
   simp only[Lg,vL];refine⟨by grind[zEo],zKL hm zs p (j+1) b _ i x y hl.2 (by grind) hs (by grind) ?_⟩
   grind
where LocF_upd' (hm:Upd G w G' w' s tgt):(xs:List T)→ ∀(p:List Nat)(j b o:Nat),(∀i',j≤i'→ ∀z,¬tgt<:+z++(i'::p))→vL G w s xs p j b o→vL G' w' s xs p j b o
 | [],_,_,_,_,_,_=>by simp only[vL]
 |x::xs,p,j,b,o,hz,h=>by
  simp only[vL]at h ⊢
  exact⟨zEo hm x (j::p) b o (by grind) h.1,LocF_upd' hm xs p (j+1) b _ (by grind) h.2⟩
theorem zJ5:(f:List Nat)→ ∀(t u u0:T)(p:List Nat)(b o:Nat),Upd G w G' w' s (rp f p)→Loc G w s t p b o→t.get f=iz u0→u.size=u0.size→
  (∀o',Loc G w s u0 (rp f p) b o'→Loc G' w' s u (rp f p) b o')→Loc G' w' s (t.set f u) p b o
 | [],t,u,u0,p,b,o,hm,hl,hg,hs,hu=>by simp[T.get]at hg;subst hg;simpa[T.set,rp]using hu o (by grind)
 |i::f,t,u,u0,p,b,o,hm,hl,hg,hs,hu=>by
  have gR:=hm;rw[zBA]at gR;cases t with
  |sl k xs=>
   have:∃ys,(T.sl k xs).set (i::f) u=.sl k ys:=by simp only[T.set];grind
   obtain⟨ys,hy⟩:=this;rw[hy];exact zKK gR (.sl k xs) (.sl k ys) p b o (by simp) (by simp) (by simp) kH hl
  |ptr t=>
   have:∃ys,(T.ptr t).set (i::f) u=.ptr ys:=by simp only[T.set];grind
   obtain⟨ys,hy⟩:=this;rw[hy];exact zKK gR (.ptr t) (.ptr ys) p b o (by simp) (by simp) (by simp) kH hl
  |agg xs=>
   simp only[T.get]at hg;cases hx:xs[i]? with
   |none=>grind
   |some x=>
    rw[hx]at hg;simp only[T.set,hx];simp only[Loc]at hl ⊢
    refine⟨(gR.ad p kH).trans hl.1,zKL gR xs p 0 b o i x _ hl.2 hx (zEp f x u u0 hg hs) (by grind[jT]) ?_⟩;intro o' ho';simp only[Jf]at ho' ⊢
    exact zJ5 f x u u0 (i::p) b o' gR ho' hg hs (by grind)
  |tup xs=>simp only[Loc]at hl
  |_=>grind[T.get]
end
end Go.Ab

namespace Go.Ab
open Go
section
variable {St:Stb}{G:Gh}{w:World}{G':Gh}{w':World}{s:Nat}{tgt:List Nat}
theorem zO3(hm:Upd G w G' w' s tgt)(t:T)(p:List Nat)(hz:∀z,¬tgt<:+z++p)(hk:xF (zAf G G') t)(h:R St G w s t p):R St G' w' s t p:=by simpa using zR3 (hm.moves hz) t [] hk (by simpa using h)
theorem zR4(hm:Upd G w G' w' s tgt):(xs:List T)→ ∀(p:List Nat)(i b o k:Nat),(∀i',i≤i'→ ∀z,¬tgt<:+z++(i'::p))→wC (zAf G G') xs→RL St G w s xs p i b o k→RL St G' w' s xs p i b o k
 | [],_,_,_,_,_,_,_,_=>by simp only[RL]
 |x::xs,p,i,b,o,k,hz,hk,h=>by
  simp only[RL,wC]at h hk ⊢
  exact⟨⟨zEo hm x (i::p) b o (hz i (Jl _)) h.1.1,h.1.2⟩,zO3 hm x (i::p) (hz i (Jl _)) hk.1 h.2.1,
   zR4 hm xs p (i+1) b _ k (fun i' cD=>hz i' (by omega)) hk.2 h.2.2⟩
theorem zR5(hm:Upd G w G' w' s tgt):(xs:List T)→ ∀(p:List Nat)(i0 b o k i:Nat)(x y:T),RL St G w s xs p i0 b o k→xs[i]? =iz x→y.size=x.size→wC (zAf G G') xs→
  (∀i',i'≠i0+i→ ∀z,¬tgt<:+z++(i'::p))→(∀o',Loc G w s x ((i0+i)::p) b o'→Loc G' w' s y ((i0+i)::p) b o')→R St G' w' s y ((i0+i)::p)→
  RL St G' w' s (xs.set i y) p i0 b o k
 | [],_,_,_,_,_,_,_,_,_,h,_,_,_,_,_=>by simp at h
 |z::zs,p,i0,b,o,k,i,x,y,hr,h,hs,hk,hz,hl,hy=>by
  simp only[RL,wC]at hr hk;cases i with
  |zero=>
   simp at h;subst h;simp only[Lw,RL];exact⟨⟨by simpa using hl o (by simpa using hr.1.1),by omega⟩,by simpa using hy,zR4 hm zs p (i0+1) b _ k (fun i' cD=>hz i' (by omega)) hk.2 hr.2.2⟩
  |succ i=>
   simp only[Lg,RL];rw[show i0+(i+1)=i0+1+i from by omega]at hl hy hz;exact⟨⟨zEo hm z _ b o (hz i0 (by omega)) hr.1.1,hr.1.2⟩,zO3 hm z _ (hz i0 (by omega)) hk.1 hr.2.1,zR5 hm zs p (i0+1) b _ k i x y hr.2.2 (by simpa using h) hs hk.2 hz hl hy⟩
theorem zR6(hm:Upd G w G' w' s tgt):(xs:List T)→ ∀(p:List Nat)(i:Nat),(∀i',i≤i'→ ∀z,¬tgt<:+z++(i'::p))→wC (zAf G G') xs→RF St G w s xs p i→RF St G' w' s xs p i
 | [],_,_,_,_,_=>by simp only[RF]
 |x::xs,p,i,hz,hk,h=>by
  simp only[RF,wC]at h hk ⊢
  exact⟨zO3 hm x (i::p) (hz i (Jl _)) hk.1 h.1,zR6 hm xs p (i+1) (fun i' cD=>hz i' (by omega)) hk.2 h.2⟩
theorem zMZ(hm:Upd G w G' w' s tgt):(xs:List T)→ ∀(p:List Nat)(i0 i:Nat)(x y:T),RF St G w s xs p i0→xs[i]? =iz x→wC (zAf G G') xs→
  (∀i',i'≠i0+i→ ∀z,¬tgt<:+z++(i'::p))→R St G' w' s y ((i0+i)::p)→
  RF St G' w' s (xs.set i y) p i0
 | [],_,_,_,_,_,_,h,_,_,_=>by simp at h
 |z::zs,p,i0,i,x,y,hr,h,hk,hz,hy=>by
  simp only[RF,wC]at hr hk;cases i with
  |zero=>
   simp at h;subst h;simp only[Lw,RF];exact⟨by simpa using hy,zR6 hm zs p (i0+1) (fun i' cD=>hz i' (by omega)) hk.2 hr.2⟩
  |succ i=>
   simp only[Lg,RF];rw[show i0+(i+1)=i0+1+i from by omega]at hy hz;exact⟨zO3 hm z _ (hz i0 (by omega)) hk.1 hr.1,zMZ hm zs p (i0+1) i x y hr.2 (by simpa using h) hk.2 hz hy⟩
theorem uO{φ:Nat→List Nat→Prop}:(xs:List T)→wC φ xs→ ∀(i:Nat)(x:T),xs[i]? =iz x→xF φ x
 | [],_,_,_,h=>by simp at h
 |y::ys,hk,i,x,h=>by
  simp only[wC]at hk;cases i with
  |zero=>simp at h;subst h;exact hk.1
  |succ i=>exact uO ys hk.2 i x (by simpa using h)
theorem zFN:(f:List Nat)→ ∀(t u u0:T)(p:List Nat),Upd G w G' w' s (rp f p)→R St G w s t p→t.get f=iz u0→u.size=u0.size→xF (zAf G G') t→
  (∀b o,Loc G w s u0 (rp f p) b o→Loc G' w' s u (rp f p) b o)→R St G' w' s u (rp f p)→R St G' w' s (t.set f u) p
 | [],t,u,u0,p,hm,hr,hg,hs,hk,hl,hu=>by simpa[T.set,rp]using hu
 |i::f,t,u,u0,p,hm,hr,hg,hs,hk,hl,hu=>by
  have gR:=hm;rw[zBA]at gR hl hu;cases t with
  |sl k xs=>
   simp only[T.get]at hg;cases hx:xs[i]? with
   |none=>simp[hx]at hg
   |some x=>
    rw[hx]at hg;simp only[T.set,hx];simp only[R,xF]at hr hk ⊢
    rcases hr with⟨rfl,_⟩|⟨b,cap,cs,e,h1,h2,h3,h4,h5,h6,h7,h8⟩
    ·simp at hx
    ·obtain⟨cs',cr,gw⟩:=gR.blk b cs e h2
     refine .inr ⟨b,cap,cs',e,by rw[gR.hd p kH,Ql];exact h1,cr,by rw[Ql];exact h3,h4,by omega,gR.ow b p h6 kH,?_,?_⟩
     ·intro o ho ho2
      rw[Ql]at ho;exact(gR.lb b o iB p (h7 o ho (by omega)) kH).1
     ·have t8:=jS xs p 0 b 0 k i x h8 hx
      simp only[Jf]at t8;refine zR5 gR xs p 0 b 0 k i x _ h8 hx (zEp f x u u0 hg hs) hk (fun i' cD z=>jT (by omega) z) ?_ ?_
      ·intro o' ho'
       simp only[Jf]at ho' ⊢
       exact zJ5 f x u u0 (i::p) b o' gR ho' hg hs (fun o''=>hl b o'')
      ·simp only[Jf]
       exact zFN f x u u0 (i::p) gR t8.2.2 hg hs (uO xs hk i x hx) hl hu
  |ptr t=>
   simp only[T.get]at hg;split at hg
   ·rename_i hi;subst hi
    simp only[T.set,if_true];simp only[R,xF]at hr hk ⊢
    obtain⟨b,cs,e,h1,h2,h3,h6,h4,h5⟩:=hr;obtain⟨cs',cr,gw⟩:=gR.blk b cs e h2;refine⟨b,cs',e,by rw[gR.hd p kH];exact h1,cr,by rw[zEp f t u u0 hg hs];omega,gR.ow b p h6 kH,zJ5 f t u u0 (0::p) b 0 gR h4 hg hs (fun o''=>hl b o''),zFN f t u u0 (0::p) gR h5 hg hs hk hl hu⟩
   ·cases hg
  |agg xs=>
   simp only[T.get]at hg;cases hx:xs[i]? with
   |none=>simp[hx]at hg
   |some x=>
    rw[hx]at hg;simp only[T.set,hx];simp only[R,xF]at hr hk ⊢
    refine zMZ gR xs p 0 i x _ hr hx hk (fun i' cD z=>jT (by omega) z) ?_;simp only[Jf];exact zFN f x u u0 (i::p) gR (by simpa using zAX xs p 0 i x hr hx) hg hs (uO xs hk i x hx) hl hu
  |tup xs=>
   simp only[T.get]at hg;cases hx:xs[i]? with
   |none=>simp[hx]at hg
   |some x=>
    rw[hx]at hg;simp only[T.set,hx];simp only[R,xF]at hr hk ⊢
    refine zMZ gR xs p 0 i x _ hr hx hk (fun i' cD z=>jT (by omega) z) ?_;simp only[Jf];exact zFN f x u u0 (i::p) gR (by simpa using zAX xs p 0 i x hr hx) hg hs (uO xs hk i x hx) hl hu
  |_=>simp[T.get]at hg
end
end Go.Ab

namespace Go.Ab
open Go
mutual
def vals(G:Gh)(s:Nat):T→List Nat→List Value
 |.agg xs,p=>yI G s xs p 0
 |.any,p|.lit _,p|.ro _,p|.same _ _,p|.addr _ _,p|.sub _ _ _ _ _,p|.sl _ _,p|.ptr _,p|.tup _,p=>[G.hd s p]
def yI(G:Gh)(s:Nat):List T→List Nat→Nat→List Value
 | [],_,_=>[]
 |x::xs,p,j=>vals G s x (j::p)++yI G s xs p (j+1)
end
def sV(G:Gh)(s:Nat)(t:T)(p:List Nat):Value:=
 match t with
 |.agg xs=>.agg (yI G s xs p 0).toArray
 |_=>G.hd s p
def jG(G:Gh)(s:Nat):List T→List Nat→Nat→List Value
 | [],_,_=>[]
 |x::xs,p,j=>sV G s x (j::p)::jG G s xs p (j+1)
def mkV(G:Gh)(s:Nat)(t:T)(p:List Nat):Value:=
 match t with
 |.agg xs=>.agg (yI G s xs p 0).toArray
 |.tup xs=>.tuple (jG G s xs p 0).toArray
 |_=>G.hd s p
mutual
def Top:T→Prop
 |.sl _ xs=>xX xs
 |.ptr t=>yD t
 |.agg xs|.tup xs=>vQ xs
 |.any|.lit _|.ro _|.same _ _|.addr _ _|.sub _ _ _ _ _=>True
def vQ:List T→Prop
 | []=>True
 |x::xs=>Top x∧vQ xs
end
mutual
theorem Top.of_clean:(t:T)→yD t→Top t
 |.sl _ xs,h=>by simpa only[Top,yD,xF]using h
 |.ptr t,h=>by simpa only[Top,yD,xF]using h
 |.agg xs,h|.tup xs,h=>by simp only[Top];exact vQ.of_clean xs (by simpa only[yD,xF]using h)
 |.any,_|.lit _,_|.ro _,_|.same _ _,_|.addr _ _,_|.sub _ _ _ _ _,_=>by simp only[Top]
theorem vQ.of_clean:(xs:List T)→xX xs→vQ xs
 | [],_=>by simp only[vQ]
 |x::xs,h=>by simp only[vQ];exact⟨Top.of_clean x h.1,vQ.of_clean xs h.2⟩
end
abbrev Chg:=List (Nat×Nat)
def Off(chg:Chg)(s:Nat)(p:List Nat):Prop:=∀n,(s,n)∈chg→p.length<n
def zAg(chg:Chg)(r:Nat)(p:List Nat):Bool:=chg.all fun c=>c.1 != r||decide (p.length<c.2)
theorem zQa{chg:Chg}{r:Nat}{p:List Nat}(h:zAg chg r p=iB):Off chg r p:=by intro n hn;have:=Ki.1 h _ hn;simpa using this
mutual
def T.okB(chg:Chg):T→Bool
 |.same r p|.addr r p|.sub r p _ _ _=>zAg chg r p
 |.agg xs|.tup xs=>zKM chg xs
 |.any|.lit _|.ro _|.sl _ _|.ptr _=>iB
def zKM(chg:Chg):List T→Bool
 | []=>iB
 |x::xs=>x.okB chg&&zKM chg xs
end
mutual
theorem zAm{chg:Chg}:(t:T)→Top t→t.okB chg=iB→xF (Off chg) t
 |.same r p,_,h|.addr r p,_,h|.sub r p _ _ _,_,h=>by simp only[T.okB]at h;simp only[xF];exact zQa h
 |.agg xs,ht,h|.tup xs,ht,h=>by simp only[T.okB,Top]at h ht;simp only[xF];exact zGD xs ht h
 |.sl _ xs,ht,_=>by simp only[Top]at ht;simp only[xF];exact wC.mono (fun _ _=>False.elim) xs ht
 |.ptr t,ht,_=>by simp only[Top]at ht;simp only[xF];exact xF.mono (fun _ _=>False.elim) t ht
 |.any,_,_|.lit _,_,_|.ro _,_,_=>by simp only[xF]
theorem zGD{chg:Chg}:(xs:List T)→vQ xs→zKM chg xs=iB→wC (Off chg) xs
 | [],_,_=>by simp only[wC]
 |x::xs,ht,h=>by simp only[zKM,vQ,J4]at h ht;simp only[wC];exact⟨zAm x ht.1 h.1,zGD xs ht.2 h.2⟩
end
abbrev Env:=Nat→Option T
abbrev Wr:=List (Nat×Option T)
def Wr.find(wr:Wr)(s:Nat):Option (Option T):=
 match wr with
 | []=>iA
 |(k,x)::r=>if k=s then iz x else Wr.find r s
def Env.app(E:Env)(wr:Wr)(chg:Chg):Env:=fun s=>
 match wr.find s with
 |some x=>x
 |none=>match E s with
  |some t=>if t.okB chg then iz t else iA
  |none=>iA
structure Ctx where
 St:Stb
 W:Nat→Prop
 w0:World
 N:Nat
def zCn(Γ:Ctx)(w:World)(b:Nat):Prop:=b<w.heap.size∧(Γ.w0.heap.size≤b∨Γ.W b)∧Γ.St b=iA
structure zVj (w w':World):Prop where
 blk:Blk w w'
 os:w'.os=w.os
 out:w'.output=w.output
structure Mem (Γ:Ctx) (G:Gh) (w:World):Prop where
 one:∀s p,(G.hd s p).oneCell'=iB
 lb:∀b o l,G.lb b o=iz l→zCn Γ w b
 ow:∀b l,G.ow b=iz l→zCn Γ w b
 st:∀b x,Γ.St b=iz x→w.heap[b]? =iz x
 fr:∀b,b<Γ.w0.heap.size→ ¬Γ.W b→w.heap[b]? =Γ.w0.heap[b]?
 sz:Γ.w0.heap.size≤w.heap.size
 bk:zVj Γ.w0 w
theorem Blk.trans{w w' w'':World}(h:Blk w w')(h':Blk w' w''):Blk w w'':=fun b cs e hb=>by obtain⟨cs',h1,h2⟩:=h b cs e hb;obtain⟨cs'',h3,h4⟩:=h' b cs' e h1;exact⟨cs'',h3,by omega⟩
theorem zVj.trans{w w' w'':World}(h:zVj w w')(h':Blk w' w'')(ho:w''.os=w'.os)(hq:w''.output=w'.output):zVj w w'':=⟨h.blk.trans h',ho.trans h.os,hq.trans h.out⟩
def Ent(Γ:Ctx)(G:Gh)(w:World)(v:Option Value)(s:Nat)(t:T):Prop:=v=iz (mkV G s t [])∧R Γ.St G w s t []∧Top t
structure Rep (Γ:Ctx) (E:Env) (G:Gh) (tmps:Array Value) (w:World):Prop where
 size:tmps.size=Γ.N
 ent:∀s t,E s=iz t→Ent Γ G w tmps[s]? s t
 mem:Mem Γ G w
def Sim(Γ:Ctx)(E:Env)(a:Act)(w:World):Prop:=a.defers=[]∧ ∃G,Rep Γ E G a.tmps w
structure zDs (S S':Stb) (W:Nat→Prop) (n:Nat):Prop where
 le:∀b x,S b=iz x→S' b=iz x
 nw:∀b,S b=iA→S' b≠iA→n≤b∨W b
theorem zDs.refl{S:Stb}{W:Nat→Prop}{n:Nat}:zDs S S W n:=⟨fun _ _ h=>h,fun _ h h'=>absurd h h'⟩
theorem zDs.trans{S S' S'':Stb}{W:Nat→Prop}{n:Nat}(h:zDs S S' W n)(h':zDs S' S'' W n):zDs S S'' W n:=
 ⟨fun b x hb=>h'.le b x (h.le b x hb),fun b hb eR=>by
  cases hs:S' b with
  |none=>exact h'.nw b hs eR
  |some x=>exact h.nw b hb (by rw[hs];simp)⟩
abbrev Ctx.at(Γ:Ctx)(S:Stb):Ctx:={ Γ with St:=S }
def jH(Γ:Ctx)(E:Env)(a:Act)(w:World):Prop:=∃S,zDs Γ.St S Γ.W Γ.w0.heap.size∧Sim (Γ.at S) E a w
theorem jH.of{Γ:Ctx}{E:Env}{a:Act}{w:World}(h:Sim Γ E a w):jH Γ E a w:=⟨Γ.St,.refl,h⟩
theorem jH.up{Γ:Ctx}{E:Env}{a:Act}{w:World}{S:Stb}(hS:zDs Γ.St S Γ.W Γ.w0.heap.size)(h:jH (Γ.at S) E a w):jH Γ E a w:=by obtain⟨S',h1,h2⟩:=h;exact⟨S',hS.trans h1,h2⟩
structure qY (chg:Chg) (G:Gh) (w:World) (G':Gh) (w':World):Prop where
 hd:∀s p,Off chg s p→G'.hd s p=G.hd s p
 ad:∀s p,Off chg s p→G'.ad s p=G.ad s p
 lb:∀b o f s p,(∃y,G.ow b=iz (s,y))→G.lb b o=iz (f,s,p)→(∀n,(s,n)∉chg)→G'.lb b o=iz (f,s,p)∧yS w' b o=yS w b o
 ow:∀b s p,G.ow b=iz (s,p)→(∀n,(s,n)∉chg)→G'.ow b=iz (s,p)
 blk:Blk w w'
theorem Off.of_not{chg:Chg}{s:Nat}(h:∀n,(s,n)∉chg)(p:List Nat):Off chg s p:=fun n hn=>absurd hn (h n)
section
variable {Γ:Ctx}{G G':Gh}{w w':World}{s:Nat}{chg:Chg}
mutual
theorem zAM{s':Nat}:(t:T)→ ∀(p p':List Nat),(∀z,G'.hd s' (z++p')=G.hd s (z++p))→vals G' s' t p'=vals G s t p
 |.agg xs,p,p',h=>by simp only[vals];exact zEq xs p p' 0 h
 |.any,p,p',h|.lit _,p,p',h|.ro _,p,p',h|.same _ _,p,p',h|.addr _ _,p,p',h|.sub _ _ _ _ _,p,p',h|.sl _ _,p,p',h|.ptr _,p,p',h|.tup _,p,p',h=>by simp only[vals];rw[show G'.hd s' p'=G.hd s p from by simpa using h []]
theorem zEq{s':Nat}:(xs:List T)→ ∀(p p':List Nat)(j:Nat),(∀z,G'.hd s' (z++p')=G.hd s (z++p))→yI G' s' xs p' j=yI G s xs p j
 | [],_,_,_,_=>by simp only[yI]
 |x::xs,p,p',j,h=>by simp only[yI];rw[zAM x (j::p) (j::p') (fun z=>by have:=h (z++[j]);simpa using this),zEq xs p p' (j+1) h]
end
theorem zBB{s':Nat}(t:T)(p p':List Nat)(h:∀z,G'.hd s' (z++p')=G.hd s (z++p)):sV G' s' t p'=sV G s t p:=by
 unfold sV;split
 ·rw[zEq _ p p' 0 h]
 ·simpa using h []
theorem zO4{s':Nat}:(xs:List T)→ ∀(p p':List Nat)(j:Nat),(∀z,G'.hd s' (z++p')=G.hd s (z++p))→jG G' s' xs p' j=jG G s xs p j
 | [],_,_,_,_=>by simp only[jG]
 |x::xs,p,p',j,h=>by simp only[jG];rw[zBB x (j::p) (j::p') (fun z=>by have:=h (z++[j]);simpa using this),zO4 xs p p' (j+1) h]
theorem zFb{s':Nat}(t:T)(p p':List Nat)(h:∀z,G'.hd s' (z++p')=G.hd s (z++p)):mkV G' s' t p'=mkV G s t p:=by
 unfold mkV;split
 ·rw[zEq _ p p' 0 h]
 ·rw[zO4 _ p p' 0 h]
 ·simpa using h []
theorem qY.moves(hk:qY chg G w G' w')(hs:∀n,(s,n)∉chg)(p:List Nat):zID G w G' w' s p s p where
 hd _:=hk.hd _ _ (.of_not hs _)
 ad _ _:=hk.ad _ _ (.of_not hs _)
 lb b o f _ _ hJ hl:=hk.lb b o f s _ hJ hl hs
 ow b _ _ hl:=hk.ow b s _ hl hs
 sp b o hJ hl:=hk.lb b o iB s _ hJ hl hs
 ow0 b hl:=hk.ow b s _ hl hs
 blk:=hk.blk
theorem qY.keepR(hk:qY chg G w G' w'){t:T}(h:xF (Off chg) t):xF (zAf G G') t:=
 xF.mono (fun r p hr=>⟨hk.hd r p hr,hk.ad r p hr⟩) t h
theorem Ent.keep(hk:qY chg G w G' w')(hs:∀n,(s,n)∉chg){v:Option Value}{t:T}(ht:t.okB chg=iB)(h:Ent Γ G w v s t):Ent Γ G' w' v s t:=by
 obtain⟨h1,h2,h3⟩:=h;refine⟨?_,?_,h3⟩
 ·rw[h1,zFb t [] [] (fun z=>hk.hd _ _ (.of_not hs _))]
 ·simpa using zR3 (hk.moves hs []) t [] (hk.keepR (zAm t h3 ht)) (by simpa using h2)
end
theorem vM{Γ:Ctx}{E:Env}{G G':Gh}{tmps tmps':Array Value}{w w':World}{wr:Wr}{chg:Chg}(h:Rep Γ E G tmps w)
  (gP:tmps'.size=tmps.size)(hk:qY chg G w G' w')(gu:Mem Γ G' w')
  (gG:∀s,wr.find s=iA→(∀n,(s,n)∉chg)∧tmps'[s]? =tmps[s]?)
  (eF:∀s t,wr.find s=iz (iz t)→Ent Γ G' w' tmps'[s]? s t):Rep Γ (E.app wr chg) G' tmps' w' where
 size:=by rw[gP,h.size]
 mem:=gu
 ent s t hs:=by
  unfold Env.app at hs;cases hf:wr.find s with
  |some x=>
   rw[hf]at hs;simp at hs;subst hs;exact eF s t hf
  |none=>
   rw[hf]at hs;simp at hs;cases he:E s with
   |none=>simp[he]at hs
   |some u=>
    simp[he]at hs;obtain⟨gB,rfl⟩:=hs;rw[(gG s hf).2];exact Ent.keep hk (gG s hf).1 gB (h.ent s u he)
end Go.Ab

namespace Go.Ab
open Go
mutual
def cpT(s:Nat):T→List Nat→T
 |.lit v,_=>.lit v
 |.ro t,_=>.ro t
 |.same r q,_=>.same r q
 |.addr r q,_=>.addr r q
 |.sub r q k lo hi,_=>.sub r q k lo hi
 |.agg xs,p=>.agg (cpF s xs p 0)
 |.any,p|.sl _ _,p|.ptr _,p|.tup _,p=>.same s p
def cpF(s:Nat):List T→List Nat→Nat→List T
 | [],_,_=>[]
 |x::xs,p,j=>cpT s x (j::p)::cpF s xs p (j+1)
end
mutual
theorem qT(s:Nat):(t:T)→ ∀p,Top (cpT s t p)
 |.agg xs,p=>by simp only[cpT,Top];exact zO5 s xs p 0
 |.lit _,_|.ro _,_|.same _ _,_|.addr _ _,_|.sub _ _ _ _ _,_|.any,_|.sl _ _,_|.ptr _,_|.tup _,_=>by simp only[cpT,Top]
theorem zO5(s:Nat):(xs:List T)→ ∀p j,vQ (cpF s xs p j)
 | [],_,_=>by simp only[cpF,vQ]
 |x::xs,p,j=>by simp only[cpF,vQ];exact⟨qT s x _,zO5 s xs p _⟩
end
section
variable {St:Stb}{G G':Gh}{w w':World}{s d:Nat}
mutual
theorem zDE(hs:∀p,G'.hd s p=G.hd s p):(t:T)→ ∀(p p':List Nat),(∀z,G'.hd d (z++p')=G.hd s (z++p))→(∀xs,t≠.tup xs)→xF (zAf G G') (cpT s t p)→R St G w s t p→R St G' w' d (cpT s t p) p'
 |.lit _,p,p',hd,_,_,h=>by simp only[cpT,R]at h ⊢;rw[show G'.hd d p'=_ from by simpa using hd []];exact h
 |.ro _,p,p',hd,_,_,h=>by simp only[cpT,R]at h ⊢;rw[show G'.hd d p'=_ from by simpa using hd []];exact h
 |.same r q,p,p',hd,_,hk,h=>by simp only[cpT,R,xF]at h hk ⊢;rw[show G'.hd d p'=_ from by simpa using hd [],hk.1];exact h
 |.addr r q,p,p',hd,_,hk,h=>by simp only[cpT,R,xF]at h hk ⊢;rw[show G'.hd d p'=_ from by simpa using hd [],hk.2];exact h
 |.sub r q k lo hi,p,p',hd,_,hk,h=>by simp only[cpT,R,xF]at h hk ⊢;rw[show G'.hd d p'=_ from by simpa using hd [],hk.1];exact h
 |.any,p,p',hd,_,_,_|.sl _ _,p,p',hd,_,_,_|.ptr _,p,p',hd,_,_,_=>by simp only[cpT,R];rw[show G'.hd d p'=_ from by simpa using hd [],hs]
 |.tup xs,_,_,_,h,_,_=>absurd rfl (h xs)
 |.agg xs,p,p',hd,_,hk,h=>by simp only[cpT,R,xF]at h hk ⊢;exact zJ6 hs xs p p' 0 hd hk h
theorem zJ6(hs:∀p,G'.hd s p=G.hd s p):(xs:List T)→ ∀(p p':List Nat)(j:Nat),(∀z,G'.hd d (z++p')=G.hd s (z++p))→wC (zAf G G') (cpF s xs p j)→RF St G w s xs p j→RF St G' w' d (cpF s xs p j) p' j
 | [],_,_,_,_,_,_=>by simp only[cpF,RF]
 |x::xs,p,p',j,hd,hk,h=>by
  simp only[cpF,RF,wC]at h hk ⊢
  refine⟨?_,zJ6 hs xs p p' (j+1) hd hk.2 h.2⟩
  by_cases hx:∃ys,x=.tup ys
  ·obtain⟨ys,rfl⟩:=hx
   simp only[cpT,R];rw[show G'.hd d (j::p')=_ from by simpa using hd [j],hs]
  ·exact zDE hs x (j::p) (j::p') (fun z=>by have:=hd (z++[j]);simpa using this) (fun ys e=>hx ⟨ys,e⟩) hk.1 h.1
end
mutual
theorem zQb:(t:T)→ ∀(p p':List Nat),(∀z,G'.hd d (z++p')=G.hd s (z++p))→vals G' d (cpT s t p) p'=vals G s t p
 |.agg xs,p,p',h=>by simp only[cpT,vals];exact zDF xs p p' 0 h
 |.any,p,p',h|.lit _,p,p',h|.ro _,p,p',h|.same _ _,p,p',h|.addr _ _,p,p',h|.sub _ _ _ _ _,p,p',h|.sl _ _,p,p',h|.ptr _,p,p',h|.tup _,p,p',h=>by simp only[cpT,vals];rw[show G'.hd d p'=G.hd s p from by simpa using h []]
theorem zDF:(xs:List T)→ ∀(p p':List Nat)(j:Nat),(∀z,G'.hd d (z++p')=G.hd s (z++p))→yI G' d (cpF s xs p j) p' j=yI G s xs p j
 | [],_,_,_,_=>by rfl
 |x::xs,p,p',j,h=>by simp only[cpF,yI];rw[zQb x (j::p) (j::p') (fun z=>by have:=h (z++[j]);grind),zDF xs p p' (j+1) h]
end
theorem zA3(t:T)(p p':List Nat)(ht:∀xs,t≠.tup xs)(h:∀z,G'.hd d (z++p')=G.hd s (z++p)):mkV G' d (cpT s t p) p'=sV G s t p:=by
 cases t with
 |agg xs=>grind[cpT,mkV,sV,zDF]
 |tup xs=>grind
 |_=>simpa[cpT,mkV,sV]using h []
end
theorem kP(G:Gh)(s:Nat)(t:T)(p:List Nat)(ht:∀xs,t≠.tup xs):mkV G s t p=sV G s t p:=by
 cases t with
 |tup xs=>grind
 |_=>rfl
def Gh.put(G:Gh)(d:Nat)(f:List Nat→Value):Gh:={ G with hd:=fun s z=>if s=d then f z else G.hd s z }
theorem Gh.put_other(G:Gh){d s:Nat}(f:List Nat→Value)(p:List Nat)(h:s≠d):(G.put d f).hd s p=G.hd s p:=by simp[Gh.put,h]
theorem Gh.put_self(G:Gh)(d:Nat)(f:List Nat→Value)(p:List Nat):(G.put d f).hd d p=f p:=by simp[Gh.put]
theorem zXy{d s:Nat}{p:List Nat}(h:Off [(d,0)] s p):s≠d:=by
 rintro rfl
 exact absurd (h 0 (by simp)) (by simp)
theorem Gh.put_keep(G:Gh){w w':World}(hw:w'.heap=w.heap)(d:Nat)(f:List Nat→Value):qY [(d,0)] G w (G.put d f) w' where
 hd s p h:=G.put_other f p (zXy h)
 ad _ _ _:=rfl
 lb b o f' s p _ h _:=⟨h,by grind[yS,World.cell?]⟩
 ow b s p h _:=h
 blk b cs e h:=by grind
theorem Mem.put{Γ:Ctx}{G:Gh}{w w':World}(h:Mem Γ G w)(hw:w'.heap=w.heap)(d:Nat)(f:List Nat→Value)(hf:∀z,(f z).oneCell'=iB)(ho:w'.os=w.os:=by rfl)(hq:w'.output=w.output:=by rfl):Mem Γ (G.put d f) w' where
 one s p:=by unfold Gh.put;dsimp only;split;exact hf p;exact h.one s p
 lb b o l hl:=by have:=h.lb b o l hl;exact⟨by rw[hw];exact this.1,this.2⟩
 ow b l hl:=by have:=h.ow b l hl;exact⟨by rw[hw];exact this.1,this.2⟩
 st b x hx:=by rw[hw];exact h.st b x hx
 fr b h1 h2:=by rw[hw];exact h.fr b h1 h2
 sz:=by rw[hw];exact h.sz
 bk:=h.bk.trans (fun b cs e hb=>by grind) ho hq
theorem sB(d:Nat)(x:Option T)(s:Nat):Wr.find [(d,x)] s=if d=s then iz x else iA:=by rfl
theorem vN{Γ:Ctx}{E:Env}{G:Gh}{tmps:Array Value}{w w':World}(h:Rep Γ E G tmps w)(hw:w'.heap=w.heap){d:Nat}(hd:d<Γ.N)
  (f:List Nat→Value)(hf:∀z,(f z).oneCell'=iB)(t:T)(v:Value)(hv:v=mkV (G.put d f) d t [])(hr:R Γ.St (G.put d f) w' d t [])(ht:Top t)(ho:w'.os=w.os:=by rfl)(hq:w'.output=w.output:=by rfl):
  Rep Γ (E.app [(d,iz t)] [(d,0)]) (G.put d f) (tmps.setIfInBounds d v) w':=by
 refine vM h (by simp) (G.put_keep hw d f) (h.mem.put hw d f hf ho hq) ?_ ?_
 ·grind[sB]
 ·intro s t' hs
  rw[sB]at hs;split at hs
  ·rename_i he
   subst he;simp at hs;subst hs;refine⟨?_,hr,ht⟩;rw[Jk];simp[h.size,hd,hv]
  ·cases hs
def wK(P:Program)(Γ:Ctx)(o:Oper)(E E':Env):Prop:=
 ∀(a:Act)(w:World)(K:Act→World→Prop)(Q:Exit→Act→World→Prop),Sim Γ E a w→(∀a' w',jH Γ E' a' w'→K a' w')→o.wp P a w K Q
def opT(E:Env):Operand→Option T
 |.tmp s=>E s
 |.const v=>if v.oneCell' then iz (.lit v)else iA
 |.func f=>iz (.lit (.func (.func f) #[] #[]))
 |.global _=>iA
def tH(x:Operand)(t:T):T:=match x with
 |.tmp s=>cpT s t []
 |_=>t
section
variable {P:Program}{Γ:Ctx}{E E':Env}{o:Oper}{d:Nat}
theorem wH{a:Act}{s:Nat}{v:Value}(h:a.tmps[s]? =iz v):a.eval (.tmp s)=v:=by simp[Act.eval,Km,h]
theorem wK.value(ho:o.dst=iz d)
  (h:∀(a:Act)(w:World)(G:Gh),Rep Γ E G a.tmps w→ ∃v w',(execOp a.eval o).run P w=.ok (.value v) w'∧ ∃G',Rep Γ E' G' (a.tmps.setIfInBounds d v) w'):wK P Γ o E E':=by
 intro a w K Q ⟨gN,G,g9⟩ hK;obtain⟨v,w',gy,G',fF⟩:=h a w G g9;unfold Oper.wp;rw[gy,Oper.upon_value];refine hK _ _ ?_;rw[ho];exact .of ⟨gN,G',fF⟩
theorem wK.skip(ho:o.dst=iA)
  (h:∀(a:Act)(w:World)(G:Gh),Rep Γ E G a.tmps w→ ∃w',(execOp a.eval o).run P w=.ok .skip w'∧ ∃G',Rep Γ E' G' a.tmps w'):wK P Γ o E E':=by
 intro a w K Q ⟨gN,G,g9⟩ hK;obtain⟨w',gy,G',fF⟩:=h a w G g9;unfold Oper.wp;rw[gy,Oper.upon_skip];refine hK _ _ ?_;rw[ho];exact .of ⟨gN,G',fF⟩
theorem opd{G:Gh}{a:Act}{w:World}(g9:Rep Γ E G a.tmps w){x:Operand}{t:T}(hx:opT E x=iz t)(ht:∀xs,t≠.tup xs):
  ∃f:List Nat→Value,(∀z,(f z).oneCell'=iB)∧(∀d,(∀s,x=.tmp s→s≠d)→T.okB [(d,0)] (tH x t)=iB→
   a.eval x=mkV (G.put d f) d (tH x t) []∧R Γ.St (G.put d f) w d (tH x t) [])∧Top (tH x t):=by
 cases x with
 |tmp s=>
  obtain⟨h1,h2,h3⟩:=g9.ent s t hx;refine⟨fun z=>G.hd s z,fun z=>g9.mem.one s z,?_,qT s t []⟩;intro d gf gB;have cK:=gf s rfl;have hk:=G.put_keep (w:=w) (w':=w) rfl d (fun z=>G.hd s z);have hz:∀z,(G.put d (fun z=>G.hd s z)).hd d (z++[])=G.hd s (z++[]):=by grind[Gh.put_self]
  refine⟨?_,?_⟩
  ·grind[wH,tH,zA3,kP]
  ·exact zDE (fun p=>G.put_other _ p cK) t [] [] hz ht (hk.keepR (zAm _ (qT s t []) gB)) h2
 |const v=>
  simp only[opT]at hx;split at hx
  ·rename_i gr
   simp at hx;subst hx;exact⟨fun _=>v,fun _=>gr,fun d _ _=>⟨by simp[Act.eval,tH,mkV,Gh.put],by simp[tH,R,Gh.put]⟩,by simp[tH,Top]⟩
  ·cases hx
 |func f=>
  simp only[opT]at hx;simp at hx;subst hx;exact⟨fun _=>.func (.func f) #[] #[],fun _=>rfl,fun d _ _=>⟨by simp[Act.eval,tH,mkV,Gh.put],by simp[tH,R,Gh.put]⟩,by simp[tH,Top]⟩
 |global g=>cases hx
theorem zO6(x:Operand)(t:T)(ho:o.op=.move x∨o.op=.assign x)(gg:o.dst=iz d)(hd:d<Γ.N)(hx:opT E x=iz t)(ht:∀xs,t≠.tup xs)
  (gf:∀s,x=.tmp s→s≠d)(gB:T.okB [(d,0)] (tH x t)=iB):wK P Γ o E (E.app [(d,iz (tH x t))] [(d,0)]):=by
 refine wK.value gg fun a w G g9=>?_
 obtain⟨f,hf,h1,h2⟩:=opd g9 hx ht;obtain⟨h3,h4⟩:=h1 d gf gB;refine⟨a.eval x,w,?_,_,vN g9 rfl hd f hf _ _ h3 h4 h2⟩;rcases ho with ho|ho<;>simp[execOp,ho]
theorem wL{G:Gh}{a:Act}{w:World}(g9:Rep Γ E G a.tmps w){x:Operand}{v:Value}(hx:opT E x=iz (.lit v)):a.eval x=v∧v.oneCell'=iB:=by
 cases x with
 |tmp s=>
  obtain⟨h1,h2,_⟩:=g9.ent s _ hx;simp only[R]at h2;refine⟨?_,by rw[←h2];exact g9.mem.one s []⟩
  grind[wH,mkV]
 |const u=>
  simp only[opT]at hx;split at hx
  ·simp at hx;subst hx;exact⟨rfl,by assumption⟩
  ·cases hx
 |func f=>simp only[opT]at hx;simp at hx;subst hx;exact⟨rfl,rfl⟩
 |global g=>cases hx
theorem zAY(v:Value)(hv:v.oneCell'=iB)(gg:o.dst=iz d)(hd:d<Γ.N)
  (h:∀(a:Act)(w:World)(G:Gh),Rep Γ E G a.tmps w→(execOp a.eval o).run P w=.ok (.value v) w):wK P Γ o E (E.app [(d,iz (.lit v))] [(d,0)]):=by
 refine wK.value gg fun a w G g9=>?_
 exact⟨v,w,h a w G g9,_,vN g9 rfl hd (fun _=>v) (fun _=>hv) (.lit v) v (by simp[mkV,Gh.put]) (by simp[R,Gh.put]) (by simp[Top])⟩
def zJ7(op:BinOp)(k:IntKind)(a b:Int):Option Value:=
 match op with
 |.add=>iz (.int k (k.wrap (a+b)))
 |.sub=>iz (.int k (k.wrap (a-b)))
 |.mul=>iz (.int k (k.wrap (a*b)))
 |.quo=>if b=0 then iA else iz (.int k (k.wrap (a.tdiv b)))
 |.rem=>if b=0 then iA else iz (.int k (a.tmod b))
 |.eql=>iz (.bool (a==b))
 |.neq=>iz (.bool (a != b))
 |.lss=>iz (.bool (decide (a<b)))
 |.leq=>iz (.bool (decide (a≤b)))
 |.gtr=>iz (.bool (decide (a> b)))
 |.geq=>iz (.bool (decide (a≥b)))
 |_=>iA
theorem zR7{op:BinOp}{k:IntKind}{a b:Int}{v:Value}(h:zJ7 op k a b=iz v):v.oneCell'=iB:=by cases op<;>simp[zJ7]at h<;>first|(subst h;rfl)|(obtain⟨_,rfl⟩:=h;rfl)
theorem sN(op:BinOp)(xt yt:TypeId)(x y:Operand)(k:IntKind)(m n:Int)(v:Value)(ho:o.op=.binOp op xt x y yt)(gg:o.dst=iz d)(hd:d<Γ.N)
  (hx:opT E x=iz (.lit (.int k m)))(hy:opT E y=iz (.lit (.int k n)))(hv:zJ7 op k m n=iz v):wK P Γ o E (E.app [(d,iz (.lit v))] [(d,0)]):=by
 refine zAY v (zR7 hv) gg hd fun a w G g9=>?_
 have h1:=(wL g9 hx).1;have h2:=(wL g9 hy).1;cases op<;>simp[zJ7]at hv<;>
  first
   |(subst hv;simp[execOp,ho,h1,h2,eqGuard,binOp,Op.intArith,Op.intCmp];done)
   |(obtain⟨h0,rfl⟩:=hv;simp[execOp,ho,h1,h2,eqGuard,binOp,Op.intDiv,h0])
theorem zXz(xt:TypeId)(x:Operand)(b:Bool)(ho:o.op=.unOp .not xt x)(gg:o.dst=iz d)(hd:d<Γ.N)
  (hx:opT E x=iz (.lit (.bool b))):wK P Γ o E (E.app [(d,iz (.lit (.bool !b)))] [(d,0)]):=by
 refine zAY _ rfl gg hd fun a w G g9=>?_
 have h1:=(wL g9 hx).1;simp[execOp,ho,h1,Op.unary]
theorem zX0(xt:TypeId)(x:Operand)(k:IntKind)(n:Int)(ho:o.op=.unOp .neg xt x)(gg:o.dst=iz d)(hd:d<Γ.N)
  (hx:opT E x=iz (.lit (.int k n))):wK P Γ o E (E.app [(d,iz (.lit (.int k (k.wrap (0-n)))))] [(d,0)]):=by
 refine zAY _ rfl gg hd fun a w G g9=>?_
 have h1:=(wL g9 hx).1;simp[execOp,ho,h1,Op.unary,Op.intArith]
theorem zVk(src dst:TypeId)(ds:TypeDesc)(x:Operand)(k k':IntKind)(n:Int)(ho:o.op=.convert src dst x)(gg:o.dst=iz d)(hd:d<Γ.N)
  (hs:P.underlying src=iz ds)(ht:P.underlying dst=iz (.int k'))(hx:opT E x=iz (.lit (.int k n))):
  wK P Γ o E (E.app [(d,iz (.lit (.int k' (k'.wrap n))))] [(d,0)]):=by
 refine zAY _ rfl gg hd fun a w G g9=>?_
 have h1:=(wL g9 hx).1;simp[execOp,ho,h1,convert,run_underlying hs,run_underlying ht,Conv.intToInt]
theorem zVl(c x y:Operand)(b:Bool)(t:T)(ho:o.op=.pick c x y)(gg:o.dst=iz d)(hd:d<Γ.N)
  (hc:opT E c=iz (.lit (.bool b)))(hx:opT E (if b then x else y)=iz t)(ht:∀xs,t≠.tup xs)
  (gf:∀s,(if b then x else y)=.tmp s→s≠d)(gB:T.okB [(d,0)] (tH (if b then x else y) t)=iB):wK P Γ o E (E.app [(d,iz (tH (if b then x else y) t))] [(d,0)]):=by
 refine wK.value gg fun a w G g9=>?_
 obtain⟨f,hf,h1,h2⟩:=opd g9 hx ht;obtain⟨h3,h4⟩:=h1 d gf gB;refine⟨a.eval (if b then x else y),w,?_,_,vN g9 rfl hd f hf _ _ h3 h4 h2⟩;have h5:=(wL g9 hc).1;cases b<;>simp[execOp,ho,h5,asBool]
end
end Go.Ab

namespace Go.Ab
open Go
def qZ(E:Env):Nat→Nat→List Nat→Option (Nat×List Nat×T)
 |0,_,_=>iA
 |n+1,r,q=>match E r with
  |some t=>match t.get q.reverse with
   |some (.same r' q')=>qZ E n r' q'
   |some u=>iz (r,q,u)
   |none=>iA
  |none=>iA
def tS(E:Env):Operand→Option (Nat×List Nat×T)
 |.tmp s=>qZ E 4 s []
 |_=>iA
def T.single:T→Bool
 |.agg _|.tup _=>iC
 |_=>iB
theorem xV{G:Gh}{s:Nat}{t:T}{p:List Nat}(h:t.single=iB):mkV G s t p=G.hd s p:=by cases t<;>simp[T.single]at h<;>rfl
section
variable {P:Program}{Γ:Ctx}{E:Env}{o:Oper}{d:Nat}
theorem zCW{G:Gh}{a:Act}{w:World}(g9:Rep Γ E G a.tmps w):∀(n s:Nat)(p:List Nat)(r:Nat)(q:List Nat)(u:T),qZ E n s p=iz (r,q,u)→
  R Γ.St G w r u q∧G.hd s p=G.hd r q∧(∃t,E r=iz t∧t.get q.reverse=iz u)
 |0,_,_,_,_,_,h=>by grind[qZ]
 |n+1,s,p,r,q,u,h=>by
  simp only[qZ]at h;split at h
  ·rename_i t ht
   obtain⟨_,h4,_⟩:=g9.ent _ _ ht;split at h
   ·rename_i r' q' hg
    obtain⟨h1,h2,h3⟩:=zCW g9 n r' q' r q u h;have h5:=(zA2 p.reverse t _ [] h4 hg).1;simp only[rp,Kn,Ja,R]at h5
    grind
   ·rename_i u' um hg
    simp at h;obtain⟨rfl,rfl,rfl⟩:=h;have h5:=(zA2 p.reverse t _ [] h4 hg).1
    simp_all
   ·cases h
  ·cases h
theorem jI{G:Gh}{a:Act}{w:World}(g9:Rep Γ E G a.tmps w){x:Operand}{r:Nat}{q:List Nat}{u:T}(h:tS E x=iz (r,q,u))(hu:u.single=iB):
  R Γ.St G w r u q∧a.eval x=G.hd r q:=by
 cases x with
 |tmp s=>
  obtain⟨h1,h2,_⟩:=zCW g9 4 s [] r q u h;refine⟨h1,?_⟩;rw[←h2];simp only[tS,qZ]at h;split at h
  ·rename_i t ht
   obtain⟨h3,_,_⟩:=g9.ent s _ ht;rw[wH h3];simp only[Gf,T.get]at h;have:t.single=iB:=by cases t<;>first|rfl|simp_all
   exact xV this
  ·cases h
 |_=>grind[tS]
theorem zJ8{St:Stb}{G:Gh}{w:World}{s:Nat}{k:Nat}{xs:List T}{p:List Nat}(h:R St G w s (.sl k xs) p):∃a c,G.hd s p=.slice a xs.length c:=by
 simp only[R]at h;rcases h with⟨rfl,a,h⟩|⟨b,cap,_,_,h,_⟩
 ·exact⟨a,0,h⟩
 ·exact⟨_,_,h⟩
theorem zCX{St:Stb}{G:Gh}{w:World}{s:Nat}{k:Nat}{xs:List T}{p:List Nat}(h:R St G w s (.ro (.sl k xs)) p):∃a c,G.hd s p=.slice a xs.length c∧xs.length≤c∧c≤maxLen∧
   (xs≠[]→ ∃b o' cs' e fr,a=iz ⟨b,o',iA⟩∧St b=iz (.cells cs' e fr)∧RoL St xs cs' o' k):=by
 grind[R,RoC]
def zKN:T→Option Nat
 |.sl _ xs|.ro (.sl _ xs)=>iz xs.length
 |.lit (.slice _ n _)=>iz n
 |.lit (.string s)=>iz s.size
 |_=>iA
def zVm:T→TypeDesc→Bool
 |.lit (.string _),.string=>iB
 |.sl _ _,.slice _|.ro (.sl _ _),.slice _|.lit (.slice _ _ _),.slice _=>iB
 |_,_=>iC
theorem zR8(x:Operand)(t:TypeId)(ds:TypeDesc)(r:Nat)(q:List Nat)(u:T)(n:Nat)(ho:o.op=.call { callee:=.builtin .len,args:=#[x],argTypes:=#[t] })(gg:o.dst=iz d)(hd:d<Γ.N)
  (ht:P.underlying t=iz ds)(hx:tS E x=iz (r,q,u))(hl:zKN u=iz n)(pQ:zVm u ds=iB):
  wK P Γ o E (E.app [(d,iz (.lit (.int .i64 n)))] [(d,0)]):=by
 refine zAY (.int .i64 n) rfl gg hd fun a w G g9=>?_
 have hu:u.single=iB:=by cases u<;>simp[zKN]at hl<;>rfl
 obtain⟨h1,h2⟩:=jI g9 hx hu;have h3:(Builtin.len_ #[t] o.type #[G.hd r q]).run P w=.ok (.int .i64 n) w:=by
  cases u with
  |sl k xs=>
   obtain⟨a',c,h4⟩:=zJ8 h1;simp[zKN]at hl;subst hl;cases ds<;>simp[zVm]at pQ
   simp[Builtin.len_,run_underlying ht,h4,goInt]
  |ro t'=>
   cases t'<;>simp[zKN]at hl
   obtain⟨a',c,h4,_⟩:=zCX h1;subst hl;cases ds<;>simp[zVm]at pQ
   simp[Builtin.len_,run_underlying ht,h4,goInt]
  |lit v=>
   simp only[R]at h1;cases v<;>simp[zKN]at hl<;>(subst hl;cases ds<;>simp[zVm]at pQ;simp[Builtin.len_,run_underlying ht,h1,goInt])
  |_=>grind[zKN]
 simp[execOp,ho,resolve,invoke,builtin,h2,h3]
theorem zBC{G:Gh}{w:World}{s:Nat}{t:T}{p:List Nat}{b o:Nat}(h:Loc G w s t p b o):G.ad s p=⟨b,o,iA⟩:=by cases t<;>simp only[Loc]at h<;>first|exact h.1|exact h.elim
theorem uP(b o n:Nat):(⟨b,o,iA⟩:Addr).add n=⟨b,o+n,iA⟩:=by grind[Addr.add]
theorem zVn{St:Stb}{G:Gh}{w:World}{s:Nat}{k:Nat}{xs:List T}{p:List Nat}(h:R St G w s (.sl k xs) p){i:Nat}(hi:i<xs.length):
  ∃b cap,G.hd s p=.slice (iz ⟨b,0,iA⟩) xs.length cap∧G.ad s (i::p)=⟨b,i*k,iA⟩:=by
 simp only[R]at h;rcases h with⟨rfl,_⟩|⟨b,cap,cs,e,h1,h2,h3,h4,h5,h6,h7,h8⟩
 ·simp at hi
 ·have:=(jS xs p 0 b 0 k i xs[i] h8 (by simp[hi])).1
  simp only[Jf]at this;exact⟨b,cap,h1,zBC this⟩
theorem zR9(x y:Operand)(t e:TypeId)(ti:TypeInfo)(r:Nat)(q:List Nat)(k:Nat)(xs:List T)(kd:IntKind)(i:Int)(ho:o.op=.indexAddr t x y)(gg:o.dst=iz d)(hd:d<Γ.N)
  (ht:P.underlying t=iz (.slice e))(he:P.info? e=iz ti)(hk:ti.size=k)(hx:tS E x=iz (r,q,.sl k xs))(hy:opT E y=iz (.lit (.int kd i)))(h0:0≤i)(h1:i.toNat<xs.length):
  wK P Γ o E (E.app [(d,iz (.addr r (i.toNat::q)))] [(d,0)]):=by
 refine wK.value gg fun a w G g9=>?_
 obtain⟨g1,g2⟩:=jI g9 hx rfl;have g3:=(wL g9 hy).1;obtain⟨b,cap,g4,g5⟩:=zVn g1 h1;refine⟨.pointer (iz (G.ad r (i.toNat::q))),w,?_,_,vN g9 rfl hd (fun _=>.pointer (iz (G.ad r (i.toNat::q)))) (fun _=>rfl) _ _ (by simp[mkV,Gh.put]) (by simp[R,Gh.put]) (by simp[Top])⟩;have gE:i<(xs.length:Int):=by omega
 simp[execOp,ho,Instr.indexAt,g3,g2,g4,asIntOf,run_underlying ht,h0,gE,sizeOf,typeInfo,he,hk,uP,g5]
theorem zGr{St:Stb}:(xs:List T)→ ∀(cs:Array Value)(o k i:Nat)(x:T),RoL St xs cs o k→xs[i]? =iz x→RoC St x cs (o+i*k)
 | [],_,_,_,_,_,_,h=>by simp at h
 |y::ys,cs,o,k,i,x,hr,h=>by
  simp only[RoL]at hr;cases i with
  |zero=>grind
  |succ i=>
   have:=zGr ys cs (o+k) k i x hr.2 (by grind)
   grind
theorem zO7{St:Stb}:(xs:List T)→ ∀(cs:Array Value)(o i:Nat)(x:T),RoF St xs cs o→xs[i]? =iz x→RoC St x cs (o+T.sizes (xs.take i))
 | [],_,_,_,_,_,h=>by simp at h
 |y::ys,cs,o,i,x,hr,h=>by
  simp only[RoF]at hr;cases i with
  |zero=>grind[T.sizes]
  |succ i=>
   have:=zO7 ys cs (o+y.size) i x hr.2 (by grind)
   grind[T.sizes]
theorem zRA(x y:Operand)(t e:TypeId)(ti:TypeInfo)(r:Nat)(q:List Nat)(k:Nat)(xs:List T)(kd:IntKind)(i:Int)(u:T)(ho:o.op=.indexAddr t x y)(gg:o.dst=iz d)(hd:d<Γ.N)
  (ht:P.underlying t=iz (.slice e))(he:P.info? e=iz ti)(hk:ti.size=k)(hx:tS E x=iz (r,q,.ro (.sl k xs)))(hy:opT E y=iz (.lit (.int kd i)))(h0:0≤i)(h1:xs[i.toNat]? =iz u):
  wK P Γ o E (E.app [(d,iz (.ro (.ptr u)))] [(d,0)]):=by
 refine wK.value gg fun a w G g9=>?_
 obtain⟨g1,g2⟩:=jI g9 hx rfl;have g3:=(wL g9 hy).1;have hlt':i.toNat<xs.length:=(Jw.1 h1).1;obtain⟨a',c,g4,_,_,g5⟩:=zCX g1;obtain⟨b,o',cs',e',fr,rfl,g6,g7⟩:=g5 (by rintro rfl;grind);have g8:=zGr xs cs' o' k i.toNat u g7 h1;refine⟨.pointer (iz ⟨b,o'+i.toNat*k,iA⟩),w,?_,_,vN g9 rfl hd (fun _=>.pointer (iz ⟨b,o'+i.toNat*k,iA⟩)) (fun _=>rfl) _ _ (by simp[mkV,Gh.put]) ?_ (by simp[Top])⟩
 ·have gE:i<(xs.length:Int):=by omega
  simp[execOp,ho,Instr.indexAt,g3,g2,g4,asIntOf,run_underlying ht,h0,gE,sizeOf,typeInfo,he,hk,uP]
 grind[R,Gh.put_self,RoC]
theorem zCo:(xs:List T)→ ∀{G:Gh}{w:World}{s:Nat}(p:List Nat)(j b o i:Nat)(x:T),vL G w s xs p j b o→xs[i]? =iz x→
  Loc G w s x ((j+i)::p) b (o+T.sizes (xs.take i))
 | [],_,_,_,_,_,_,_,_,_,_,h=>by simp at h
 |y::ys,G,w,s,p,j,b,o,i,x,hr,h=>by
  simp only[vL]at hr;cases i with
  |zero=>grind[T.sizes]
  |succ i=>
   have:=zCo ys p (j+1) b (o+y.size) i x hr.2 (by grind)
   grind[T.sizes]
theorem sG{P:Program}{w:World}(a:Addr):(Instr.sureAddr (.pointer (iz a))).run P w=.ok a w:=rfl
theorem zCp{P:Program}{w:World}{S:TypeId}{fs:Array Field}{f:Field}{fi:TypeInfo}{j:Nat}{b o':Nat}(hS:P.underlying S=iz (.struct fs))(hf:fs[j]? =iz f)(hi:P.info? f.type=iz fi)(hz:fi.size≠0):
  (Instr.fieldAt S (.pointer (iz ⟨b,o',iA⟩)) j).run P w=.ok (.pointer (iz ⟨b,o'+f.offset,iA⟩)) w:=by
 simp[Instr.fieldAt,run_underlying hS,hf,sG,fieldPlace,sizeOf,typeInfo,hi,hz,uP]
theorem zZe(x:Operand)(S:TypeId)(fs:Array Field)(f:Field)(fi:TypeInfo)(j:Nat)(r:Nat)(q:List Nat)(xs:List T)(u:T)(ho:o.op=.fieldAddr S x j)(gg:o.dst=iz d)(hd:d<Γ.N)
  (hS:P.underlying S=iz (.struct fs))(hf:fs[j]? =iz f)(hi:P.info? f.type=iz fi)(hz:fi.size≠0)(hx:tS E x=iz (r,q,.ptr (.agg xs)))(hu:xs[j]? =iz u)(gF:T.sizes (xs.take j)=f.offset):
  wK P Γ o E (E.app [(d,iz (.addr r (j::0::q)))] [(d,0)]):=by
 refine wK.value gg fun a w G g9=>?_
 obtain⟨g1,g2⟩:=jI g9 hx rfl;simp only[R]at g1;obtain⟨b,cs,e,g4,_,_,_,g5,_⟩:=g1;simp only[Loc]at g5;have g6:=zCo xs (0::q) 0 b 0 j u g5.2 hu;simp only[Jf]at g6;refine⟨.pointer (iz (G.ad r (j::0::q))),w,?_,_,vN g9 rfl hd (fun _=>.pointer (iz (G.ad r (j::0::q)))) (fun _=>rfl) _ _ (by simp[mkV,Gh.put]) (by simp[R,Gh.put]) (by simp[Top])⟩;have g7:=zCp (w:=w) (b:=b) (o':=0) hS hf hi hz;simp[execOp,ho,g2,g4,g7,zBC g6,gF]
theorem zNa(x:Operand)(S:TypeId)(fs:Array Field)(f:Field)(fi:TypeInfo)(j:Nat)(r:Nat)(q:List Nat)(t:T)(xs:List T)(u:T)(ho:o.op=.fieldAddr S x j)(gg:o.dst=iz d)(hd:d<Γ.N)
  (hS:P.underlying S=iz (.struct fs))(hf:fs[j]? =iz f)(hi:P.info? f.type=iz fi)(hz:fi.size≠0)(hx:opT E x=iz (.addr r q))(hr:E r=iz t)(hg:t.get q.reverse=iz (.agg xs))(hl:t.locd q.reverse=iB)
  (hu:xs[j]? =iz u)(gF:T.sizes (xs.take j)=f.offset):
  wK P Γ o E (E.app [(d,iz (.addr r (j::q)))] [(d,0)]):=by
 refine wK.value gg fun a w G g9=>?_
 cases x with
 |tmp s=>
  obtain⟨h1,h2,_⟩:=g9.ent s _ hx;obtain⟨_,h4,_⟩:=g9.ent r _ hr;simp only[R]at h2;obtain⟨b,o',cs,e,h6,_,_⟩:=(zA2 q.reverse t _ [] h4 hg).2 hl;simp only[rp,Kn,Ja]at h6;have h7:=zBC h6;simp only[Loc]at h6;have g6:=zCo xs q 0 b o' j u h6.2 hu;simp only[Jf]at g6;refine⟨.pointer (iz (G.ad r (j::q))),w,?_,_,vN g9 rfl hd (fun _=>.pointer (iz (G.ad r (j::q)))) (fun _=>rfl) _ _ (by simp[mkV,Gh.put]) (by simp[R,Gh.put]) (by simp[Top])⟩;have g7:=zCp (w:=w) (b:=b) (o':=o') hS hf hi hz;simp[execOp,ho,wH h1,mkV,h2,h7,g7,zBC g6,gF]
 |const v=>grind[opT]
 |func f=>grind[opT]
 |global g=>grind[opT]
theorem zNb{G:Gh}{a:Act}{w:World}(g9:Rep Γ E G a.tmps w){x:Operand}{u:T}(hx:opT E x=iz (.ro u)):RoC Γ.St u #[a.eval x] 0:=by
 cases x with
 |tmp s=>
  obtain⟨h1,h2,_⟩:=g9.ent s _ hx;simp only[R]at h2;rw[wH h1,xV rfl];exact h2
 |const v=>grind[opT]
 |func f=>grind[opT]
 |global g=>grind[opT]
theorem zRB(x:Operand)(S:TypeId)(fs:Array Field)(f:Field)(fi:TypeInfo)(j:Nat)(xs:List T)(u:T)(ho:o.op=.fieldAddr S x j)(gg:o.dst=iz d)(hd:d<Γ.N)
  (hS:P.underlying S=iz (.struct fs))(hf:fs[j]? =iz f)(hi:P.info? f.type=iz fi)(hz:fi.size≠0)(hx:opT E x=iz (.ro (.ptr (.agg xs))))(hu:xs[j]? =iz u)(gF:T.sizes (xs.take j)=f.offset):
  wK P Γ o E (E.app [(d,iz (.ro (.ptr u)))] [(d,0)]):=by
 refine wK.value gg fun a w G g9=>?_
 have h1:=zNb g9 hx;simp only[RoC]at h1;obtain⟨b,o',cs',e,fr,h2,h3,h4⟩:=h1;have h5:=zO7 xs cs' o' j u h4 hu;refine⟨.pointer (iz ⟨b,o'+f.offset,iA⟩),w,?_,_,vN g9 rfl hd (fun _=>.pointer (iz ⟨b,o'+f.offset,iA⟩)) (fun _=>rfl) _ _ (by simp[mkV,Gh.put]) ?_ (by simp[Top])⟩
 ·have g7:=zCp (w:=w) (b:=b) (o':=o') hS hf hi hz
  have h6:a.eval x=.pointer (iz ⟨b,o',iA⟩):=by grind
  simp[execOp,ho,h6,g7]
 grind[R,Gh.put_self,RoC]
def zFc:TypeDesc→Bool
 |.struct _|.array _ _=>iB
 |_=>iC
theorem jU{P:Program}{w:World}{t:TypeId}{ds:TypeDesc}(ht:P.underlying t=iz ds):(isAgg t).run P w=.ok (zFc ds) w:=by cases ds<;>simp[isAgg,run_underlying ht,zFc]
theorem vD{G:Gh}{w:World}{s:Nat}{t:T}{p:List Nat}{b o:Nat}(ht:t.single=iB)(h:Loc G w s t p b o):G.ad s p=⟨b,o,iA⟩∧G.lb b o=iz (iC,s,p)∧yS w b o=iz (G.hd s p):=by cases t<;>simp[T.single]at ht<;>simpa only[Loc]using h
mutual
theorem zRC{G:Gh}{w:World}{s:Nat}:(t:T)→ ∀(p:List Nat)(b o:Nat),Loc G w s t p b o→ ∀(i:Nat)(v:Value),(vals G s t p)[i]? =iz v→yS w b (o+i)=iz v
 |.agg xs,p,b,o,h,i,v,hv=>by simp only[Loc,vals]at h hv;exact zBi xs p 0 b o h.2 i v hv
 |.any,p,b,o,h,i,v,hv|.lit _,p,b,o,h,i,v,hv|.ro _,p,b,o,h,i,v,hv|.same _ _,p,b,o,h,i,v,hv|.addr _ _,p,b,o,h,i,v,hv|.sub _ _ _ _ _,p,b,o,h,i,v,hv|.sl _ _,p,b,o,h,i,v,hv|.ptr _,p,b,o,h,i,v,hv=>by grind[Loc,vals]
 |.tup _,_,_,_,h,_,_,_=>by grind[Loc]
theorem zBi{G:Gh}{w:World}{s:Nat}:(xs:List T)→ ∀(p:List Nat)(j b o:Nat),vL G w s xs p j b o→ ∀(i:Nat)(v:Value),(yI G s xs p j)[i]? =iz v→yS w b (o+i)=iz v
 | [],_,_,_,_,_,i,v,hv=>by grind[yI]
 |x::xs,p,j,b,o,h,i,v,hv=>by
  simp only[vL,yI]at h hv;rw[Ks]at hv;split at hv
  ·exact zRC x (j::p) b o h.1 i v hv
  ·rename_i hge
   have gj:=vH (G:=G) (s:=s) x (j::p) (by grind[Loc]);have:=zBi xs p (j+1) b (o+x.size) h.2 _ v hv
   grind
theorem vH{G:Gh}{s:Nat}:(t:T)→ ∀(p:List Nat),(∀xs,t≠.tup xs)→(vals G s t p).length=t.size
 |.agg xs,p,_=>by simp only[vals,T.size];exact wR xs p 0
 |.any,_,_|.lit _,_,_|.ro _,_,_|.same _ _,_,_|.addr _ _,_,_|.sub _ _ _ _ _,_,_|.sl _ _,_,_|.ptr _,_,_|.tup _,_,_=>by rfl
theorem wR{G:Gh}{s:Nat}:(xs:List T)→ ∀(p:List Nat)(j:Nat),(yI G s xs p j).length=T.sizes xs
 | [],_,_=>by rfl
 |x::xs,p,j=>by
  simp only[yI,J5,T.sizes,wR xs p (j+1)]
  by_cases hx:∃ys,x=.tup ys
  ·obtain⟨ys,rfl⟩:=hx;rfl
  ·rw[vH x (j::p) (by grind)]
end
theorem zFO{P:Program}{G:Gh}{w:World}{s:Nat}{t:T}{p:List Nat}{b o':Nat}{T':TypeId}{ds:TypeDesc}{ti:TypeInfo}(hT:P.underlying T'=iz ds)(hi:P.info? T'=iz ti)(hl:Loc G w s t p b o')
  (fO:zFc ds= !t.single)(gw:ti.size=t.size):(loadVar T' ⟨b,o',iA⟩).run P w=.ok (sV G s t p) w:=by
 cases t with
 |agg xs=>
  have h1:=run_loadCells_list (P:=P) (w:=w) ⟨b,o',iA⟩ (yI G s xs p 0) (fun j v hv=>by rw[uP];simp only[Loc]at hl;exact zBi xs p 0 b o' hl.2 j v hv)
  rw[wR]at h1;simp only[T.size]at gw;simp[T.single]at fO;simp[loadVar,jU hT,fO,sizeOf,typeInfo,hi,gw,h1,sV]
 |tup xs=>grind[Loc]
 |_=>
  have h1:=(vD rfl hl).2.2;simp[T.single]at fO;simp only[yS]at h1;simp[loadVar,jU hT,fO,load,Sem.run,h1,sV]
def zAN(Γ:Ctx)(E:Env)(x:Operand)(r:Nat)(q:List Nat):Prop:=∀(a:Act)(w:World)(G:Gh),Rep Γ E G a.tmps w→a.eval x=.pointer (iz (G.ad r q))
theorem zAN.addr{x:Operand}{r:Nat}{q:List Nat}(hx:opT E x=iz (.addr r q)):zAN Γ E x r q:=fun a w G g9=>by
 cases x with
 |tmp s=>
  obtain⟨h1,h2,_⟩:=g9.ent s _ hx;simp only[R]at h2;rw[wH h1];exact h2
 |const v=>grind[opT]
 |func f=>grind[opT]
 |global g=>grind[opT]
theorem zAN.ptr{x:Operand}{r:Nat}{q:List Nat}{t:T}(hx:tS E x=iz (r,q,.ptr t)):zAN Γ E x r (0::q):=fun a w G g9=>by
 obtain⟨g1,g2⟩:=jI g9 hx rfl
 grind[R,zBC]
theorem zKO(x:Operand)(T':TypeId)(ds:TypeDesc)(ti:TypeInfo)(r:Nat)(q:List Nat)(t u:T)(ho:o.op=.load T' x)(gg:o.dst=iz d)(hd:d<Γ.N)
  (hT:P.underlying T'=iz ds)(hi:P.info? T'=iz ti)(fO:zFc ds= !u.single)(gw:ti.size=u.size)
  (hx:zAN Γ E x r q)(hr:E r=iz t)(hg:t.get q.reverse=iz u)(hl:t.locd q.reverse=iB)(gz:r≠d)(gB:T.okB [(d,0)] (cpT r u q)=iB):
  wK P Γ o E (E.app [(d,iz (cpT r u q))] [(d,0)]):=by
 refine wK.value gg fun a w G g9=>?_
 have bC:=hx a w G g9;obtain⟨_,h4,_⟩:=g9.ent r _ hr;obtain⟨h5,h6⟩:=zA2 q.reverse t u [] h4 hg;obtain⟨b,o',cs,e,h6,_,_⟩:=h6 hl;simp only[rp,Kn,Ja]at h5 h6;have eh:∀xs,u≠.tup xs:=by rintro xs rfl;simp only[Loc]at h6
 have h7:=zBC h6;have hz:∀z,(G.put d (fun z=>G.hd r (z++q))).hd d (z++[])=G.hd r (z++q):=fun z=>by rw[Gh.put_self,Ja]
 have hk:=G.put_keep (w:=w) (w':=w) rfl d (fun z=>G.hd r (z++q));refine⟨sV G r u q,w,?_,_,vN g9 rfl hd (fun z=>G.hd r (z++q)) (fun z=>g9.mem.one _ _) _ _ (zA3 u q [] eh hz).symm
  (zDE (fun p=>G.put_other _ p gz) u q [] hz eh (hk.keepR (zAm _ (qT r u q) gB)) h5) (qT r u q)⟩
 have h8:=zFO (T':=T') hT hi h6 fO gw;simp[execOp,ho,bC,h7,Instr.loadAt,sG,h8]
theorem zVo(x:Operand)(T':TypeId)(ds:TypeDesc)(ti:TypeInfo)(r:Nat)(q:List Nat)(t u:T)(ho:o.op=.load T' x)(gg:o.dst=iz d)(hd:d<Γ.N)
  (hT:P.underlying T'=iz ds)(hi:P.info? T'=iz ti)(fO:zFc ds= !u.single)(gw:ti.size=u.size)
  (hx:opT E x=iz (.addr r q))(hr:E r=iz t)(hg:t.get q.reverse=iz u)(hl:t.locd q.reverse=iB)(gz:r≠d)(gB:T.okB [(d,0)] (cpT r u q)=iB):
  wK P Γ o E (E.app [(d,iz (cpT r u q))] [(d,0)]):=by grind[zKO,zAN.addr]
def roT:T→T
 |.lit v=>.lit v
 |.agg xs=>.agg (roTs xs)
 |.ro t=>.ro t
 |.any=>.any
 |.same r q=>.ro (.same r q)
 |.addr r q=>.ro (.addr r q)
 |.sub r q k lo hi=>.ro (.sub r q k lo hi)
 |.sl k xs=>.ro (.sl k xs)
 |.ptr t=>.ro (.ptr t)
 |.tup xs=>.ro (.tup xs)
where roTs:List T→List T
 | []=>[]
 |x::xs=>roT x::roTs xs
end
end Go.Ab

namespace Go.Ab
open Go
def jV(v:Value):Value:=if v.oneCell' then v else .bool iC
theorem zBj(v:Value):(jV v).oneCell'=iB:=by
 unfold jV;split
 ·assumption
 ·rfl
theorem zAn{v:Value}(h:v.oneCell'=iB):jV v=v:=by simp[jV,h]
def zDG:T→Array Value→Nat→List Nat→Value
 |.agg xs,cs,o,i::f=>match xs[i]? with
  |some x=>zDG x cs (o+T.sizes (xs.take i)) f
  |none=>.bool iC
 |_,cs,o,_=>cs.getD o (.bool iC)
termination_by structural _ _ _ f=>f
theorem zAO{t:T}(h:t.single=iB)(cs:Array Value)(o:Nat)(f:List Nat):zDG t cs o f=cs.getD o (.bool iC):=by cases t<;>simp[T.single]at h<;>cases f<;>rfl
mutual
theorem zEr:(u:T)→(∀xs,u≠.tup xs)→(roT u).size=u.size
 |.agg xs,_=>by simp only[roT,T.size];exact zFd xs
 |.lit _,_|.any,_|.sl _ _,_|.ptr _,_|.ro _,_|.same _ _,_|.addr _ _,_|.sub _ _ _ _ _,_|.tup _,_=>by rfl
theorem zFd:(xs:List T)→T.sizes (roT.roTs xs)=T.sizes xs
 | []=>by rfl
 |x::xs=>by
  simp only[roT.roTs,T.sizes,zFd xs]
  by_cases hx:∃ys,x=.tup ys
  ·obtain⟨ys,rfl⟩:=hx;rfl
  ·rw[zEr x (by grind)]
end
section
variable {St:Stb}{G:Gh}{w:World}{d:Nat}
theorem zGE{u:T}{cs:Array Value}{o:Nat}(hu:u.single=iB)(h:RoC St u cs o):∃v,cs[o]? =iz v∧v.oneCell'=iB∧RoC St u #[v] 0:=by
 cases u<;>simp[T.single]at hu<;>simp only[RoC]at h ⊢
 ·grind
 ·grind
 ·obtain⟨a,c,h1,h2⟩:=h;exact⟨_,h1,rfl,a,c,by simp,h2⟩
 ·obtain⟨b,o',cs',e,fr,h1,h2⟩:=h;exact⟨_,h1,rfl,b,o',cs',e,fr,by simp,h2⟩
mutual
theorem zRD:(u:T)→ ∀(cs:Array Value)(o:Nat)(p:List Nat),(∀z,G.hd d (z++p)=jV (zDG u cs o z.reverse))→RoC St u cs o→R St G w d (roT u) p
 |.agg xs,cs,o,p,hd,h=>by
  simp only[roT,R,RoC]at h ⊢
  exact zRE xs cs o p 0 o (by simp) (fun z j x hx=>by
   have:=hd (z++[j]);simp only[Jd,Jy,Ju,Jax,Jbi,Gf,zDG]at this
   grind) h
 |.lit v,cs,o,p,hd,h=>by
  simp only[roT,R,RoC]at h ⊢
  have:=hd [];rw[Ju,zAO rfl]at this;rw[this];simp[Km,h.1,zAn h.2]
 |.any,_,_,_,_,_=>by simp only[roT,R]
 |.sl k xs,cs,o,p,hd,h|.ptr t,cs,o,p,hd,h=>by obtain⟨v,h1,h2,h3⟩:=zGE rfl h;have:=hd [];rw[Ju,zAO rfl]at this;simp only[roT,R];rw[this];simpa[Km,h1,zAn h2]using h3
 |.ro _,_,_,_,_,h|.same _ _,_,_,_,_,h|.addr _ _,_,_,_,_,h|.sub _ _ _ _ _,_,_,_,_,h|.tup _,_,_,_,_,h=>by simp only[RoC]at h
theorem zRE:(xs:List T)→ ∀(cs:Array Value)(o0:Nat)(p:List Nat)(j o:Nat),o0≤o→(∀z i x,xs[i]? =iz x→G.hd d (z++((j+i)::p))=jV (zDG x cs (o+T.sizes (xs.take i)) z.reverse))→RoF St xs cs o→RF St G w d (roT.roTs xs) p j
 | [],_,_,_,_,_,_,_,_=>by simp only[roT.roTs,RF]
 |x::xs,cs,o0,p,j,o,ho,hd,h=>by
  simp only[roT.roTs,RF,RoF]at h ⊢
  refine⟨zRD x cs o (j::p) (fun z=>by simpa[T.sizes]using hd z 0 x (by simp)) h.1,zRE xs cs o0 p (j+1) (o+x.size) (by omega) (fun z i y hy=>?_) h.2⟩;have:=hd z (i+1) y (by grind)
  grind[T.sizes]
end
mutual
theorem zGF:(u:T)→ ∀(cs:Array Value)(o:Nat)(p:List Nat),(∀z,G.hd d (z++p)=jV (zDG u cs o z.reverse))→RoC St u cs o→ ∀(i:Nat)(v:Value),(vals G d (roT u) p)[i]? =iz v→cs[o+i]? =iz v
 |.agg xs,cs,o,p,hd,h,i,v,hv=>by
  simp only[roT,vals,RoC]at h hv;exact zIG xs cs p 0 o (fun z j x hx=>by
   have:=hd (z++[j]);simp only[Jd,Jy,Ju,Jax,Jbi,Gf,zDG]at this
   grind) h i v hv
 |.lit _,cs,o,p,hd,h,i,v,hv|.any,cs,o,p,hd,h,i,v,hv|.sl _ _,cs,o,p,hd,h,i,v,hv|.ptr _,cs,o,p,hd,h,i,v,hv=>by
  obtain⟨v',h1,h2,h3⟩:=zGE rfl h;have:=hd [];rw[Ju,zAO rfl]at this;simp only[roT,vals]at hv;cases i with
  |zero=>
   simp at hv;rw[←hv,this];simp[Km,h1,zAn h2]
  |succ i=>simp at hv
 |.ro _,_,_,_,_,h,_,_,_|.same _ _,_,_,_,_,h,_,_,_|.addr _ _,_,_,_,_,h,_,_,_|.sub _ _ _ _ _,_,_,_,_,h,_,_,_|.tup _,_,_,_,_,h,_,_,_=>by simp only[RoC]at h
theorem zIG:(xs:List T)→ ∀(cs:Array Value)(p:List Nat)(j o:Nat),(∀z i x,xs[i]? =iz x→G.hd d (z++((j+i)::p))=jV (zDG x cs (o+T.sizes (xs.take i)) z.reverse))→RoF St xs cs o→ ∀(i:Nat)(v:Value),(yI G d (roT.roTs xs) p j)[i]? =iz v→cs[o+i]? =iz v
 | [],_,_,_,_,_,_,i,v,hv=>by grind[roT.roTs,yI]
 |x::xs,cs,p,j,o,hd,h,i,v,hv=>by
  simp only[roT.roTs,yI,RoF]at h hv;have hx:∀z,G.hd d (z++(j::p))=jV (zDG x cs o z.reverse):=fun z=>by simpa[T.sizes]using hd z 0 x (by simp)
  have gj:(vals G d (roT x) (j::p)).length=x.size:=by have hs:(roT x).size=x.size:=zEr x (fun ys e=>by subst e;simp only[RoC]at h;exact h.1);rw[vH (roT x) (j::p) (fun ys e=>by cases x<;>simp[roT]at e),hs]
  rw[Ks]at hv;split at hv
  ·exact zGF x cs o (j::p) hx h.1 i v hv
  ·have:=zIG xs cs p (j+1) (o+x.size) (fun z i y hy=>by
    have:=hd z (i+1) y (by grind)
    grind[T.sizes]) h.2 _ v hv
   grind
end
mutual
theorem zO8:(u:T)→Top (roT u)
 |.agg xs=>by simp only[roT,Top];exact zKP xs
 |.lit _|.any|.sl _ _|.ptr _|.ro _|.same _ _|.addr _ _|.sub _ _ _ _ _|.tup _=>by simp[roT,Top]
theorem zKP:(xs:List T)→vQ (roT.roTs xs)
 | []=>by simp only[roT.roTs,vQ]
 |x::xs=>by simp only[roT.roTs,vQ];exact⟨zO8 x,zKP xs⟩
end
end
section
variable {P:Program}{Γ:Ctx}{E:Env}{o:Oper}{d:Nat}
theorem zO9{G:Gh}{w:World}(hm:Mem Γ G w){b:Nat}{cs:Array Value}{e:TypeId}{fr:Nat×Nat}(h:Γ.St b=iz (.cells cs e fr))(i:Nat):w.cell? ⟨b,i,iA⟩=cs[i]?:=by simp[World.cell?,hm.st b _ h]
theorem zNc(x:Operand)(T':TypeId)(ds:TypeDesc)(ti:TypeInfo)(u:T)(ho:o.op=.load T' x)(gg:o.dst=iz d)(hd:d<Γ.N)
  (hT:P.underlying T'=iz ds)(hi:P.info? T'=iz ti)(fO:zFc ds= !u.single)(gw:ti.size=u.size)
  (hx:opT E x=iz (.ro (.ptr u))):wK P Γ o E (E.app [(d,iz (roT u))] [(d,0)]):=by
 refine wK.value gg fun a w G g9=>?_
 have h1:=zNb g9 hx;simp only[RoC]at h1;obtain⟨b,o',cs',e,fr,h2,h3,h4⟩:=h1;have cr:a.eval x=.pointer (iz ⟨b,o',iA⟩):=by grind
 have eh:∀xs,u≠.tup xs:=by rintro xs rfl;simp only[RoC]at h4
 let f:List Nat→Value:=fun z=>jV (zDG u cs' o' z.reverse)
 have hz:∀z,(G.put d f).hd d (z++[])=jV (zDG u cs' o' z.reverse):=by grind[Gh.put_self]
 refine⟨mkV (G.put d f) d (roT u) [],w,?_,_,vN g9 rfl hd f (fun z=>zBj _) _ _ rfl (by grind[zRD]) (zO8 u)⟩;cases u with
 |agg xs=>
  have h5:∀j v,(yI (G.put d f) d (roT.roTs xs) [] 0)[j]? =iz v→w.cell? ((⟨b,o',iA⟩:Addr).add j)=iz v:=by intro j v hv;rw[uP,zO9 g9.mem h3];exact zGF (.agg xs) cs' o' [] hz h4 j v (by grind[roT,vals])
  have h6:=run_loadCells_list (P:=P) (w:=w) ⟨b,o',iA⟩ _ h5;rw[wR,zFd]at h6;simp only[T.size]at gw;simp[T.single]at fO;simp[execOp,ho,cr,Instr.loadAt,sG,loadVar,jU hT,fO,sizeOf,typeInfo,hi,gw,h6,mkV,roT]
 |tup xs=>grind
 |_=>
  obtain⟨v,h5,h6,h7⟩:=zGE rfl h4;have h8:w.cell? ⟨b,o',iA⟩=iz v:=by rw[zO9 g9.mem h3];exact h5
  simp[T.single]at fO;have h9:f []=v:=by show jV (zDG _ cs' o' _)=v;rw[zAO rfl];simp[Km,h5,zAn h6]
  simp[execOp,ho,cr,Instr.loadAt,sG,loadVar,jU hT,fO,load,Sem.run,h8,mkV,roT,Gh.put_self,h9]
def zFP(E:Env)(x:Operand):Bool:=
 match opT E x with
 |some (.addr _ _)|some (.ro (.ptr _))=>iB
 |_=>match tS E x with
  |some (_,_,.ptr _)=>iB
  |some (_,_,.ro (.ptr _))=>iB
  |_=>iC
theorem zRF{G:Gh}{a:Act}{w:World}(g9:Rep Γ E G a.tmps w){x:Operand}(h:zFP E x=iB):∃ad,a.eval x=.pointer (iz ad):=by
 unfold zFP at h;split at h
 ·rename_i r q hx
  cases x with
  |tmp s=>
   obtain⟨h1,h2,_⟩:=g9.ent s _ hx;simp only[R]at h2;exact⟨_,by rw[wH h1,xV rfl,h2]⟩
  |const v=>grind[opT]
  |func f=>grind[opT]
  |global g=>grind[opT]
 ·rename_i u hx
  have:=zNb g9 hx;simp only[RoC]at this
  grind
 ·split at h
  ·rename_i hl
   obtain⟨h1,h2⟩:=jI g9 hl rfl;simp only[R]at h1
   grind
  ·rename_i hl
   obtain⟨h1,h2⟩:=jI g9 hl rfl;simp only[R,RoC]at h1
   grind
  ·cases h
theorem zX1(x:Operand)(t:T)(ho:o.op=.nilCheck x)(gg:o.dst=iz d)(hd:d<Γ.N)(hx:opT E x=iz t)(hp:zFP E x=iB)(ht:∀xs,t≠.tup xs)
  (gf:∀s,x=.tmp s→s≠d)(gB:T.okB [(d,0)] (tH x t)=iB):wK P Γ o E (E.app [(d,iz (tH x t))] [(d,0)]):=by
 refine wK.value gg fun a w G g9=>?_
 obtain⟨f,hf,h1,h2⟩:=opd g9 hx ht;obtain⟨h3,h4⟩:=h1 d gf gB;obtain⟨ad,h5⟩:=zRF g9 hp;refine⟨a.eval x,w,?_,_,vN g9 rfl hd f hf _ _ h3 h4 h2⟩;simp[execOp,ho,h5]
theorem zKQ{G:Gh}{s:Nat}:(xs:List T)→ ∀(p:List Nat)(j i:Nat)(x:T),xs[i]? =iz x→(jG G s xs p j)[i]? =iz (sV G s x ((j+i)::p))
 | [],_,_,_,_,h=>by simp at h
 |y::ys,p,j,i,x,h=>by
  cases i with
  |zero=>grind[jG]
  |succ i=>
   have:=zKQ (G:=G) (s:=s) ys p (j+1) i x (by grind)
   grind[jG]
theorem zNd(s i:Nat)(ts:List T)(t:T)(ho:o.op=.extract (.tmp s) i)(gg:o.dst=iz d)(hd:d<Γ.N)(hs:E s=iz (.tup ts))(hi:ts[i]? =iz t)(ht:∀xs,t≠.tup xs)
  (gf:s≠d)(gB:T.okB [(d,0)] (cpT s t [i])=iB):wK P Γ o E (E.app [(d,iz (cpT s t [i]))] [(d,0)]):=by
 refine wK.value gg fun a w G g9=>?_
 obtain⟨h1,h2,_⟩:=g9.ent s _ hs;simp only[R]at h2;have h3:=zAX ts [] 0 i t h2 hi;simp only[Jf]at h3;have h4:=zKQ (G:=G) (s:=s) ts [] 0 i t hi;simp only[Jf]at h4;have hk:=G.put_keep (w:=w) (w':=w) rfl d (fun z=>G.hd s (z++[i]));have hz:∀z,(G.put d (fun z=>G.hd s (z++[i]))).hd d (z++[])=G.hd s (z++[i]):=by grind[Gh.put_self]
 refine⟨sV G s t [i],w,?_,_,vN g9 rfl hd (fun z=>G.hd s (z++[i])) (fun z=>g9.mem.one _ _) _ _ (by grind[zA3])
  (zDE (fun p=>G.put_other _ p gf) t [i] [] hz ht (hk.keepR (by grind[zAm,qT])) h3) (qT s t [i])⟩
 simp[execOp,ho,wH h1,mkV,Instr.extract,h4]
def zBD(E:Env)(x:Option Operand)(dflt n:Nat):Prop:=
 match x with
 |none=>n=dflt
 |some y=> ∃kd,opT E y=iz (.lit (.int kd n))
theorem zGG{St:Stb}:(xs:List T)→ ∀(cs:Array Value)(o k l:Nat),RoL St xs cs o k→RoL St (xs.drop l) cs (o+l*k) k
 | [],_,_,_,_,_=>by simp[RoL]
 |x::xs,cs,o,k,l,h=>by
  cases l with
  |zero=>grind
  |succ l=>
   simp only[RoL]at h;have:=zGG xs cs (o+k) k l h.2
   grind
theorem zGH{St:Stb}:(xs:List T)→ ∀(cs:Array Value)(o k l:Nat),RoL St xs cs o k→RoL St (xs.take l) cs o k
 | [],_,_,_,_,_=>by simp[RoL]
 |x::xs,cs,o,k,l,h=>by
  cases l with
  |zero=>simp[RoL]
  |succ l=>simp only[RoL,Ku]at h ⊢;exact⟨h.1,zGH xs cs _ k l h.2⟩
theorem zCY{P:Program}{G:Gh}{a:Act}{w:World}(g9:Rep Γ E G a.tmps w){x:Operand}{kd:IntKind}{n y:Nat}{c:BoundsCode}(hx:opT E x=iz (.lit (.int kd n)))(h:n≤y):
  (Instr.sliceBound (a.eval x) y c).run P w=.ok n w:=by
 rw[(wL g9 hx).1];have:(n:Int)≤(y:Int):=by omega
 simp[Instr.sliceBound,asIntOf,this]
theorem zGI{P:Program}{G:Gh}{a:Act}{w:World}(g9:Rep Γ E G a.tmps w){lo hi:Option Operand}{l h n c:Nat}(ex:zBD E lo 0 l)(fw:zBD E hi n h)(h1:l≤h)(h2:h≤c):
  (Instr.sliceBounds iB n c (lo.map a.eval) (hi.map a.eval) iA).run P w=.ok (l,h,c) w:=by
 cases lo with
 |none=>
  cases hi with
  |none=>simp only[zBD]at ex fw;subst ex;subst fw;rfl
  |some y=>simp only[zBD]at ex fw;obtain⟨kd,hy⟩:=fw;subst ex;simp[Instr.sliceBounds,zCY g9 hy h2]
 |some x=>
  obtain⟨kd,hx⟩:=ex;cases hi with
  |none=>simp only[zBD]at fw;subst fw;simp[Instr.sliceBounds,zCY g9 hx h1]
  |some y=>obtain⟨kd',hy⟩:=fw;simp[Instr.sliceBounds,zCY g9 hy h2,zCY g9 hx h1]
theorem zKR(x:Operand)(lo hi:Option Operand)(t e:TypeId)(ti:TypeInfo)(r:Nat)(q:List Nat)(k:Nat)(xs:List T)(l h:Nat)(ho:o.op=.slice t x lo hi iA)(gg:o.dst=iz d)(hd:d<Γ.N)
  (ht:P.underlying t=iz (.slice e))(he:P.info? e=iz ti)(hk:ti.size=k)(hx:tS E x=iz (r,q,.ro (.sl k xs)))(ex:zBD E lo 0 l)(fw:zBD E hi xs.length h)(h1:l≤h)(h2:h≤xs.length):
  wK P Γ o E (E.app [(d,iz (.ro (.sl k ((xs.drop l).take (h-l)))))] [(d,0)]):=by
 refine wK.value gg fun a w G g9=>?_
 obtain⟨g1,g2⟩:=jI g9 hx rfl;obtain⟨a',c,g4,g5,g6,g7⟩:=zCX g1;have g8:=zGI (P:=P) g9 ex fw h1 (Gm h2 g5);have gj:((xs.drop l).take (h-l)).length=h-l:=by simp;omega
 refine⟨.slice (if c=l then a' else a'.map (·.add (l*k))) (h-l) (c-l),w,?_,_,vN g9 rfl hd (fun _=>.slice (if c=l then a' else a'.map (·.add (l*k))) (h-l) (c-l)) (fun _=>rfl) _ _ (by simp[mkV,Gh.put]) ?_ (by simp[Top])⟩
 ·simp only[execOp,ho,Jb4]
  simp[Instr.sliceAt,Instr.slice,run_underlying ht,g2,g4,g8,sizeOf,typeInfo,he,hk]
 ·simp only[R,Gh.put_self,RoC]
  refine⟨_,_,by rw[gj];rfl,by omega,by omega,?_⟩;intro gf;have eG:xs≠[]:=by grind
  obtain⟨b,o',cs',e',fr,rfl,h3,h4⟩:=g7 eG;have gC:c≠l:=by grind
  grind[uP,zGH,zGG]
theorem zJ9(x:Operand)(lo hi:Option Operand)(t e:TypeId)(ti:TypeInfo)(r:Nat)(q:List Nat)(k:Nat)(xs:List T)(l h:Nat)(ho:o.op=.slice t x lo hi iA)(gg:o.dst=iz d)(hd:d<Γ.N)
  (ht:P.underlying t=iz (.slice e))(he:P.info? e=iz ti)(hk:ti.size=k)(hx:tS E x=iz (r,q,.sl k xs))(ex:zBD E lo 0 l)(fw:zBD E hi xs.length h)(h1:l≤h)(h2:h≤xs.length)(gz:r≠d):
  wK P Γ o E (E.app [(d,iz (.sub r q k l h))] [(d,0)]):=by
 refine wK.value gg fun a w G g9=>?_
 obtain⟨g1,g2⟩:=jI g9 hx rfl;obtain⟨a',c,g4⟩:=zJ8 g1;have g5:xs.length≤c:=by
  simp only[R]at g1
  grind
 have g8:=zGI (P:=P) g9 ex fw h1 (Gm h2 g5);refine⟨zBg (G.hd r q) k l h,w,?_,_,vN g9 rfl hd (fun _=>zBg (G.hd r q) k l h) (fun _=>by rw[g4];rfl) _ _ (by simp[mkV,Gh.put]) ?_ (by simp[Top])⟩
 ·simp only[execOp,ho,Jb4]
  simp[Instr.sliceAt,Instr.slice,run_underlying ht,g2,g4,g8,sizeOf,typeInfo,he,hk,zBg]
 ·simp only[R,Gh.put_self]
  grind[Gh.put_other]
end
end Go.Ab

namespace Go.Ab
open Go
def T.inT:T→List Nat→Bool
 |_,[]=>iB
 |.agg xs,i::f=>match xs[i]? with
  |some x=>x.inT f
  |none=>iC
 |.any,_::_|.lit _,_::_|.ro _,_::_|.same _ _,_::_|.addr _ _,_::_|.sub _ _ _ _ _,_::_|.sl _ _,_::_|.ptr _,_::_|.tup _,_::_=>iC
termination_by structural _ f=>f
def T.offT:T→List Nat→Nat
 |_,[]=>0
 |.agg xs,i::f=>match xs[i]? with
  |some x=>T.sizes (xs.take i)+x.offT f
  |none=>0
 |.any,_::_|.lit _,_::_|.ro _,_::_|.same _ _,_::_|.addr _ _,_::_|.sub _ _ _ _ _,_::_|.sl _ _,_::_|.ptr _,_::_|.tup _,_::_=>0
termination_by structural _ f=>f
theorem zGJ{t:T}(h:t.single=iB){f:List Nat}(hf:f≠[]):t.inT f=iC:=by
 cases f with
 |nil=>grind
 |cons i f=>cases t<;>simp[T.single]at h<;>rfl
mutual
def zRG:T→List Nat→Nat→Option (List Nat)
 |.agg xs,p,o=>zCq xs p 0 o
 |.any,p,o|.lit _,p,o|.ro _,p,o|.same _ _,p,o|.addr _ _,p,o|.sub _ _ _ _ _,p,o|.sl _ _,p,o|.ptr _,p,o|.tup _,p,o=>if o=0 then iz p else iA
def zCq:List T→List Nat→Nat→Nat→Option (List Nat)
 | [],_,_,_=>iA
 |x::xs,p,j,o=>if o<x.size then zRG x (j::p) o else zCq xs p (j+1) (o-x.size)
end
mutual
def T.okTup:T→Bool
 |.tup _=>iC
 |.agg xs=>yV xs
 |.any|.lit _|.ro _|.same _ _|.addr _ _|.sub _ _ _ _ _|.sl _ _|.ptr _=>iB
def yV:List T→Bool
 | []=>iB
 |x::xs=>x.okTup&&yV xs
end
theorem zDH:(xs:List T)→ ∀(p:List Nat)(j o:Nat),T.sizes xs≤o→zCq xs p j o=iA
 | [],_,_,_,_=>by rfl
 |x::xs,p,j,o,h=>by simp only[T.sizes]at h;simp only[zCq];rw[if_neg (by omega)];exact zDH xs p (j+1) _ (by omega)
section
variable {G:Gh}{w:World}{d:Nat}
mutual
theorem zX2:(x:T)→ ∀(p:List Nat)(B o:Nat),(∀xs,x≠.tup xs)→x.okTup=iB→
  (∀f,x.inT f=iB→G.ad d (f.reverse++p)=⟨B,o+x.offT f,iA⟩)→(∀j p',j<x.size→zRG x p j=iz p'→G.lb B (o+j)=iz (iC,d,p'))→
  (∀j v,(vals G d x p)[j]? =iz v→yS w B (o+j)=iz v)→Loc G w d x p B o
 |.agg xs,p,B,o,_,hn,ha,hl,hc=>by
  simp only[Loc];refine⟨by simpa[T.offT]using ha [] rfl,zGs xs p 0 B o (by grind[T.okTup]) (fun i x hx f hf=>?_) (fun j p' hj hp=>?_) (by grind[vals])⟩
  ·have:=ha (i::f) (by grind[T.inT])
   grind[T.offT]
  grind[T.size,zRG]
 |.any,p,B,o,_,_,ha,hl,hc|.lit _,p,B,o,_,_,ha,hl,hc|.ro _,p,B,o,_,_,ha,hl,hc|.same _ _,p,B,o,_,_,ha,hl,hc|.addr _ _,p,B,o,_,_,ha,hl,hc|.sub _ _ _ _ _,p,B,o,_,_,ha,hl,hc|.sl _ _,p,B,o,_,_,ha,hl,hc|.ptr _,p,B,o,_,_,ha,hl,hc=>by simp only[Loc];exact⟨by simpa[T.offT]using ha [] rfl,by simpa using hl 0 p (by simp[T.size]) (by rfl),by simpa using hc 0 (G.hd d p) (by simp[vals])⟩
 |.tup xs,_,_,_,h,_,_,_,_=>absurd rfl (h xs)
theorem zGs:(xs:List T)→ ∀(p:List Nat)(j B o:Nat),yV xs=iB→
  (∀i x,xs[i]? =iz x→ ∀f,x.inT f=iB→G.ad d (f.reverse++((j+i)::p))=⟨B,o+(T.sizes (xs.take i)+x.offT f),iA⟩)→
  (∀i p',i<T.sizes xs→zCq xs p j i=iz p'→G.lb B (o+i)=iz (iC,d,p'))→
  (∀i v,(yI G d xs p j)[i]? =iz v→yS w B (o+i)=iz v)→vL G w d xs p j B o
 | [],_,_,_,_,_,_,_,_=>by simp only[vL]
 |x::xs,p,j,B,o,hn,ha,hl,hc=>by
  simp only[yV,J4]at hn;have eh:∀ys,x≠.tup ys:=by rintro ys rfl;grind[T.okTup]
  simp only[vL];refine⟨zX2 x (j::p) B o eh hn.1 (fun f hf=>by simpa[T.sizes]using ha 0 x (by simp) f hf) (fun i p' hi hp=>hl i p' (by grind[T.sizes]) (by simp only[zCq,hi,if_true];exact hp)) (fun i v hv=>hc i v ?_),
   zGs xs p (j+1) B (o+x.size) hn.2 (fun i y hy f hf=>?_) (fun i p' hi hp=>?_) (fun i v hv=>?_)⟩
  ·grind[yI]
  ·have:=ha (i+1) y (by grind) f hf
   grind[T.sizes]
  ·have:=hl (x.size+i) p' (by grind[T.sizes]) (by simp only[zCq];grind)
   grind
  ·have:=hc (x.size+i) v (by
    grind[yI,vH])
   grind
end
end
structure MvC (G:Gh) (w:World) (G':Gh) (w':World) (s:Nat) (p:List Nat) (s':Nat) (p':List Nat) (t:T):Prop where
 hd:∀z,G'.hd s' (z++p')=G.hd s (z++p)
 ad:∀z,t.inT z.reverse=iC→G'.ad s' (z++p')=G.ad s (z++p)
 lb:∀b o f z,(f=iB∨t.inT z.reverse=iC)→G.lb b o=iz (f,s,z++p)→G'.lb b o=iz (f,s',z++p')∧yS w' b o=yS w b o
 ow:∀b z,G.ow b=iz (s,z++p)→G'.ow b=iz (s',z++p')
 blk:Blk w w'
section
variable {St:Stb}{G:Gh}{w:World}{G':Gh}{w':World}{s:Nat}{s':Nat}
theorem MvC.moves{p p':List Nat}{t:T}(h:MvC G w G' w' s p s' p' t)(ht:t.single=iB):zID G w G' w' s p s' p' where
 hd:=h.hd
 ad z hz:=h.ad z (zGJ ht (by simp_all))
 lb b o f z hz _ hl:=h.lb b o f z (.inr (zGJ ht (by simp_all))) hl
 ow b z _ hl:=h.ow b z hl
 blk:=h.blk
 sp b o _ hl:=by simpa using h.lb b o iB [] (.inl rfl) (by grind)
 ow0 b hl:=by simpa using h.ow b [] (by grind)
theorem MvC.field{p p':List Nat}{xs:List T}(h:MvC G w G' w' s p s' p' (.agg xs)){j:Nat}{x:T}(hx:xs[j]? =iz x):MvC G w G' w' s (j::p) s' (j::p') x where
 hd z:=by have:=h.hd (z++[j]);grind
 ad z hz:=by
  have:=h.ad (z++[j]) (by grind[T.inT])
  grind
 lb b o f z hf hl:=by
  have:=h.lb b o f (z++[j]) (by grind[T.inT]) (by grind)
  grind
 ow b z hl:=by
  have:=h.ow b (z++[j]) (by grind)
  grind
 blk:=h.blk
mutual
theorem zKS:(t:T)→ ∀(p p':List Nat),t.okTup=iB→MvC G w G' w' s p s' p' t→xF (zAf G G') t→R St G w s t p→R St G' w' s' t p'
 |.agg xs,p,p',hn,h,hk,hr=>by
  simp only[R,xF,T.okTup]at hr hk hn ⊢
  exact zRH xs p p' 0 hn (fun j x hx=>by rw[Jf];exact h.field hx) hk hr
 |.any,p,p',_,h,hk,hr|.lit _,p,p',_,h,hk,hr|.ro _,p,p',_,h,hk,hr|.same _ _,p,p',_,h,hk,hr|.addr _ _,p,p',_,h,hk,hr|.sub _ _ _ _ _,p,p',_,h,hk,hr|.sl _ _,p,p',_,h,hk,hr|.ptr _,p,p',_,h,hk,hr=>
  zAl (h.moves rfl) _ hk hr
 |.tup _,_,_,hn,_,_,_=>by grind[T.okTup]
theorem zRH:(xs:List T)→ ∀(p p':List Nat)(j:Nat),yV xs=iB→(∀i x,xs[i]? =iz x→MvC G w G' w' s ((j+i)::p) s' ((j+i)::p') x)→wC (zAf G G') xs→RF St G w s xs p j→RF St G' w' s' xs p' j
 | [],_,_,_,_,_,_,_=>by simp only[RF]
 |x::xs,p,p',j,hn,h,hk,hr=>by
  simp only[RF,wC,yV,J4]at hr hk hn ⊢
  exact⟨zKS x (j::p) (j::p') hn.1 (by simpa using h 0 x (by simp)) hk.1 hr.1,zRH xs p p' (j+1) hn.2 (fun i y hy=>by
   have:=h (i+1) y (by grind)
   grind) hk.2 hr.2⟩
end
end
theorem zOA{St:Stb}{G:Gh}{w:World}{s:Nat}:(xs:List T)→ ∀(p:List Nat)(j:Nat),(∀i x,xs[i]? =iz x→R St G w s x ((j+i)::p))→RF St G w s xs p j
 | [],_,_,_=>by simp only[RF]
 |x::xs,p,j,h=>by
  simp only[RF];exact⟨by simpa using h 0 x (by simp),zOA xs p (j+1) (fun i y hy=>by
   have:=h (i+1) y (by grind)
   grind)⟩
theorem zRI{St:Stb}{G:Gh}{w:World}{s:Nat}{k:Nat}:(xs:List T)→ ∀(p:List Nat)(j b o:Nat),(∀x∈xs,x.size=k)→vL G w s xs p j b o→RF St G w s xs p j→RL St G w s xs p j b o k
 | [],_,_,_,_,_,_,_=>by simp only[RL]
 |x::xs,p,j,b,o,hk,hl,hr=>by
  simp only[RL,vL,RF]at hl hr ⊢
  have h1:=hk x (by simp);exact⟨⟨hl.1,h1⟩,hr.1,zRI xs p (j+1) b (o+k) (by grind) (by grind) hr.2⟩
theorem wU{k:Nat}:(xs:List T)→(∀x∈xs,x.size=k)→T.sizes xs=xs.length*k
 | [],_=>by simp[T.sizes]
 |x::xs,h=>by simp[T.sizes,wU xs (fun y hy=>h y (by simp[hy])),h x (by simp),K6];omega
def Gh.nb(G:Gh)(d B:Nat)(xs:List T)(src:Nat→Option (Nat×List Nat))(φ:Nat→List Nat→Option (List Nat))(f:Nat→List Nat→Value)(gZ:Value):Gh where
 hd s z:=if s=d then(match z.getLast? with
  |some i=>f i z.dropLast
  |none=>gZ)else G.hd s z
 ad s z:=if s=d then(if(T.agg xs).inT z.reverse then⟨B,(T.agg xs).offT z.reverse,iA⟩else match z.getLast? with
  |some i=>(match src i with
   |some (x,q)=>G.ad x (z.dropLast++q)
   |none=>default)
  |none=>default)else G.ad s z
 lb b o:=if b=B then iz (match zCq xs [] 0 o with
  |some p=>(iC,d,p)
  |none=>(iB,d,[]))else match G.lb b o with
  |some (fl,s,z)=>(match φ s z with
   |some z'=>iz (fl,d,z')
   |none=>iz (fl,s,z))
  |none=>iA
 ow b:=if b=B then iz (d,[])else match G.ow b with
  |some (s,z)=>(match φ s z with
   |some z'=>iz (d,z')
   |none=>iz (s,z))
  |none=>iA
theorem zCZ{Γ:Ctx}{G:Gh}{w w':World}(hm:Mem Γ G w){cells:Array Value}{e:TypeId}(hw:w'.heap=w.heap.push (.cells cells e))(d:Nat)(xs:List T)
  (src:Nat→Option (Nat×List Nat))(φ:Nat→List Nat→Option (List Nat))(f:Nat→List Nat→Value)(gZ:Value)(chg:Chg)
  (gB:yV xs=iB)(hf:∀(i:Nat)(z:List Nat),(f i z).oneCell'=iB)(hh:gZ.oneCell'=iB)
  (hφ:∀(i:Nat) u x q(z:List Nat),xs[i]? =iz u→src i=iz (x,q)→φ x (z++q)=iz (z++[i]))
  (dF:∀(i:Nat) u x q,xs[i]? =iz u→src i=iz (x,q)→(∀z,f i z=G.hd x (z++q))∧R Γ.St G w x u q∧yD u∧x≠d)
  (ap:∀(i:Nat) u,xs[i]? =iz u→src i=iA→ ∀(G2:Gh)(w2:World),(∀z,G2.hd d (z++[i])=f i z)→R Γ.St G2 w2 d u [i])
  (ch:∀(G2:Gh),(∀i z,G2.hd d (z++[i])=f i z)→ ∀(o:Nat)(v:Value),(yI G2 d xs [] 0)[o]? =iz v→cells[o]? =iz v)
  (aQ:∀s p,(∀n,(s,n)∉(d,0)::chg)→φ s p=iA)(ho:w'.os=w.os:=by rfl)(hq:w'.output=w.output:=by rfl):
  qY ((d,0)::chg) G w (G.nb d w.heap.size xs src φ f gZ) w'∧Mem Γ (G.nb d w.heap.size xs src φ f gZ) w'∧
  vL (G.nb d w.heap.size xs src φ f gZ) w' d xs [] 0 w.heap.size 0∧RF Γ.St (G.nb d w.heap.size xs src φ f gZ) w' d xs [] 0∧
  w'.heap[w.heap.size]? =iz (.cells cells e):=by
 have eF:w'.heap[w.heap.size]? =iz (.cells cells e):=by grind
 have gG:∀b,b<w.heap.size→w'.heap[b]? =w.heap[b]?:=fun b hb=>by rw[hw,Array.getElem?_push];grind
 have gw:w'.heap.size=w.heap.size+1:=by grind
 have fc:∀b o,b<w.heap.size→yS w' b o=yS w b o:=fun b o hb=>by simp[yS,World.cell?,gG b hb]
 have gJ:Blk w w':=fun b cs e' h=>⟨cs,by rw[gG b (by grind)];exact h,rfl⟩
 have gr:=hm.one
 generalize gm:G.nb d w.heap.size xs src φ f gZ=G'
 have ghd:∀i z,G'.hd d (z++[i])=f i z:=fun i z=>by rw[←gm];simp[Gh.nb]
 have gad:∀g,(T.agg xs).inT g=iB→G'.ad d g.reverse=⟨w.heap.size,(T.agg xs).offT g,iA⟩:=fun g hg=>by rw[←gm];simp[Gh.nb,hg]
 have gadm:∀i x q z,src i=iz (x,q)→(T.agg xs).inT (i::z.reverse)=iC→G'.ad d (z++[i])=G.ad x (z++q):=fun i x q z hs gO=>by rw[←gm];simp[Gh.nb,gO,hs]
 have glb:∀o p,zCq xs [] 0 o=iz p→G'.lb w.heap.size o=iz (iC,d,p):=fun o p h=>by rw[←gm];simp[Gh.nb,h]
 have glbm:∀b o fl x z z',G.lb b o=iz (fl,x,z)→φ x z=iz z'→G'.lb b o=iz (fl,d,z'):=fun b o fl x z z' h1 h2=>by have:=(hm.lb b o _ h1).1;rw[←gm];simp[Gh.nb,h1,h2,show b≠w.heap.size from by omega]
 have gowm:∀b x z z',G.ow b=iz (x,z)→φ x z=iz z'→G'.ow b=iz (d,z'):=fun b x z z' h1 h2=>by have:=(hm.ow b _ h1).1;rw[←gm];simp[Gh.nb,h1,h2,show b≠w.heap.size from by omega]
 have gf:∀s p,Off ((d,0)::chg) s p→s≠d:=fun s p h e=>absurd (h 0 (by simp[e])) (by simp)
 have gx:qY ((d,0)::chg) G w G' w':=by
  refine⟨fun s p h=>?_,fun s p h=>?_,fun b o fl s p _ hl h=>⟨?_,fc b o (hm.lb b o _ hl).1⟩,fun b s p hl h=>?_,gJ⟩
  ·rw[←gm];simp[Gh.nb,gf s p h]
  ·rw[←gm];simp[Gh.nb,gf s p h]
  ·have:=(hm.lb b o _ hl).1
   rw[←gm];simp[Gh.nb,hl,aQ s p h,show b≠w.heap.size from by omega]
  ·have:=(hm.ow b _ hl).1
   rw[←gm];simp[Gh.nb,hl,aQ s p h,show b≠w.heap.size from by omega]
 refine⟨gx,?_,?_,?_,eF⟩
 ·
  have hB:zCn Γ w' w.heap.size:=⟨by omega,.inl hm.sz,by
   cases gA:Γ.St w.heap.size with
   |none=>rfl
   |some x=>have:=hm.st _ x gA;simp at this⟩
  have fC:∀b,zCn Γ w b→zCn Γ w' b:=fun b h=>⟨by have:=h.1;omega,h.2⟩
  refine⟨fun s p=>?_,fun b o l hl=>?_,fun b l hl=>?_,fun b x hx=>?_,fun b h1 h2=>?_,by have:=hm.sz;omega,hm.bk.trans gJ ho hq⟩
  ·rw[←gm]
   simp only[Gh.nb];split
   ·split
    ·exact hf _ _
    ·exact hh
   ·exact gr s p
  ·rw[←gm]at hl
   simp only[Gh.nb]at hl;split at hl
   ·grind
   ·split at hl
    ·rename_i hg;exact fC b (hm.lb b o _ hg)
    ·cases hl
  ·rw[←gm]at hl
   simp only[Gh.nb]at hl;split at hl
   ·grind
   ·split at hl
    ·rename_i hg;exact fC b (hm.ow b _ hg)
    ·cases hl
  ·have:=hm.st b x hx
   rw[gG b (L8.1 this).1];exact this
  ·rw[gG b (Jb5 h1 hm.sz)]
   exact hm.fr b h1 h2
 ·
  refine zGs xs [] 0 w.heap.size 0 gB (fun i x hx g hg=>?_) (fun i p' _ hp=>by simpa using glb i p' hp) (fun i v hv=>?_)
  ·have:=gad (i::g) (by simp only[T.inT,hx];exact hg)
   simpa[T.offT,hx]using this
  ·have:=ch G' ghd i v hv
   rw[Jf];simp[yS,World.cell?,eF,this]
 ·
  refine zOA xs [] 0 (fun i u hu=>?_);rw[Jf];cases hs:src i with
  |none=>exact ap i u hu hs G' w' (fun z=>ghd i z)
  |some xq=>
   obtain⟨x,q⟩:=xq;obtain⟨h1,h2,h3,h4⟩:=dF i u x q hu hs;have gO:∀g,(T.agg xs).inT (i::g)=u.inT g:=fun g=>by simp only[T.inT,hu]
   refine zKS u q [i] (okTups_get xs gB i u hu) ⟨fun z=>by rw[ghd,h1],fun z hz=>gadm i x q z hs (by rw[gO];exact hz),fun b o fl z hz hl=>⟨glbm b o fl x _ _ hl (hφ i u x q z hu hs),fc b o (hm.lb b o _ hl).1⟩,
    fun b z hl=>gowm b x _ _ hl (hφ i u x q z hu hs),gJ⟩ (xF.mono (by simp) u h3) h2
where okTups_get:(xs:List T)→yV xs=iB→ ∀(i:Nat)(x:T),xs[i]? =iz x→x.okTup=iB
 | [],_,_,_,h=>by simp at h
 |y::ys,hk,i,x,h=>by
  simp only[yV,J4]at hk;cases i with
  |zero=>grind
  |succ i=>exact okTups_get ys hk.2 i x (by grind)
end Go.Ab

namespace Go.Ab
open Go
inductive yW where
 |slot (s:Nat) (t:T)
 |zero (u:T)
def yW.tree:yW→T
 |.slot _ t=>t
 |.zero u=>u
def sW:T→Bool
 |.lit _|.ro _=>iC
 |_=>iB
mutual
def T.zOk:T→Bool
 |.lit v=>v.oneCell'
 |.sl _ xs=>xs.isEmpty
 |.agg xs=>zAo xs
 |.any|.ro _|.same _ _|.addr _ _|.sub _ _ _ _ _|.ptr _|.tup _=>iC
def zAo:List T→Bool
 | []=>iB
 |x::xs=>x.zOk&&zAo xs
end
def zhd:T→List Nat→Value
 |.agg xs,i::f=>match xs[i]? with
  |some x=>zhd x f
  |none=>.bool iC
 |.lit v,_=>v
 |.sl _ _,_=>.slice iA 0 0
 |.agg _,[] |.any,_|.ro _,_|.same _ _,_|.addr _ _,_|.sub _ _ _ _ _,_|.ptr _,_|.tup _,_=>.bool iC
termination_by structural _ f=>f
mutual
def sC:T→List Value
 |.lit v=>[v]
 |.sl _ _=>[.slice iA 0 0]
 |.agg xs=>qJ xs
 |.any|.ro _|.same _ _|.addr _ _|.sub _ _ _ _ _|.ptr _|.tup _=>[]
def qJ:List T→List Value
 | []=>[]
 |x::xs=>sC x++qJ xs
end
section
variable {St:Stb}{G:Gh}{w:World}{d:Nat}
mutual
theorem zJA:(u:T)→ ∀(p:List Nat),u.zOk=iB→(∀z,G.hd d (z++p)=jV (zhd u z.reverse))→R St G w d u p
 |.lit v,p,h,hd=>by
  simp only[T.zOk,R]at h ⊢
  have:=hd [];rw[Ju]at this;rw[this];exact zAn h
 |.sl k xs,p,h,hd=>by simp only[T.zOk,Jbm]at h;subst h;have:=hd [];rw[Ju]at this;simp only[R];exact .inl ⟨trivial,iA,by rw[this];rfl⟩
 |.agg xs,p,h,hd=>by
  simp only[T.zOk,R]at h ⊢
  exact zOB xs p 0 h (fun i x hx z=>by
   rw[Jf];have:=hd (z++[i])
   grind[zhd])
 |.any,_,h,_|.ro _,_,h,_|.same _ _,_,h,_|.addr _ _,_,h,_|.sub _ _ _ _ _,_,h,_|.ptr _,_,h,_|.tup _,_,h,_=>by grind[T.zOk]
theorem zOB:(xs:List T)→ ∀(p:List Nat)(j:Nat),zAo xs=iB→(∀i x,xs[i]? =iz x→ ∀z,G.hd d (z++((j+i)::p))=jV (zhd x z.reverse))→RF St G w d xs p j
 | [],_,_,_,_=>by simp only[RF]
 |x::xs,p,j,h,hd=>by
  simp only[zAo,J4,RF]at h ⊢
  exact⟨zJA x (j::p) h.1 (by simpa using hd 0 x (by simp)),zOB xs p (j+1) h.2 (fun i y hy z=>by
   have:=hd (i+1) y (by grind) z
   grind)⟩
end
end
section
variable {G:Gh}{d:Nat}
mutual
theorem zFe:(u:T)→ ∀(p:List Nat),u.zOk=iB→(∀z,G.hd d (z++p)=jV (zhd u z.reverse))→vals G d u p=sC u
 |.lit v,p,h,hd=>by
  simp only[T.zOk,vals,sC]at h ⊢
  have:=hd []
  grind[zhd,zAn]
 |.sl k xs,p,h,hd=>by
  have:=hd []
  grind[vals,sC,zhd,jV,Value.oneCell']
 |.agg xs,p,h,hd=>by
  simp only[T.zOk,vals,sC]at h ⊢
  exact zDI xs p 0 h (fun i x hx z=>by
   rw[Jf];have:=hd (z++[i])
   grind[zhd])
 |.any,_,h,_|.ro _,_,h,_|.same _ _,_,h,_|.addr _ _,_,h,_|.sub _ _ _ _ _,_,h,_|.ptr _,_,h,_|.tup _,_,h,_=>by grind[T.zOk]
theorem zDI:(xs:List T)→ ∀(p:List Nat)(j:Nat),zAo xs=iB→(∀i x,xs[i]? =iz x→ ∀z,G.hd d (z++((j+i)::p))=jV (zhd x z.reverse))→yI G d xs p j=qJ xs
 | [],_,_,_,_=>by rfl
 |x::xs,p,j,h,hd=>by
  simp only[zAo,J4,yI,qJ]at h ⊢
  rw[zFe x (j::p) h.1 (by simpa using hd 0 x (by simp)),zDI xs p (j+1) h.2 (fun i y hy z=>by
   have:=hd (i+1) y (by grind) z
   grind)]
end
end
mutual
theorem zBk:(u:T)→u.zOk=iB→yD u∧u.okTup=iB
 |.lit _,_=>by simp[yD,xF,T.okTup]
 |.sl _ xs,h=>by simp only[T.zOk,Jbm]at h;subst h;simp[yD,xF,wC,T.okTup]
 |.agg xs,h=>by simp only[T.zOk]at h;simpa only[yD,xF,T.okTup]using zBE xs h
 |.any,h|.ro _,h|.same _ _,h|.addr _ _,h|.sub _ _ _ _ _,h|.ptr _,h|.tup _,h=>by grind[T.zOk]
theorem zBE:(xs:List T)→zAo xs=iB→xX xs∧yV xs=iB
 | [],_=>by simp[xX,wC,yV]
 |x::xs,h=>by simp only[zAo,J4]at h;simp only[xX,wC,yV,J4];exact⟨⟨(zBk x h.1).1,(zBE xs h.2).1⟩,(zBk x h.1).2,(zBE xs h.2).2⟩
end
mutual
theorem vE:(u:T)→u.zOk=iB→(sC u).length=u.size
 |.lit _,_|.sl _ _,_=>by rfl
 |.agg xs,h=>by simp only[T.zOk]at h;simp only[sC,T.size];exact zAZ xs h
 |.any,h|.ro _,h|.same _ _,h|.addr _ _,h|.sub _ _ _ _ _,h|.ptr _,h|.tup _,h=>by grind[T.zOk]
theorem zAZ:(xs:List T)→zAo xs=iB→(qJ xs).length=T.sizes xs
 | [],_=>by rfl
 |x::xs,h=>by simp only[zAo,J4]at h;simp only[qJ,J5,T.sizes,vE x h.1,zAZ xs h.2]
end
def zGK(ps:List yW)(i:Nat):Option (Nat×List Nat):=
 match ps[i]? with
 |some (.slot s t)=>if sW t then iz (s,[])else iA
 |_=>iA
def zIs:List yW→Nat→Nat→Option Nat
 | [],_,_=>iA
 |.slot x t::r,i,s=>if sW t&&x==s then iz i else zIs r (i+1) s
 |.zero _::r,i,s=>zIs r (i+1) s
def zIt(ps:List yW)(s:Nat)(z:List Nat):Option (List Nat):=
 match zIs ps 0 s with
 |some i=>iz (z++[i])
 |none=>iA
def pWr(d:Nat):List yW→Nat→Wr
 | [],_=>[]
 |.slot s t::r,i=>if sW t then(s,iz (cpT d t [i]))::pWr d r (i+1)else pWr d r (i+1)
 |.zero _::r,i=>pWr d r (i+1)
def xY:List yW→List Nat
 | []=>[]
 |.slot s t::r=>if sW t then s::xY r else xY r
 |.zero _::r=>xY r
def sX(ps:List yW):Chg:=(xY ps).map fun s=>(s,1)
def qG(G:Gh):yW→List Value
 |.slot s t=>vals G s t []
 |.zero u=>sC u
def pHd(G:Gh)(ps:List yW)(i:Nat)(z:List Nat):Value:=
 match ps[i]? with
 |some (.slot s _)=>G.hd s z
 |some (.zero u)=>jV (zhd u z.reverse)
 |none=>.bool iC
structure tX (E:Env) (d:Nat) (ps:List yW):Prop where
 slot:∀s t,yW.slot s t∈ps→E s=iz t∧yD t∧t.okTup=iB
 zero:∀u,yW.zero u∈ps→u.zOk=iB
 dist:(d::xY ps).Nodup
theorem zBl:(ps:List yW)→ ∀(i0 i s:Nat)(t:T),ps[i]? =iz (.slot s t)→sW t=iB→(xY ps).Nodup→zIs ps i0 s=iz (i0+i)
 | [],_,_,_,_,h,_,_=>by simp at h
 |.slot x u::r,i0,i,s,t,h,hm,hn=>by
  cases i with
  |zero=>simp at h;obtain⟨rfl,rfl⟩:=h;simp[zIs,hm]
  |succ i=>
   simp only[Uv]at h;have gO:s∈xY r:=pSlots_mem r i s t h hm;simp only[zIs]
   by_cases hu:sW u=iB
   ·simp only[xY,hu,if_true,Le]at hn
    have:x≠s:=by grind
    simp only[hu,Bool.true_and,beq_iff_eq,this,if_false];rw[zBl r (i0+1) i s t h hm hn.2]
    grind
   ·simp only[xY,hu]at hn
    simp only[hu,Jcs,G6,if_false];rw[zBl r (i0+1) i s t h hm (by grind)]
    grind
 |.zero u::r,i0,i,s,t,h,hm,hn=>by
  cases i with
  |zero=>simp at h
  |succ i=>
   simp only[Uv]at h;simp only[zIs];rw[zBl r (i0+1) i s t h hm (by grind[xY])]
   grind
where pSlots_mem:(ps:List yW)→ ∀(i s:Nat)(t:T),ps[i]? =iz (.slot s t)→sW t=iB→s∈xY ps
 | [],_,_,_,h,_=>by simp at h
 |.slot x u::r,i,s,t,h,hm=>by
  cases i with
  |zero=>simp at h;obtain⟨rfl,rfl⟩:=h;simp[xY,hm]
  |succ i=>
   have:=pSlots_mem r i s t (by grind) hm
   grind[xY]
 |.zero u::r,i,s,t,h,hm=>by
  cases i with
  |zero=>simp at h
  |succ i=>simpa only[xY]using pSlots_mem r i s t (by grind) hm
theorem zDa:(ps:List yW)→ ∀(i0 s:Nat),s∉xY ps→zIs ps i0 s=iA
 | [],_,_,_=>by rfl
 |.slot x u::r,i0,s,h=>by
  simp only[zIs]
  by_cases hu:sW u=iB
  ·simp only[xY,hu,if_true,Jc,not_or]at h
   simp only[hu,Bool.true_and,beq_iff_eq,Ne.symm h.1,if_false];exact zDa r _ s h.2
  ·simp only[xY,hu]at h
   simp only[hu,Jcs,G6,if_false];exact zDa r _ s (by grind)
 |.zero u::r,i0,s,h=>by simp only[zIs];exact zDa r _ s (by grind[xY])
theorem zCr:(ps:List yW)→ ∀(d i0 s:Nat)(x:Option T),(pWr d ps i0).find s=iz x→ ∃i t,ps[i]? =iz (.slot s t)∧sW t=iB∧x=iz (cpT d t [i0+i])
 | [],_,_,_,_,h=>by grind[pWr,Wr.find]
 |.slot y u::r,d,i0,s,x,h=>by
  simp only[pWr]at h;split at h
  ·rename_i hu
   simp only[Wr.find]at h;split at h
   ·rename_i he;subst he;simp at h;exact⟨0,u,by simp,hu,by grind⟩
   ·obtain⟨i,t,h1,h2,h3⟩:=zCr r d (i0+1) s x h
    exact⟨i+1,t,by grind,h2,by grind⟩
  ·obtain⟨i,t,h1,h2,h3⟩:=zCr r d (i0+1) s x h
   exact⟨i+1,t,by grind,h2,by grind⟩
 |.zero u::r,d,i0,s,x,h=>by simp only[pWr]at h;obtain⟨i,t,h1,h2,h3⟩:=zCr r d (i0+1) s x h;exact⟨i+1,t,by grind,h2,by grind⟩
theorem zCs:(ps:List yW)→ ∀(d i0 s:Nat),(pWr d ps i0).find s=iA→s∉xY ps
 | [],_,_,_,_=>by simp[xY]
 |.slot y u::r,d,i0,s,h=>by
  simp only[pWr]at h;simp only[xY];split at h
  ·rename_i hu
   simp only[Wr.find]at h;split at h
   ·cases h
   ·rename_i gf
    simp only[hu,if_true,Jc,not_or];exact⟨fun e=>gf e.symm,zCs r d _ s h⟩
  ·rename_i hu
   simp only[hu];simpa using zCs r d _ s h
 |.zero u::r,d,i0,s,h=>by simp only[pWr]at h;simpa only[xY]using zCs r d _ s h
section
variable {Γ:Ctx}{E:Env}{G:Gh}{tmps:Array Value}{w:World}{d:Nat}{ps:List yW}
theorem zFQ(g9:Rep Γ E G tmps w)(h:tX E d ps):
  yV (ps.map yW.tree)=iB∧xX (ps.map yW.tree)∧(∀i z,(pHd G ps i z).oneCell'=iB)∧
  (∀(i:Nat) u x q(z:List Nat),(ps.map yW.tree)[i]? =iz u→zGK ps i=iz (x,q)→zIt ps x (z++q)=iz (z++[i]))∧
  (∀(i:Nat) u x q,(ps.map yW.tree)[i]? =iz u→zGK ps i=iz (x,q)→(∀z,pHd G ps i z=G.hd x (z++q))∧R Γ.St G w x u q∧yD u∧x≠d)∧
  (∀(i:Nat) u,(ps.map yW.tree)[i]? =iz u→zGK ps i=iA→ ∀(G2:Gh)(w2:World),(∀z,G2.hd d (z++[i])=pHd G ps i z)→R Γ.St G2 w2 d u [i])∧
  (∀s p,(∀n,(s,n)∉(d,0)::sX ps)→zIt ps s p=iA):=by
 have mz:=Le.1 h.dist;refine⟨?_,?_,?_,?_,?_,?_,?_⟩
 ·have:∀qs:List yW,(∀p∈qs,p∈ps)→yV (qs.map yW.tree)=iB:=by
   intro qs
   induction qs with
   |nil=>intro _;rfl
   |cons q qs ih=>
    intro hq;simp only[Js,yV,J4];refine⟨?_,by grind⟩;cases q with
    |slot s t=>exact(h.slot s t (hq _ (by simp))).2.2
    |zero u=>exact(zBk u (h.zero u (hq _ (by simp)))).2
  grind
 ·have:∀qs:List yW,(∀p∈qs,p∈ps)→xX (qs.map yW.tree):=by
   intro qs
   induction qs with
   |nil=>intro _;trivial
   |cons q qs ih=>
    intro hq;simp only[Js,xX,wC];refine⟨?_,by grind⟩;cases q with
    |slot s t=>exact(h.slot s t (hq _ (by simp))).2.1
    |zero u=>exact(zBk u (h.zero u (hq _ (by simp)))).1
  grind
 ·intro i z
  unfold pHd;split
  ·exact g9.mem.one _ _
  ·exact zBj _
  ·rfl
 ·intro i u x q z hu hs
  rw[K4]at hu;unfold zGK at hs;cases hp:ps[i]? with
  |none=>grind
  |some p=>
   cases p with
   |zero v=>grind
   |slot s t=>
    simp only[hp]at hs;split at hs
    ·rename_i hm
     simp at hs;obtain⟨rfl,rfl⟩:=hs;simp[zIt,zBl ps 0 i s t hp hm mz.2]
    ·cases hs
 ·intro i u x q hu hs
  rw[K4]at hu;unfold zGK at hs;cases hp:ps[i]? with
  |none=>grind
  |some p=>
   cases p with
   |zero v=>grind
   |slot s t=>
    simp only[hp]at hs;split at hs
    ·rename_i hm
     simp at hs;obtain⟨rfl,rfl⟩:=hs;simp[hp,yW.tree]at hu;subst hu;obtain⟨h1,h2,h3⟩:=h.slot s t (by grind);refine⟨by grind[pHd],(g9.ent s t h1).2.1,h2,fun e=>mz.1 ?_⟩
     grind[zBl.pSlots_mem]
    ·cases hs
 ·intro i u hu hs G2 w2 fe
  rw[K4]at hu;unfold zGK at hs;cases hp:ps[i]? with
  |none=>grind
  |some p=>
   cases p with
   |zero v=>
    simp[hp,yW.tree]at hu;subst hu;exact zJA v [i] (h.zero v (by grind)) (by grind[pHd])
   |slot s t=>
    simp only[hp]at hs;split at hs
    ·cases hs
    ·rename_i hm
     simp[hp,yW.tree]at hu;subst hu;have h1:=(g9.ent s t (h.slot s t (by grind)).1).2.1;have h2:G2.hd d [i]=G.hd s []:=by have:=fe [];grind[pHd]
     cases t<;>simp[sW]at hm<;>simp only[R]at h1 ⊢ <;>rw[h2]<;>exact h1
 ·intro s p gF
  have:s∉xY ps:=fun gO=>gF 1 (by grind[sX])
  grind[zIt,zDa]
theorem zDJ(g9:Rep Γ E G tmps w)(h:tX E d ps)(G2:Gh):∀(qs:List yW)(i0:Nat),(∀i q,qs[i]? =iz q→ps[i0+i]? =iz q)→(∀i z,G2.hd d (z++[i])=pHd G ps i z)→
  yI G2 d (qs.map yW.tree) [] i0=qs.flatMap (qG G)
 | [],_,_,_=>by rfl
 |q::qs,i0,hq,fe=>by
  have h0:ps[i0]? =iz q:=by simpa using hq 0 q (by simp)
  have ih:=zDJ g9 h G2 qs (i0+1) (fun i p hp=>by rw[show i0+1+i=i0+(i+1)from by omega];simp_all) fe;simp only[Js,yI,Li,ih]
  congr 1
  cases q with
  |slot s t=>exact zAM t [] [i0] (by grind[pHd])
  |zero u=>exact zFe u [i0] (h.zero u (by grind)) (by grind[pHd])
end
end Go.Ab

namespace Go.Ab
open Go
section
variable {P:Program}{Γ:Ctx}{E:Env}{o:Oper}{d:Nat}
theorem zIH{G G':Gh}{w':World}{s i:Nat}{t:T}{v:Option Value}(hv:v=iz (mkV G s t []))(eh:∀xs,t≠.tup xs)(hs:∀p,G'.hd s p=G.hd s p)(mA:∀z,G'.hd d (z++[i])=G.hd s z)
  (hr:R Γ.St G' w' d t [i]):Ent Γ G' w' v s (cpT d t [i]):=by
 have hz:∀z,G'.hd s (z++[])=G'.hd d (z++[i]):=fun z=>by rw[Ja,hs,mA]
 refine⟨?_,?_,qT d t [i]⟩
 ·rw[hv,zA3 (G:=G') (G':=G') t [i] [] eh hz,kP G s t [] eh,zBB t [] [i] (fun z=>by rw[mA,Ja])]
 ·exact zDE (G:=G') (G':=G') (fun _=>rfl) t [i] [] hz eh (xF.triv (fun _ _=>⟨rfl,rfl⟩) _) hr
theorem zBm{G:Gh}{a:Act}{w w':World}{ps:List yW}(g9:Rep Γ E G a.tmps w)(h:tX E d ps)(hd:d<Γ.N){cells:Array Value}{e:TypeId}(hw:w'.heap=w.heap.push (.cells cells e))
  (ch:∀(o:Nat)(v:Value),(ps.flatMap (qG G))[o]? =iz v→cells[o]? =iz v)
  (rt:T)(gZ:Value)
  (fa:(∃k cap,rt=.sl k (ps.map yW.tree)∧(∀p∈ps,p.tree.size=k)∧gZ=.slice (iz ⟨w.heap.size,0,iA⟩) ps.length cap∧ps.length≤cap∧cap≤maxLen∧cells.size=cap*k)∨
   ∃p,ps=[p]∧rt=.ptr p.tree∧gZ=.pointer (iz ⟨w.heap.size,0,iA⟩)∧cells.size=p.tree.size)
  (ho:w'.os=w.os:=by rfl)(hq:w'.output=w.output:=by rfl):
  ∃G',Rep Γ (E.app ((d,iz rt)::pWr d ps 0) ((d,0)::sX ps)) G' (a.tmps.setIfInBounds d gZ) w':=by
 obtain⟨f1,f0,f2,f3,f4,f5,f6⟩:=zFQ g9 h;have hh:gZ.oneCell'=iB:=by rcases fa with⟨k,cap,_,_,rfl,_⟩|⟨p,_,_,rfl,_⟩<;>rfl
 have mz:=Le.1 h.dist;obtain⟨g1,g2,g3,g4,g5⟩:=zCZ g9.mem hw d (ps.map yW.tree) (zGK ps) (zIt ps) (pHd G ps) gZ (sX ps) f1 f2 hh f3 f4 f5
  (fun G2 fe o v hv=>ch o v (by rw[zDJ g9 h G2 ps 0 (fun i q hq=>by simpa using hq) fe]at hv;exact hv)) f6 (ho:=ho) (hq:=hq)
 refine⟨_,vM g9 (by simp) g1 g2 ?_ ?_⟩
 ·intro s hs
  simp only[Wr.find]at hs;split at hs
  ·cases hs
  ·rename_i gf
   have um:=zCs ps d 0 s hs;refine⟨fun n hn=>?_,by rw[Jk];simp[gf]⟩;simp only[Jc,Jav.injEq,sX,Jt]at hn;rcases hn with⟨e1,_⟩|⟨y,hy,e1,_⟩
   ·exact gf e1.symm
   ·exact um (e1▸hy)
 ·intro s t hs
  simp only[Wr.find]at hs;split at hs
  ·rename_i he
   subst he;simp at hs;subst hs;have pi:(G.nb d w.heap.size (ps.map yW.tree) (zGK ps) (zIt ps) (pHd G ps) gZ).hd d []=gZ:=by simp[Gh.nb]
   have how:(G.nb d w.heap.size (ps.map yW.tree) (zGK ps) (zIt ps) (pHd G ps) gZ).ow w.heap.size=iz (d,[]):=by simp[Gh.nb]
   refine⟨?_,?_,?_⟩
   ·rw[Jk]
    rcases fa with⟨k,cap,rfl,_⟩|⟨p,_,rfl,_⟩<;>simp[g9.size,hd,mkV,pi]
   ·rcases fa with⟨k,cap,rfl,hk,h1,h2,h3,h4⟩|⟨p,rfl,rfl,h1,h4⟩
    ·simp only[R]
     rw[pi];refine .inr ⟨w.heap.size,cap,cells,e,by simpa using h1,g5,by simpa using h2,h3,by omega,how,?_,zRI _ _ _ _ _ (fun x hx=>?_) g3 g4⟩
     ·intro o ho _
      have gw:T.sizes (ps.map yW.tree)=(ps.map yW.tree).length*k:=wU _ (fun x hx=>by obtain⟨p,hp,rfl⟩:=Jt.1 hx;exact hk p hp)
      simp[Gh.nb,zDH (ps.map yW.tree) [] 0 o (by omega)]
     ·obtain⟨p,hp,rfl⟩:=Jt.1 hx
      exact hk p hp
    ·simp only[R]
     rw[pi];simp only[Js,He,vL,RF]at g3 g4;exact⟨w.heap.size,cells,e,h1,g5,h4,how,g3.1,g4.1⟩
   ·rcases fa with⟨k,cap,rfl,_⟩|⟨p,rfl,rfl,_⟩
    ·simp only[Top];exact f0
    ·simp only[Top];exact f0.1
  ·rename_i gf
   obtain⟨i,u,h1,h2,h3⟩:=zCr ps d 0 s _ hs;simp only[Jf]at h3;simp at h3;subst h3;obtain⟨h4,h5,h6⟩:=h.slot s u (Lz h1);have eh:∀xs,u≠.tup xs:=by rintro xs rfl;simp[T.okTup]at h6
   have hi:(ps.map yW.tree)[i]? =iz u:=by simp[h1,yW.tree]
   have hr:=zAX _ [] 0 i u g4 hi;simp only[Jf]at hr;refine zIH (G:=G) (by rw[Jk];simp only[gf,if_false];exact(g9.ent s u h4).1) eh (fun p=>?_) (fun z=>?_) hr
   ·simp[Gh.nb,show s≠d from fun e=>gf e.symm]
   ·simp[Gh.nb,pHd,h1]
inductive zAb (E:Env):Operand→yW→Prop where
 |slot (s:Nat) (t:T):zAb E (.tmp s) (.slot s t)
 |zero (v:Value) (u:T) (h:sC u=v.cells.toList):zAb E (.const v) (.zero u)
theorem zA4{G:Gh}{a:Act}{w:World}{ps:List yW}(g9:Rep Γ E G a.tmps w)(h:tX E d ps){x:Operand}{p:yW}(hp:p∈ps)(hx:zAb E x p):
  (a.eval x).cells.toList=qG G p:=by
 cases hx with
 |slot s t=>
  obtain⟨h1,h2,h3⟩:=h.slot s t hp;obtain⟨h4,_,_⟩:=g9.ent s t h1;rw[wH h4];cases t with
  |agg xs=>simp[mkV,Value.cells,vals,qG]
  |tup xs=>simp[T.okTup]at h3
  |_=>
   have:=g9.mem.one s [];simp only[mkV,vals,qG]
   generalize G.hd s []=v at this
   cases v<;>simp[Value.oneCell',Value.cells]at this ⊢
 |zero v u h=>simp[Act.eval,h,qG]
def uK(E:Env):List Operand→List yW→Prop
 | [],[]=>True
 |x::xs,p::ps=>zAb E x p∧uK E xs ps
 |_,_=>False
theorem uK.length:(xs:List Operand)→(ps:List yW)→uK E xs ps→xs.length=ps.length
 | [],[],_=>rfl
 |_::xs,_::ps,h=>by simp[uK.length xs ps h.2]
 | [],_::_,h=>by simp[uK]at h
 |_::_,[],h=>by simp[uK]at h
theorem uK.mem:(xs:List Operand)→(ps:List yW)→uK E xs ps→ ∀x∈xs,∃p,p∈ps∧zAb E x p
 | [],_,_,x,hx=>by simp at hx
 |y::xs,p::ps,h,x,hx=>by
  rcases Jc.1 hx with rfl|hx
  ·exact⟨p,by simp,h.1⟩
  ·obtain⟨q,hq,hxq⟩:=uK.mem xs ps h.2 x hx;exact⟨q,by simp[hq],hxq⟩
 |_::_,[],h,_,_=>by simp[uK]at h
theorem zGL{G:Gh}{a:Act}{w:World}{ps:List yW}(g9:Rep Γ E G a.tmps w)(h:tX E d ps):∀(xs:List Operand)(qs:List yW),(∀q∈qs,q∈ps)→uK E xs qs→
  ((xs.map a.eval).flatMap fun v=>v.cells.toList)=qs.flatMap (qG G)
 | [],[],_,_=>rfl
 |x::xs,q::qs,hq,hx=>by simp only[Js,Li,zA4 g9 h (hq q (by simp)) hx.1,zGL g9 h xs qs (fun p hp=>hq p (by simp[hp])) hx.2]
 | [],_::_,_,hx=>by simp[uK]at hx
 |_::_,[],_,hx=>by simp[uK]at hx
theorem zRJ(T':TypeId)(ti:TypeInfo)(z:Value)(u:T)(ho:o.op=.alloc T')(gg:o.dst=iz d)(hd:d<Γ.N)
  (hi:P.info? T'=iz ti)(hz:ti.zero=iz z)(hu:u.zOk=iB)(hv:sC u=z.cells.toList)(gw:z.cells.size=u.size):
  wK P Γ o E (E.app [(d,iz (.ptr u))] [(d,0)]):=by
 refine wK.value gg fun a w G g9=>?_
 have gV:tX E d [.zero u]:=⟨fun s t h=>by simp at h,fun v h=>by simp at h;subst h;exact hu,by simp[xY]⟩;obtain⟨G',gm⟩:=zBm (w':=w.alloc (.cells z.cells T')) g9 gV hd (cells:=z.cells) (e:=T') rfl (fun o v h=>by simpa[hv,qG]using h) (.ptr u) (.pointer (iz ⟨w.heap.size,0,iA⟩)) (.inr ⟨.zero u,rfl,rfl,rfl,gw⟩);refine⟨_,_,?_,G',by simpa[pWr,sX,xY]using gm⟩;simp[execOp,ho,Instr.alloc,zeroValue,typeInfo,hi,hz,newVar,newRow]
theorem zX3(T':TypeId)(x:Operand)(p:yW)(ho:o.op=.box T' x)(gg:o.dst=iz d)(hd:d<Γ.N)(hx:zAb E x p)(gV:tX E d [p]):
  wK P Γ o E (E.app ((d,iz (.ptr p.tree))::pWr d [p] 0) ((d,0)::sX [p])):=by
 refine wK.value gg fun a w G g9=>?_
 have hc:=zA4 g9 gV (by simp) hx;have gw:(a.eval x).cells.size=p.tree.size:=by
  rw[←Kv,hc];cases p with
  |slot s t=>
   obtain⟨_,_,h3⟩:=gV.slot s t (by simp);show(vals G s t []).length=t.size;exact vH t [] (by rintro xs rfl;simp[T.okTup]at h3)
  |zero u=>exact vE u (gV.zero u (by simp))
 obtain⟨G',gm⟩:=zBm (w':=w.alloc (.cells (a.eval x).cells T')) g9 gV hd (cells:=(a.eval x).cells) (e:=T') rfl (fun o v h=>by rw[←Kk,hc];simpa using h) (.ptr p.tree) (.pointer (iz ⟨w.heap.size,0,iA⟩)) (.inr ⟨p,rfl,rfl,rfl,gw⟩)
 refine⟨_,_,?_,G',gm⟩;simp[execOp,ho,Instr.box,newVar,newRow]
theorem zIu(t e:TypeId)(ti:TypeInfo)(z:Value)(k n:Nat)(xs:List Operand)(ps:List yW)(ho:o.op=.buildSlice t n ((xs.zipIdx 0).map fun x=>(x.2,x.1)).toArray)(gg:o.dst=iz d)(hd:d<Γ.N)
  (ht:P.underlying t=iz (.slice e))(hi:P.info? e=iz ti)(hz:ti.zero=iz z)(hk:ti.size=k)(f7:0<k)(hn:xs.length=n)(av:0<n)(aZ:n*k≤2 ^ 24)
  (hx:uK E xs ps)(gV:tX E d ps)(gw:∀p∈ps,p.tree.size=k):
  wK P Γ o E (E.app ((d,iz (.sl k (ps.map yW.tree)))::pWr d ps 0) ((d,0)::sX ps)):=by
 refine wK.value gg fun a w G g9=>?_
 subst hk;have gj:xs.length=ps.length:=uK.length xs ps hx;have hc:=zGL g9 gV xs ps (fun _ h=>h) hx;have cW:∀v∈xs.map a.eval,v.cells.size=ti.size:=by
  intro v hv;obtain⟨x,bJ,rfl⟩:=Jt.1 hv;obtain⟨p,hp,hxp⟩:=uK.mem xs ps hx x bJ;rw[←Kv,zA4 g9 gV hp hxp,←gw p hp];cases p with
  |slot s t=>
   obtain⟨_,_,h3⟩:=gV.slot s t hp;show(vals G s t []).length=t.size;exact vH t [] (by rintro xs rfl;simp[T.okTup]at h3)
  |zero u=>exact vE u (gV.zero u hp)
 have aJ:=Great.fill_whole f7 (xs.map a.eval) ((Jca (n*ti.size)).map (z.cells[· %z.cells.size]!)) cW (by simp[hn]);have ba:((((xs.zipIdx 0).map fun x=>(x.2,x.1)).toArray).map fun(i,x)=>(i,a.eval x)).toList=((xs.map a.eval).zipIdx 0).map fun x=>(x.2,x.1):=by simp[List.zipIdx_map,Function.comp_def]
 have gy:=run_buildSlice (P:=P) w t e n _ _ ti z ht hi hz (by omega) (by have:=Jbt av f7;omega) (by rw[ba];exact aJ);have gP:((xs.map a.eval).flatMap fun v=>v.cells.toList).toArray.size=n*ti.size:=by rw[Jbx,flat_len (k:=ti.size) _ (fun v hv=>by rw[Kv];exact cW v hv)];simp[hn]
 obtain⟨G',gm⟩:=zBm (w':=w.alloc (.cells ((xs.map a.eval).flatMap fun v=>v.cells.toList).toArray e)) g9 gV hd rfl (fun o v h=>by rw[hc];simpa using h) (.sl ti.size (ps.map yW.tree)) (.slice (iz ⟨w.heap.size,0,iA⟩) n n) (.inl ⟨ti.size,n,rfl,gw,by rw[←gj,hn],by omega,by have:n≤n*ti.size:=Jb6 n f7;simp only[maxLen];omega,gP⟩)
 refine⟨_,_,?_,G',gm⟩;simp only[execOp,ho,Sem.run_bind,gy,Result.andThen_ok];rfl
where
 flat_len {k:Nat} (vs:List Value) (h:∀v∈vs,v.cells.toList.length=k):(vs.flatMap fun v=>v.cells.toList).length=vs.length*k:=by
  induction vs with
  |nil=>simp
  |cons v vs ih=>simp[Li,ih (fun u hu=>h u (by simp[hu])),K6];have:=h v (by simp);simp at this;omega
end
end Go.Ab

namespace Go.Ab
open Go
theorem zJB{α β:Type}(f:α→List β)(x:α)(k:Nat)(hk:(f x).length=k)(f7:0<k):∀(n o:Nat)(v:β),((J0 n x).flatMap f)[o]? =iz v→o<n*k∧(f x)[o%k]? =iz v
 |0,o,v,h=>by simp at h
 |n+1,o,v,h=>by
  rw[Jq,Li,Ks]at h;split at h
  ·grind[Nat.mod_eq_of_lt]
  ·rename_i hge
   rw[hk]at h hge;obtain⟨h1,h2⟩:=zJB f x k hk f7 n (o-k) v h
   grind[Nat.mod_eq_sub_mod]
section
variable {P:Program}{Γ:Ctx}{E:Env}{o:Oper}{d:Nat}
theorem zVp(t e:TypeId)(ti:TypeInfo)(z:Value)(u:T)(k:Nat)(x y:Operand)(n c:Nat)(kl kc:IntKind)(ho:o.op=.makeSlice t x y)(gg:o.dst=iz d)(hd:d<Γ.N)
  (ht:P.underlying t=iz (.slice e))(hi:P.info? e=iz ti)(hz:ti.zero=iz z)(hk:ti.size=k)(f7:0<k)(hu:u.zOk=iB)(hv:sC u=z.cells.toList)(fM:u.size=k)(hb:ti.bytes≤4096)
  (hx:opT E x=iz (.lit (.int kl n)))(hy:opT E y=iz (.lit (.int kc c)))(fP:n≤c)(hc:c≤68719476736):
  wK P Γ o E (E.app [(d,iz (.sl k (J0 n u)))] [(d,0)]):=by
 refine wK.value gg fun a w G g9=>?_
 have h1:=(wL g9 hx).1;have h2:=(wL g9 hy).1;subst hk;have gV:tX E d (J0 n (.zero u)):=⟨by simp,fun v h=>by simp_all,by
  have:∀m,xY (J0 m (.zero u))=[]:=by intro m;induction m with|zero=>rfl|succ m ih=>grind[xY]
  simp[this]⟩
 have hzs:z.cells.size=ti.size:=by grind[vE]
 have bA:(ti.bytes:Int)*(c:Int)≤281474976710656:=by have:ti.bytes*c≤4096*68719476736:=K1 hb hc;omega
 have gy:=run_make (P:=P) w t e ti z ht hi hz kl kc n c (by omega) (by omega) bA (by omega);simp only[J9]at gy;obtain⟨G',gm⟩:=zBm (w':=w.alloc (.cells (madeCells z.cells (c*ti.size)) e)) g9 gV hd rfl (fun i v h=>by
  obtain⟨h3,h4⟩:=zJB (qG G) (.zero u) ti.size (by grind[qG]) f7 n i v h
  grind[Jb5,K7,qG,madeCells]) (.sl ti.size (J0 n u)) (.slice (iz ⟨w.heap.size,0,iA⟩) n c)
  (.inl ⟨ti.size,c,by simp[yW.tree],fun p hp=>by simp at hp;obtain⟨_,rfl⟩:=hp;exact fM,by simp,by grind,by grind[maxLen],by simp[madeCells]⟩)
 refine⟨.slice (iz ⟨w.heap.size,0,iA⟩) n c,w.alloc (.cells (madeCells z.cells (c*ti.size)) e),?_,G',?_⟩
 ·simp only[execOp,ho,h1,h2,Sem.run_bind,gy,Result.andThen_ok]
  rfl
 ·have h6:∀m i,pWr d (J0 m (.zero u)) i=[]:=by intro m;induction m with|zero=>intro i;rfl|succ m ih=>grind[pWr]
  have h7:sX (J0 n (.zero u))=[]:=by
   have:∀m,xY (J0 m (.zero u))=[]:=by intro m;induction m with|zero=>rfl|succ m ih=>grind[xY]
   grind[sX]
  grind
theorem zGM(t e:TypeId)(ti:TypeInfo)(k:Nat)(ho:o.op=.buildSlice t 0 #[])(gg:o.dst=iz d)(hd:d<Γ.N)
  (ht:P.underlying t=iz (.slice e))(hi:P.info? e=iz ti):wK P Γ o E (E.app [(d,iz (.sl k []))] [(d,0)]):=by
 refine wK.value gg fun a w G g9=>?_
 have gV:tX E d []:=⟨by simp,by simp,by simp[xY]⟩;obtain⟨G',gm⟩:=zBm (w':=w.alloc (.cells #[] e)) g9 gV hd (cells:=#[]) rfl (by simp) (.sl k []) (.slice (iz ⟨w.heap.size,0,iA⟩) 0 0)
  (by simp)
 refine⟨_,_,?_,G',gm⟩;have h0:(Jca 0:Array Nat)= #[]:=by rfl
 simp[execOp,ho,Instr.buildSlice,run_underlying ht,sizeOf,typeInfo,hi,Instr.fill,newRow,h0]
theorem zKT(k:Nat)(x:Operand)(ho:o.op=.move x∨o.op=.assign x)(hx:x=.const (.slice iA 0 0))(gg:o.dst=iz d)(hd:d<Γ.N):wK P Γ o E (E.app [(d,iz (.sl k []))] [(d,0)]):=by
 refine wK.value gg fun a w G g9=>?_
 refine⟨.slice iA 0 0,w,?_,_,vN g9 rfl hd (fun _=>.slice iA 0 0) (fun _=>rfl) (.sl k []) (.slice iA 0 0) (by simp[mkV,Gh.put]) (by simp[R,Gh.put]) (by simp[Top,xX,wC])⟩;subst hx;rcases ho with ho|ho<;>simp[execOp,ho,Act.eval]
def Gh.nv(G:Gh)(d:Nat)(src:Nat→Option (Nat×List Nat))(φ:Nat→List Nat→Option (List Nat))(f:Nat→List Nat→Value):Gh where
 hd s z:=if s=d then(match z.getLast? with
  |some i=>f i z.dropLast
  |none=>.bool iC)else G.hd s z
 ad s z:=if s=d then(match z.getLast? with
  |some i=>(match src i with
   |some (x,q)=>G.ad x (z.dropLast++q)
   |none=>default)
  |none=>default)else G.ad s z
 lb b o:=match G.lb b o with
  |some (fl,s,z)=>(match φ s z with
   |some z'=>iz (fl,d,z')
   |none=>iz (fl,s,z))
  |none=>iA
 ow b:=match G.ow b with
  |some (s,z)=>(match φ s z with
   |some z'=>iz (d,z')
   |none=>iz (s,z))
  |none=>iA
theorem zVq{G:Gh}{a:Act}{w:World}{ps:List yW}(g9:Rep Γ E G a.tmps w)(h:tX E d ps)(hd:d<Γ.N):
  ∃G',Rep Γ (E.app ((d,iz (.agg (ps.map yW.tree)))::pWr d ps 0) ((d,0)::sX ps)) G' (a.tmps.setIfInBounds d (.agg (ps.flatMap (qG G)).toArray)) w:=by
 obtain⟨f1,f0,f2,f3,f4,f5,f6⟩:=zFQ g9 h;have hm:=g9.mem;have gJ:Blk w w:=fun b cs e' h=>⟨cs,h,rfl⟩
 generalize gm:G.nv d (zGK ps) (zIt ps) (pHd G ps)=G'
 have ghd:∀i z,G'.hd d (z++[i])=pHd G ps i z:=fun i z=>by rw[←gm];simp[Gh.nv]
 have ghd':∀s z,s≠d→G'.hd s z=G.hd s z:=by grind[Gh.nv]
 have glbm:∀b o fl x z z',G.lb b o=iz (fl,x,z)→zIt ps x z=iz z'→G'.lb b o=iz (fl,d,z'):=by grind[Gh.nv]
 have gowm:∀b x z z',G.ow b=iz (x,z)→zIt ps x z=iz z'→G'.ow b=iz (d,z'):=by grind[Gh.nv]
 have gf:∀s p,Off ((d,0)::sX ps) s p→s≠d:=fun s p h e=>absurd (h 0 (by simp[e])) (by simp)
 have gx:qY ((d,0)::sX ps) G w G' w:=by
  refine⟨by grind,fun s p h=>?_,fun b o fl s p _ hl h=>⟨?_,rfl⟩,fun b s p hl h=>?_,gJ⟩
  ·rw[←gm];simp[Gh.nv,gf s p h]
  ·rw[←gm];simp[Gh.nv,hl,f6 s p h]
  ·rw[←gm];simp[Gh.nv,hl,f6 s p h]
 have gu:Mem Γ G' w:=by
  refine⟨fun s p=>?_,fun b o l hl=>?_,fun b l hl=>?_,hm.st,hm.fr,hm.sz,hm.bk⟩
  ·rw[←gm]
   simp only[Gh.nv];split
   ·split
    ·grind
    ·rfl
   ·exact hm.one s p
  ·rw[←gm]at hl
   simp only[Gh.nv]at hl;split at hl
   ·rename_i hg;exact hm.lb b o _ hg
   ·cases hl
  ·rw[←gm]at hl
   simp only[Gh.nv]at hl;split at hl
   ·rename_i hg;exact hm.ow b _ hg
   ·cases hl
 have g4:RF Γ.St G' w d (ps.map yW.tree) [] 0:=by
  refine zOA _ [] 0 (fun i u hu=>?_);rw[Jf];cases hs:zGK ps i with
  |none=>exact f5 i u hu hs G' w (fun z=>ghd i z)
  |some xq=>
   obtain⟨x,q⟩:=xq;obtain⟨h1,h2,h3,h4⟩:=f4 i u x q hu hs;refine zKS u q [i] (zCZ.okTups_get _ f1 i u hu) ⟨fun z=>by rw[ghd,h1],fun z _=>by rw[←gm];simp[Gh.nv,hs],fun b o fl z _ hl=>⟨glbm b o fl x _ _ hl (f3 i u x q z hu hs),rfl⟩,
    fun b z hl=>gowm b x _ _ hl (f3 i u x q z hu hs),gJ⟩ (xF.mono (by simp) u h3) h2
 refine⟨G',vM g9 (by simp) gx gu ?_ ?_⟩
 ·intro s hs
  simp only[Wr.find]at hs;split at hs
  ·cases hs
  ·rename_i gf
   have um:=zCs ps d 0 s hs;refine⟨fun n hn=>?_,by rw[Jk];simp[gf]⟩;simp only[Jc,Jav.injEq,sX,Jt]at hn
   grind
 ·intro s t hs
  simp only[Wr.find]at hs;split at hs
  ·rename_i he
   subst he;simp at hs;subst hs;refine⟨?_,by grind[R],by grind[Top,vQ.of_clean]⟩;rw[Jk];simp only[g9.size,hd,mkV,if_true];rw[zDJ g9 h G' ps 0 (by simp) ghd]
  ·rename_i gf
   obtain⟨i,u,h1,h2,h3⟩:=zCr ps d 0 s _ hs;simp only[Jf]at h3;simp at h3;subst h3;obtain⟨h4,h5,h6⟩:=h.slot s u (Lz h1);have eh:∀xs,u≠.tup xs:=by rintro xs rfl;grind[T.okTup]
   have hi:(ps.map yW.tree)[i]? =iz u:=by simp[h1,yW.tree]
   have hr:=zAX _ [] 0 i u g4 hi;simp only[Jf]at hr;refine zIH (G:=G) (by rw[Jk];simp only[gf,if_false];exact(g9.ent s u h4).1) eh (by grind) (fun z=>?_) hr;rw[ghd];simp[pHd,h1]
theorem zOC(off:Nat):∀(vs:List Value)(i:Nat)(cs:Array Value)(k:Nat),off+i+vs.length≤cs.size→
  ((vs.zipIdx i).foldl (fun cs(x:Value×Nat)=>cs.setIfInBounds (off+x.2) x.1) cs)[k]? =if off+i≤k∧k<off+i+vs.length then vs[k-(off+i)]? else cs[k]?
 | [],i,cs,k,_=>by simp;omega
 |v::vs,i,cs,k,h=>by
  simp only[J6]at h;simp only[List.zipIdx_cons,Gx];rw[zOC off vs (i+1) _ k (by simp;omega)]
  by_cases h1:off+(i+1)≤k∧k<off+(i+1)+vs.length
  ·rw[if_pos h1,if_pos (by grind),show k-(off+i)=k-(off+(i+1))+1 from by omega,Uv]
  ·rw[if_neg h1]
   by_cases h2:k=off+i
   ·subst h2
    rw[if_pos (by simp),Kd]
    grind
   ·rw[if_neg (by grind),Jk,if_neg (fun e=>h2 e.symm)]
theorem zGN{pv:yW→List Value}(place:Nat→Option (Nat×Nat)):∀(vs:List (Nat×Value))(qs:List (Nat×yW))(ps:List yW)(cs:Array Value),cs.toList=ps.flatMap pv→
  (∀i p,ps[i]? =iz p→place i=iz (((ps.take i).flatMap pv).length,(pv p).length))→
  vs.map (·.1)=qs.map (·.1)→(∀(j:Nat)(v:Nat×Value)(q:Nat×yW),vs[j]? =iz v→qs[j]? =iz q→v.2.cells.toList=pv q.2∧ ∃p,ps[q.1]? =iz p∧(pv p).length=(pv q.2).length)→
  ∃cs',Instr.fill place cs vs=iz cs'∧cs'.toList=(qs.foldl (fun ps q=>ps.set q.1 q.2) ps).flatMap pv
 | [],[],ps,cs,gQ,_,_,_=>⟨cs,rfl,gQ⟩
 | [],_::_,_,_,_,_,h,_=>by simp at h
 |_::_,[],_,_,_,_,h,_=>by simp at h
 |(i,v)::vs,(i',q)::qs,ps,cs,gQ,pM,hi,hq=>by
  simp only[Js,Qt.injEq]at hi;obtain⟨i5,hi⟩:=hi;subst i5;obtain⟨h1,p,h2,h3⟩:=hq 0 (i,v) (i,q) rfl rfl;dsimp only at h1 h2 h3;have b9:=pM i p h2;have gE:=(Jw.1 h2).1;have mO:ps=ps.take i++p::ps.drop (i+1):=by grind[Hy,Jb8]
  have gv:ps.set i q=ps.take i++q::ps.drop (i+1):=List.set_eq_take_append_cons_drop .. |>.trans (if_pos gE);have pd:v.cells.size=(pv p).length:=by grind
  have gC:cs.size=((ps.take i).flatMap pv).length+((pv p).length+((ps.drop (i+1)).flatMap pv).length):=by grind[Kv]
  have eF:(v.cells.zipIdx.foldl (fun cs(x:Value×Nat)=>cs.setIfInBounds (((ps.take i).flatMap pv).length+x.2) x.1) cs).toList=(ps.set i q).flatMap pv:=by
   rw[gv];simp only[G5,Li,←h1];apply Kr;intro k;rw[←Array.foldl_toList,Kk,show v.cells.zipIdx.toList=v.cells.toList.zipIdx 0 from by simp,zOC _ _ 0 cs k (by grind)];have ig:cs.toList=((ps.take i).flatMap pv)++(pv p++(ps.drop (i+1)).flatMap pv):=by grind
   have pS:v.cells.toList.length=(pv p).length:=by rw[h1,h3]
   rw[←Kk,ig]
   generalize (ps.take i).flatMap pv=A
   generalize (ps.drop (i+1)).flatMap pv=B
   generalize v.cells.toList=V at pS
   generalize pv p=Q at pS
   by_cases hk:A.length≤k∧k<A.length+V.length
   ·rw[if_pos (by omega),Jb hk.1,Jx (by omega),G9]
   ·rw[if_neg (by omega)]
    by_cases fp:k<A.length
    ·grind
    ·rw[Jb (by omega),Jb (by omega),Jb (by omega),Jb (by omega),pS]
  have ue:∀j p',(ps.set i q)[j]? =iz p'→place j=iz ((((ps.set i q).take j).flatMap pv).length,(pv p').length):=by
   intro j p' cP;have ep:(((ps.set i q).take j).flatMap pv).length=((ps.take j).flatMap pv).length:=by
    rw[gv]
    conv=>rhs;rw[mO]
    by_cases hj:j≤i
    ·grind
    ·rw[Jbg,Jbg]
     simp only[G5,J5]
     congr 1
     have:j-(ps.take i).length=(j-(ps.take i).length-1)+1:=by simp;omega
     rw[this,Ku,Ku];simp[h3]
   grind[Jaa]
  have hq':∀(j:Nat)(x:Nat×Value)(y:Nat×yW),vs[j]? =iz x→qs[j]? =iz y→x.2.cells.toList=pv y.2∧ ∃p,(ps.set i q)[y.1]? =iz p∧(pv p).length=(pv y.2).length:=by
   intro j x y hx hy;obtain⟨h6,p',h7,h8⟩:=hq (j+1) x y (by grind) (by grind)
   grind[Jaa]
  obtain⟨cs',h4,h5⟩:=zGN place vs qs (ps.set i q) _ eF ue hi hq';refine⟨cs',?_,by grind⟩;simp only[Instr.fill,b9];have dc:(v.cells.size≠(pv p).length||((ps.take i).flatMap pv).length+v.cells.size> cs.size)=iC:=by grind
  grind
theorem uQ{t:TypeId}{it:TypeInfo}{fields:Array Field}{z:Value}{places:List (Nat×Nat)}(hi:P.info? t=iz it)(hu:P.underlying t=iz (.struct fields))(hz:it.zero=iz z)
  (hp:fields.toList.mapM (fun f=>(P.info? f.type).map fun i=>(f.offset,i.size))=iz places)(parts:List (Nat×Value)):P.built t parts=Instr.fill (places.toArray[·]?) z.cells parts:=by
 grind[Program.built]
theorem zKU{t e:TypeId}{n:Nat}{it ie:TypeInfo}{z:Value}(hi:P.info? t=iz it)(hu:P.underlying t=iz (.array n e))(hz:it.zero=iz z)
  (he:P.info? e=iz ie)(parts:List (Nat×Value)):P.built t parts=Instr.fill (fun i=>iz (i*ie.size,ie.size)) z.cells parts:=by
 grind[Program.built]
theorem zFf{G:Gh}:(zs:List T)→(zs.map yW.zero).flatMap (qG G)=qJ zs
 | []=>rfl
 |z::zs=>by simp[qG,qJ,←zFf (G:=G) zs]
theorem zRK(t:TypeId)(place:Nat→Option (Nat×Nat))(z:Value)(zs:List T)(pl:List (Nat×Operand))(qs:List (Nat×yW))(ps:List yW)(ho:o.op=.build t pl.toArray)(gg:o.dst=iz d)(hd:d<Γ.N)
  (hb:∀parts,P.built t parts=Instr.fill place z.cells parts)(hzv:qJ zs=z.cells.toList)(hz:zAo zs=iB)(pM:∀i u,zs[i]? =iz u→place i=iz (T.sizes (zs.take i),u.size))
  (gV:qs.foldl (fun ps q=>ps.set q.1 q.2) (zs.map yW.zero)=ps)(gB:tX E d ps)(hix:pl.map (·.1)=qs.map (·.1))
  (hq:∀(j:Nat)(x:Nat×Operand)(q:Nat×yW),pl[j]? =iz x→qs[j]? =iz q→zAb E x.2 q.2∧q.2∈ps∧ ∃u,zs[q.1]? =iz u∧u.size=q.2.tree.size):
  wK P Γ o E (E.app ((d,iz (.agg (ps.map yW.tree)))::pWr d ps 0) ((d,0)::sX ps)):=by
 refine wK.value gg fun a w G g9=>?_
 obtain⟨G',gm⟩:=zVq g9 gB hd;have gw:∀(us:List T),zAo us=iB→((us.map yW.zero).flatMap (qG G)).length=T.sizes us:=by grind[zFf,zAZ]
 obtain⟨cs',h1,h2⟩:=zGN (pv:=qG G) place (pl.map fun x=>(x.1,a.eval x.2)) qs (zs.map yW.zero) z.cells (by rw[zFf,hzv]) (fun i p hp=>by
   rw[K4]at hp;cases hu:zs[i]? with
   |none=>grind
   |some u=>
    simp[hu]at hp;subst hp;rw[pM i u hu,←Jbk,gw _ (zOks_take zs i hz),qG,vE u (zOks_get zs hz i u hu)])
  (by grind[Function.comp_def]) (fun j v q hv hqj=>by
   rw[K4]at hv;cases hx:pl[j]? with
   |none=>grind
   |some x=>
    simp[hx]at hv;subst hv;obtain⟨h3,h4,u,h5,h6⟩:=hq j x q hx hqj;refine⟨zA4 g9 gB h4 h3,.zero u,by simp[h5],?_⟩;rw[qG,vE u (zOks_get zs hz _ u h5),h6];cases ag:q.2 with
    |slot s t=>
     rw[ag]at h4;obtain⟨_,_,h7⟩:=gB.slot s t h4;exact(vH t [] (by rintro xs rfl;grind[T.okTup])).symm
    |zero u'=>
     rw[ag]at h4;exact(vE u' (gB.zero u' h4)).symm)
 rw[gV]at h2;have h3:cs'=(ps.flatMap (qG G)).toArray:=by rw[←h2]
 refine⟨_,w,?_,G',gm⟩;have gy:=run_build (P:=P) w t (pl.map fun x=>(x.1,a.eval x.2)).toArray cs' (by grind);simp only[Qp,execOp,ho,Sem.run_bind]at gy ⊢
 rw[show(List.map (fun x=>match x with|(i,x)=>(i,a.eval x)) pl)=List.map (fun x=>(x.1,a.eval x.2)) pl from rfl,gy,h3];rfl
where
 zOks_get:(xs:List T)→zAo xs=iB→ ∀(i:Nat)(x:T),xs[i]? =iz x→x.zOk=iB
  | [],_,_,_,h=>by simp at h
  |y::ys,hk,i,x,h=>by
   simp only[zAo,J4]at hk;cases i with
   |zero=>grind
   |succ i=>exact zOks_get ys hk.2 i x (by grind)
 zOks_take:(xs:List T)→ ∀i,zAo xs=iB→zAo (xs.take i)=iB
  | [],i,_=>by simp[zAo]
  |y::ys,0,_=>by simp[zAo]
  |y::ys,i+1,hk=>by
   simp only[zAo,J4,Ku]at hk ⊢
   exact⟨hk.1,zOks_take ys i hk.2⟩
end
end Go.Ab

namespace Go.Ab
open Go
mutual
def vJ:T→T→Bool
 |.agg xs,.agg ys=>kI xs ys
 |.agg _,_=>iC
 |.tup _,_=>iC
 |_,.agg _=>iC
 |_,.tup _=>iC
 |.any,_|.lit _,_|.ro _,_|.same _ _,_|.addr _ _,_|.sub _ _ _ _ _,_|.sl _ _,_|.ptr _,_=>iB
def kI:List T→List T→Bool
 | [],[]=>iB
 |x::xs,y::ys=>vJ x y&&kI xs ys
 | [],_::_=>iC
 |_::_,[]=>iC
end
mutual
theorem zCt:(x y:T)→vJ x y=iB→x.size=y.size
 |.agg xs,.agg ys,h=>by simp only[vJ]at h;simp only[T.size];exact zEs xs ys h
 |.agg _,.any,h|.agg _,.lit _,h|.agg _,.ro _,h|.agg _,.same _ _,h|.agg _,.addr _ _,h|.agg _,.sub _ _ _ _ _,h|.agg _,.sl _ _,h|.agg _,.ptr _,h|.agg _,.tup _,h=>by grind[vJ]
 |.tup _,_,h=>by grind[vJ]
 |.any,y,h|.lit _,y,h|.ro _,y,h|.same _ _,y,h|.addr _ _,y,h|.sub _ _ _ _ _,y,h|.sl _ _,y,h|.ptr _,y,h=>by cases y<;>simp[vJ]at h<;>simp[T.size]
theorem zEs:(xs ys:List T)→kI xs ys=iB→T.sizes xs=T.sizes ys
 | [],[],_=>rfl
 |x::xs,y::ys,h=>by simp only[kI,J4]at h;simp only[T.sizes,zCt x y h.1,zEs xs ys h.2]
 | [],_::_,h=>by grind[kI]
 |_::_,[],h=>by grind[kI]
end
section
variable {G:Gh}{w:World}{s:Nat}
mutual
theorem zJC:(t:T)→ ∀(p:List Nat)(b o j:Nat),Loc G w s t p b o→j<t.size→ ∃y,G.lb b (o+j)=iz (iC,s,y++p)
 |.agg xs,p,b,o,j,h,hj=>by simp only[Loc,T.size]at h hj;exact zOD xs p 0 b o j h.2 hj
 |.any,p,b,o,j,h,hj|.lit _,p,b,o,j,h,hj|.ro _,p,b,o,j,h,hj|.same _ _,p,b,o,j,h,hj|.addr _ _,p,b,o,j,h,hj|.sub _ _ _ _ _,p,b,o,j,h,hj|.sl _ _,p,b,o,j,h,hj|.ptr _,p,b,o,j,h,hj=>by
  simp only[Loc,T.size]at h hj
  simp_all
 |.tup _,_,_,_,_,h,_=>by grind[Loc]
theorem zOD:(xs:List T)→ ∀(p:List Nat)(i b o j:Nat),vL G w s xs p i b o→j<T.sizes xs→ ∃y,G.lb b (o+j)=iz (iC,s,y++p)
 | [],_,_,_,_,_,_,hj=>by grind[T.sizes]
 |x::xs,p,i,b,o,j,h,hj=>by
  simp only[vL,T.sizes]at h hj
  by_cases gE:j<x.size
  ·obtain⟨y,hy⟩:=zJC x (i::p) b o j h.1 gE
   exact⟨y++[i],by grind⟩
  ·obtain⟨y,hy⟩:=zOD xs p (i+1) b (o+x.size) (j-x.size) h.2 (by omega)
   grind
end
mutual
theorem zRL{G':Gh}{w':World}:(u u0:T)→ ∀(p:List Nat)(b o:Nat),vJ u u0=iB→(∀y,u.inT y.reverse=iB→G'.ad s (y++p)=G.ad s (y++p))→
  (∀b o y,G.lb b o=iz (iC,s,y++p)→G'.lb b o=iz (iC,s,y++p))→(∀j v,(vals G' s u p)[j]? =iz v→yS w' b (o+j)=iz v)→Loc G w s u0 p b o→Loc G' w' s u p b o
 |.agg xs,.agg ys,p,b,o,h,ha,hl,hc,h0=>by
  simp only[Loc,vJ]at h h0 ⊢
  refine⟨by have:=ha [] rfl;grind,zOE xs ys p 0 b o h (fun i x hx y hy=>?_) (by omega) (by grind[vals]) h0.2⟩;have:=ha (y++[i]) (by grind[T.inT])
  grind
 |.agg _,.any,_,_,_,h,_,_,_,_|.agg _,.lit _,_,_,_,h,_,_,_,_|.agg _,.ro _,_,_,_,h,_,_,_,_|.agg _,.same _ _,_,_,_,h,_,_,_,_|.agg _,.addr _ _,_,_,_,h,_,_,_,_|.agg _,.sub _ _ _ _ _,_,_,_,h,_,_,_,_|.agg _,.sl _ _,_,_,_,h,_,_,_,_|.agg _,.ptr _,_,_,_,h,_,_,_,_|.agg _,.tup _,_,_,_,h,_,_,_,_=>by grind[vJ]
 |.tup _,_,_,_,_,h,_,_,_,_=>by grind[vJ]
 |.any,u0,p,b,o,h,ha,hl,hc,h0|.lit _,u0,p,b,o,h,ha,hl,hc,h0|.ro _,u0,p,b,o,h,ha,hl,hc,h0|.same _ _,u0,p,b,o,h,ha,hl,hc,h0|.addr _ _,u0,p,b,o,h,ha,hl,hc,h0|.sub _ _ _ _ _,u0,p,b,o,h,ha,hl,hc,h0|.sl _ _,u0,p,b,o,h,ha,hl,hc,h0|.ptr _,u0,p,b,o,h,ha,hl,hc,h0=>by have h1:=vD (by cases u0<;>simp[vJ]at h<;>rfl) h0;have h2:=ha [] rfl;rw[Ju]at h2;simp only[Loc];exact⟨h2.trans h1.1,by simp_all,by simpa using hc 0 (G'.hd s p) (by simp[vals])⟩
theorem zOE{G':Gh}{w':World}:(xs ys:List T)→ ∀(p:List Nat)(j b o:Nat),kI xs ys=iB→(∀i x,xs[i]? =iz x→ ∀y,x.inT y.reverse=iB→G'.ad s (y++((j+i)::p))=G.ad s (y++((j+i)::p)))→
  (∀b o y,G.lb b o=iz (iC,s,y++p)→G'.lb b o=iz (iC,s,y++p))→(∀i v,(yI G' s xs p j)[i]? =iz v→yS w' b (o+i)=iz v)→vL G w s ys p j b o→vL G' w' s xs p j b o
 | [],[],_,_,_,_,_,_,_,_,_=>by grind[vL]
 |x::xs,y::ys,p,j,b,o,h,ha,hl,hc,h0=>by
  simp only[kI,J4,vL]at h h0 ⊢
  have hs:=zCt x y h.1;have eh:∀zs,x≠.tup zs:=by rintro zs rfl;grind[vJ]
  refine⟨zRL x y (j::p) b o h.1 (fun z hz=>by simpa using ha 0 x (by simp) z hz) (fun b o z hz=>by have:=hl b o (z++[j]) (by grind);grind) (fun i v hv=>hc i v ?_) h0.1,
   zOE xs ys p (j+1) b (o+x.size) h.2 (fun i z hz=>by have:=ha (i+1) z (by grind);grind) hl (fun i v hv=>?_) (by grind)⟩
  ·grind[yI]
  ·have:=hc (x.size+i) v (by
    grind[yI,vH])
   grind
 | [],_::_,_,_,_,_,h,_,_,_,_=>by grind[kI]
 |_::_,[],_,_,_,_,h,_,_,_,_=>by grind[kI]
end
end
def zGl(p:yW)(q:List Nat)(s:Nat)(z:List Nat):Option (List Nat):=
 match p with
 |.slot s0 t=>if sW t&&s0==s then iz (z++q)else iA
 |.zero _=>iA
def sHd(G:Gh)(p:yW)(y:List Nat):Value:=
 match p with
 |.slot s _=>G.hd s y
 |.zero u=>jV (zhd u y.reverse)
def sWr(r:Nat)(q:List Nat):yW→Wr
 |.slot s t=>if sW t then[(s,iz (cpT r t q))]else[]
 |.zero _=>[]
def Gh.st(G:Gh)(r:Nat)(q:List Nat)(p:yW):Gh where
 hd s z:=if s=r∧q<:+z then sHd G p (z.take (z.length-q.length))else G.hd s z
 ad s z:=if s=r∧q<:+z∧p.tree.inT (z.take (z.length-q.length)).reverse=iC then(match p with
  |.slot s0 _=>G.ad s0 (z.take (z.length-q.length))
  |.zero _=>default)else G.ad s z
 lb b o:=match G.lb b o with
  |some (fl,s,z)=>(match zGl p q s z with
   |some z'=>iz (fl,r,z')
   |none=>iz (fl,s,z))
  |none=>iA
 ow b:=match G.ow b with
  |some (s,z)=>(match zGl p q s z with
   |some z'=>iz (r,z')
   |none=>iz (s,z))
  |none=>iA
mutual
theorem zKV{Γ:Ctx}{G:Gh}{w:World}(hm:Mem Γ G w){s:Nat}:(t:T)→ ∀(p:List Nat)(v:Value),v∈vals G s t p→v.oneCell'=iB
 |.agg xs,p,v,h=>by simp only[vals]at h;exact zDb hm xs p 0 v h
 |.any,p,v,h|.lit _,p,v,h|.ro _,p,v,h|.same _ _,p,v,h|.addr _ _,p,v,h|.sub _ _ _ _ _,p,v,h|.sl _ _,p,v,h|.ptr _,p,v,h|.tup _,p,v,h=>by simp only[vals,List.mem_singleton]at h;rw[h];exact hm.one s p
theorem zDb{Γ:Ctx}{G:Gh}{w:World}(hm:Mem Γ G w){s:Nat}:(xs:List T)→ ∀(p:List Nat)(j:Nat)(v:Value),v∈yI G s xs p j→v.oneCell'=iB
 | [],_,_,_,h=>by grind[yI]
 |x::xs,p,j,v,h=>by
  simp only[yI,Jh]at h;rcases h with h|h
  ·exact zKV hm x _ v h
  ·exact zDb hm xs p _ v h
end
mutual
theorem zFg:(u:T)→u.zOk=iB→ ∀v∈sC u,v.oneCell'=iB
 |.lit v,h,x,hx=>by simp only[sC,List.mem_singleton]at hx;rw[hx];exact h
 |.sl _ _,_,x,hx=>by simp only[sC,List.mem_singleton]at hx;rw[hx];rfl
 |.agg xs,h,x,hx=>by simp only[T.zOk]at h;simp only[sC]at hx;exact zGO xs h x hx
 |.any,h,_,_|.ro _,h,_,_|.same _ _,h,_,_|.addr _ _,h,_,_|.sub _ _ _ _ _,h,_,_|.ptr _,h,_,_|.tup _,h,_,_=>by grind[T.zOk]
theorem zGO:(xs:List T)→zAo xs=iB→ ∀v∈qJ xs,v.oneCell'=iB
 | [],_,_,h=>by grind[qJ]
 |x::xs,h,v,hv=>by
  simp only[zAo,J4]at h;simp only[qJ,Jh]at hv;rcases hv with hv|hv
  ·exact zFg x h.1 v hv
  ·exact zGO xs h.2 v hv
end
theorem zKW(y q:List Nat):(y++q).take ((y++q).length-q.length)=y:=by simp
theorem zNe{Γ:Ctx}{G G':Gh}{w':World}{s d:Nat}{q:List Nat}{t:T}{v:Option Value}(hv:v=iz (mkV G s t []))(eh:∀xs,t≠.tup xs)(hs:∀p,G'.hd s p=G.hd s p)(mA:∀z,G'.hd d (z++q)=G.hd s z)
  (hr:R Γ.St G' w' d t q):Ent Γ G' w' v s (cpT d t q):=by
 have hz:∀z,G'.hd s (z++[])=G'.hd d (z++q):=by grind
 refine⟨?_,?_,qT d t q⟩
 ·rw[hv,zA3 (G:=G') (G':=G') t q [] eh hz,kP G s t [] eh,zBB t [] q (fun z=>by rw[mA,Ja])]
 ·exact zDE (G:=G') (G':=G') (fun _=>rfl) t q [] hz eh (xF.triv (fun _ _=>⟨rfl,rfl⟩) _) hr
section
variable {P:Program}{Γ:Ctx}{E:Env}{o:Oper}
theorem jW:(f:List Nat)→ ∀(t u:T),yD t→yD u→yD (t.set f u)
 | [],t,u,_,hu=>by grind[T.set]
 |i::f,t,u,ht,hu=>by
  cases t with
  |sl k xs=>
   simp only[T.set];split
   ·rename_i x hx
    simp only[yD,xF]at ht ⊢
    exact sets_clean xs i _ ht (jW f x u (uO xs ht i x hx) hu)
   ·exact ht
  |agg xs=>
   simp only[T.set];split
   ·rename_i x hx
    simp only[yD,xF]at ht ⊢
    exact sets_clean xs i _ ht (jW f x u (uO xs ht i x hx) hu)
   ·exact ht
  |tup xs=>
   simp only[T.set];split
   ·rename_i x hx
    simp only[yD,xF]at ht ⊢
    exact sets_clean xs i _ ht (jW f x u (uO xs ht i x hx) hu)
   ·exact ht
  |ptr t=>
   simp only[T.set];split
   ·simp only[yD,xF]at ht ⊢
    exact jW f t u ht hu
   ·exact ht
  |_=>grind[T.set]
where sets_clean:(xs:List T)→ ∀(i:Nat)(y:T),xX xs→yD y→xX (xs.set i y)
 | [],_,_,_,_=>by grind
 |x::xs,0,y,h,hy=>by simp_all[wC]
 |x::xs,i+1,y,h,hy=>by simp only[Lg,xX,wC]at h ⊢;exact⟨h.1,sets_clean xs i y h.2 hy⟩
theorem zFh(T':TypeId)(ti:TypeInfo)(x y:Operand)(r:Nat)(q:List Nat)(tr u0:T)(p:yW)(ho:o.op=.store T' x y)(gg:o.dst=iA)
  (hi:P.info? T'=iz ti)(gw:ti.size=p.tree.size)(pA:0<ti.size)(hx:zAN Γ E x r q)(hr:E r=iz tr)(d4:tr.single=iB)(hg:tr.get q.reverse=iz u0)(hl:tr.locd q.reverse=iB)
  (fO:vJ p.tree u0=iB)(hy:zAb E y p)(gV:tX E r [p]):
  wK P Γ o E (E.app ((r,iz (tr.set q.reverse p.tree))::sWr r q p) ((r,q.length)::sX [p])):=by
 refine wK.skip gg fun a w G g9=>?_
 have hm:=g9.mem;have bC:=hx a w G g9;obtain⟨e3,e4,e5⟩:=g9.ent r _ hr;have ah:q≠[]:=by rintro rfl;simp[T.locd]at hl
 obtain⟨i0,f0,u5⟩:∃i f,q.reverse=i::f:=by
  cases h:q.reverse with
  |nil=>exact absurd (by simpa using h) ah
  |cons i f=>exact⟨i,f,rfl⟩
 have tq:∀v:T,(tr.set q.reverse v).single=iB∧yD tr:=by
  intro v;rw[u5]at hg ⊢
  cases tr with
  |sl k xs=>exact⟨by simp only[T.set];split<;>rfl,by simpa only[Top,yD,xF]using e5⟩
  |ptr t=>exact⟨by simp only[T.set];split<;>rfl,by simpa only[Top,yD,xF]using e5⟩
  |agg xs=>simp[T.single]at d4
  |tup xs=>simp[T.single]at d4
  |_=>simp[T.get]at hg
 obtain⟨b,ob,cs,et,m7,gJ,ia⟩:=(zA2 q.reverse tr u0 [] e4 hg).2 hl;simp only[rp,Kn,Ja]at m7;have hru0:=(zA2 q.reverse tr u0 [] e4 hg).1;have f9:=zBC m7;have a6:=zCt _ _ fO;have hc:=zA4 g9 gV (by simp) hy;have cW:(a.eval y).cells.size=p.tree.size:=by
  rw[←Kv,hc];cases p with
  |slot s t=>obtain⟨_,_,h3⟩:=gV.slot s t (by simp);exact vH t [] (by rintro xs rfl;simp[T.okTup]at h3)
  |zero u=>exact vE u (gV.zero u (by simp))
 have gr:∀v∈(a.eval y).cells.toList,v.oneCell'=iB:=by
  rw[hc];intro v hv;cases p with
  |slot s t=>exact zKV hm t [] v hv
  |zero u=>exact zFg u (gV.zero u (by simp)) v hv
 generalize eI:w.setRow b (cs.toList.take ob++(a.eval y).cells.toList++cs.toList.drop (ob+(a.eval y).cells.toList.length)).toArray=w'
 have eF:w'.heap[b]? =iz (.cells (cs.toList.take ob++(a.eval y).cells.toList++cs.toList.drop (ob+(a.eval y).cells.toList.length)).toArray et (0,0)):=by rw[←eI];exact setRow_heap w b cs _ et _ gJ
 have gG:∀b',b'≠b→w'.heap[b']? =w.heap[b']?:=fun b' h=>by rw[←eI];exact setRow_other w b b' _ h
 have gP:w'.heap.size=w.heap.size:=by rw[←eI];exact size_setRow w b _
 have gC:(a.eval y).cells.toList.length=u0.size:=by rw[Kv,cW,a6]
 have ft:∀k,yS w' b k=if ob≤k∧k<ob+u0.size then(qG G p)[k-ob]? else yS w b k:=by
  intro k;simp only[yS,World.cell?,eF,gJ,Q2,G6,if_false];rw[←hc,←gC]at*
  rw[←Kk,←Kk (xs:=cs)];simp only[];have gQ:cs.toList.length=cs.size:=Kv ..
  generalize (a.eval y).cells.toList=V at*
  by_cases h1:k<ob
  ·rw[if_neg (by omega),Jd,Jx (by simp;omega),Ug h1]
  ·by_cases h2:k<ob+V.length
   ·rw[if_pos ⟨by omega,h2⟩,Jd,Jb (by simp;omega),Jx (by simp;omega)]
    congr 1;simp;omega
   ·rw[if_neg (by omega),Jd,Jb (by simp;omega),Jb (by simp;omega),Lr]
    congr 1;simp;omega
 have ck:∀b' o' fl s z,G.lb b' o'=iz (fl,s,z)→ ¬(s=r∧q<:+z)→yS w' b' o'=yS w b' o':=by
  intro b' o' fl s z h1 h2
  by_cases hb:b'=b
  ·subst hb
   rw[ft];split
   ·rename_i h3
    obtain⟨y',h4⟩:=zJC u0 q b' ob (o'-ob) m7 (by omega);rw[show ob+(o'-ob)=o' from by omega,h1]at h4;simp at h4;exact absurd ⟨h4.2.1,y',h4.2.2.symm⟩ h2
   ·rfl
  ·simp[yS,World.cell?,gG b' hb]
 have ey:Blk w w':=by
  intro b' cs' e' h1
  by_cases hb:b'=b
  ·subst hb
   rw[gJ]at h1;simp at h1;obtain⟨rfl,rfl⟩:=h1;exact⟨_,eF,by simp;have:cs.toList.length=cs.size:=Kv ..;omega⟩
  ·exact⟨cs',by rw[gG b' hb];exact h1,rfl⟩
 generalize gm:G.st r q p=G'
 have ghd:∀y',G'.hd r (y'++q)=sHd G p y':=fun y'=>by rw[←gm];simp[Gh.st]
 have ghd':∀s z,¬(s=r∧q<:+z)→G'.hd s z=G.hd s z:=fun s z h=>by rw[←gm];simp only[Gh.st];rw[if_neg h]
 have gad:∀s z,¬(s=r∧q<:+z)→G'.ad s z=G.ad s z:=fun s z h=>by rw[←gm];simp only[Gh.st];rw[if_neg (fun h2=>h ⟨h2.1,h2.2.1⟩)]
 have gadf:∀y',p.tree.inT y'.reverse=iB→G'.ad r (y'++q)=G.ad r (y'++q):=fun y' h=>by rw[←gm];simp only[Gh.st,zKW];rw[if_neg (by simp[h])]
 have gadm:∀s0 t y',p=.slot s0 t→t.inT y'.reverse=iC→G'.ad r (y'++q)=G.ad s0 y':=fun s0 t y' h1 h2=>by subst h1;rw[←gm];simp only[Gh.st,zKW,yW.tree];rw[if_pos];simp[h2]
 have glb:∀b' o' fl s z,G.lb b' o'=iz (fl,s,z)→zGl p q s z=iA→G'.lb b' o'=iz (fl,s,z):=fun b' o' fl s z h1 h2=>by rw[←gm];simp[Gh.st,h1,h2]
 have glbm:∀b' o' fl s z z',G.lb b' o'=iz (fl,s,z)→zGl p q s z=iz z'→G'.lb b' o'=iz (fl,r,z'):=fun b' o' fl s z z' h1 h2=>by rw[←gm];simp[Gh.st,h1,h2]
 have gow:∀b' s z,G.ow b'=iz (s,z)→zGl p q s z=iA→G'.ow b'=iz (s,z):=fun b' s z h1 h2=>by rw[←gm];simp[Gh.st,h1,h2]
 have gowm:∀b' s z z',G.ow b'=iz (s,z)→zGl p q s z=iz z'→G'.ow b'=iz (r,z'):=fun b' s z z' h1 h2=>by rw[←gm];simp[Gh.st,h1,h2]
 have aj:∀s z,(∀n,(s,n)∉(r,q.length)::sX [p])→zGl p q s z=iA:=by
  intro s z h;cases p with
  |zero u=>rfl
  |slot s0 t=>
   simp only[zGl];rw[if_neg];intro h2;simp only[J4,beq_iff_eq]at h2;obtain⟨h3,rfl⟩:=h2;exact h 1 (by simp[sX,xY,h3])
 have pB:∀z,zGl p q r z=iA:=by
  intro z;cases p with
  |zero u=>rfl
  |slot s0 t=>
   simp only[zGl];rw[if_neg];intro h2;simp only[J4,beq_iff_eq]at h2;obtain⟨h3,rfl⟩:=h2;have:=(Le.1 gV.dist).1;simp[xY,h3]at this
 have ms:∀s z,Off ((r,q.length)::sX [p]) s z→ ¬(s=r∧q<:+z):=by
  rintro s z h ⟨rfl,h2⟩
  have:=h q.length (by simp);have:=h2.length_le;omega
 have gx:qY ((r,q.length)::sX [p]) G w G' w':=by
  refine⟨fun s z h=>ghd' s z (ms s z h),fun s z h=>gad s z (ms s z h),fun b' o' fl s z _ h1 h2=>⟨glb b' o' fl s z h1 (aj s z h2),ck b' o' fl s z h1 ?_⟩,fun b' s z h1 h2=>gow b' s z h1 (aj s z h2),ey⟩
  rintro⟨rfl,_⟩
  exact h2 q.length (by simp)
 have bX:zCn Γ w b:=by obtain⟨y',h4⟩:=zJC u0 q b ob 0 m7 (by omega);exact hm.lb _ _ _ h4
 have gu:Mem Γ G' w':=by
  refine⟨fun s z=>?_,fun b' o' l hl=>?_,fun b' l hl=>?_,fun b' x' eu=>?_,fun b' h1 h2=>?_,by rw[gP];exact hm.sz,hm.bk.trans ey (by rw[←eI];rfl) (by rw[←eI];rfl)⟩
  ·by_cases h:s=r∧q<:+z
   ·obtain⟨rfl,y',rfl⟩:=h
    rw[ghd];unfold sHd;split
    ·exact hm.one _ _
    ·exact zBj _
   ·rw[ghd' s z h];exact hm.one s z
  ·have:∃l',G.lb b' o'=iz l':=by
    rw[←gm]at hl;simp only[Gh.st]at hl;split at hl
    ·exact⟨_,by assumption⟩
    ·cases hl
   obtain⟨l',bn⟩:=this;have:=hm.lb b' o' l' bn;exact⟨by rw[gP];exact this.1,this.2⟩
  ·have:∃l',G.ow b'=iz l':=by
    rw[←gm]at hl;simp only[Gh.st]at hl;split at hl
    ·exact⟨_,by assumption⟩
    ·cases hl
   obtain⟨l',bn⟩:=this;have:=hm.ow b' l' bn;exact⟨by rw[gP];exact this.1,this.2⟩
  ·have hb:b'≠b:=by rintro rfl;rw[bX.2.2]at eu;cases eu
   rw[gG b' hb];exact hm.st b' x' eu
  ·have hb:b'≠b:=by
    rintro rfl
    rcases bX.2.1 with h3|h3
    ·omega
    ·exact h2 h3
   rw[gG b' hb];exact hm.fr b' h1 h2
 have dy:Upd G w G' w' r q:=by refine⟨fun z h=>ghd' r z (fun h2=>h h2.2),fun z h=>gad r z (fun h2=>h h2.2),fun b' o' fl z h1 h=>⟨glb b' o' fl r z h1 (pB z),ck b' o' fl r z h1 (fun h2=>h h2.2)⟩,fun b' z h1 _=>gow b' r z h1 (pB z),ey⟩
 have bN:R Γ.St G' w' r p.tree q:=by
  cases hp:p with
  |zero u=>
   refine zJA u q (gV.zero u (by simp[hp])) (fun z=>by rw[ghd];simp[sHd,hp])
  |slot s0 t=>
   obtain⟨h1,h2,h3⟩:=gV.slot s0 t (by simp[hp]);have fa:=(g9.ent s0 t h1).2.1
   by_cases pF:sW t=iB
   ·have dH:s0≠r:=by
     rintro rfl
     have:=(Le.1 gV.dist).1;simp[hp,xY,pF]at this
    refine zKS t [] q h3 ⟨fun z=>by rw[ghd,Ja];simp[sHd,hp],fun z hz=>by rw[Ja];exact gadm s0 t z hp hz,fun b' o' fl z _ h4=>?_,fun b' z h4=>?_,ey⟩ (xF.mono (fun _ _=>False.elim) t h2) fa
    ·rw[Ja]at h4
     exact⟨glbm b' o' fl s0 z _ h4 (by simp[zGl,hp,pF]),ck b' o' fl s0 z h4 (fun h5=>dH h5.1)⟩
    ·rw[Ja]at h4
     exact gowm b' s0 z _ h4 (by simp[zGl,hp,pF])
   ·have hh:G'.hd r q=G.hd s0 []:=by have:=ghd [];rw[Ju]at this;rw[this];simp[sHd,hp]
    cases t<;>simp[sW]at pF<;>simp only[R,yW.tree]at fa ⊢ <;>rw[hh]<;>exact fa
 have pe:vals G' r p.tree q=qG G p:=by
  cases hp:p with
  |zero u=>exact zFe u q (gV.zero u (by simp[hp])) (fun z=>by rw[ghd];simp[sHd,hp])
  |slot s0 t=>exact zAM t [] q (fun z=>by rw[ghd];simp[sHd,hp])
 have ay:∀b' o',Loc G w r u0 q b' o'→Loc G' w' r p.tree q b' o':=by
  intro b' o' h1;have h2:b'=b∧o'=ob:=by have:=(zBC h1).symm.trans f9;simp at this;exact this
  obtain⟨rfl,rfl⟩:=h2;refine zRL p.tree u0 q b' o' fO (fun y' h=>gadf y' h) (fun b2 o2 y' h=>glb b2 o2 iC r _ h (pB _)) (fun j v hv=>?_) h1;rw[pe]at hv;have hj:=(Jw.1 hv).1;have pM:(qG G p).length=u0.size:=by rw[←hc,gC]
  rw[ft,if_pos ⟨by omega,by omega⟩,show o'+j-o'=j from by omega];exact hv
 have ac:R Γ.St G' w' r (tr.set q.reverse p.tree) []:=by
  have cM:rp q.reverse []=q:=by simp[rp]
  refine zFN q.reverse tr p.tree u0 [] (by rw[cM];exact dy) e4 hg a6 (xF.mono (fun _ _=>False.elim) tr (tq .any).2) (by rw[cM];exact ay) (by rw[cM];exact bN)
 have gA:=run_storeCells_at P b ob et (a.eval y).cells.toList 0 cs w gJ (by omega) gr;simp only[G9]at gA;rw[eI]at gA;refine⟨w',?_,G',vM g9 rfl gx gu ?_ ?_⟩
 ·have dB:(a.eval y).cells.size=ti.size:=by rw[cW,gw]
  simp[execOp,ho,bC,f9,Instr.storeAt,sG,storeVar,sizeOf,typeInfo,hi,dB,gA]
 ·intro s hs
  simp only[Wr.find]at hs;split at hs
  ·cases hs
  ·rename_i gf
   refine⟨fun n hn=>?_,rfl⟩;simp only[Jc,Jav.injEq]at hn;rcases hn with⟨h1,_⟩|hn
   ·exact gf h1.symm
   ·cases p with
    |zero u=>simp[sX,xY]at hn
    |slot s0 t=>
     by_cases pF:sW t=iB
     ·simp[sX,xY,pF]at hn
      simp[sWr,pF,Wr.find,hn.1.symm]at hs
     ·simp[sX,xY,pF]at hn
 ·intro s t hs
  simp only[Wr.find]at hs;split at hs
  ·rename_i he
   subst he;simp at hs;subst hs;refine⟨?_,ac,Top.of_clean _ (jW _ _ _ (tq .any).2 ?_)⟩
   ·rw[e3,xV (tq p.tree).1,xV d4]
    congr 1
    exact(ghd' r [] (fun h=>ah (by simpa using h.2))).symm
   ·cases p with
    |zero u=>exact(zBk u (gV.zero u (by simp))).1
    |slot s0 t=>exact(gV.slot s0 t (by simp)).2.1
  ·rename_i gf
   cases hp:p with
   |zero u=>simp[sWr,hp,Wr.find]at hs
   |slot s0 t0=>
    by_cases pF:sW t0=iB
    ·simp only[sWr,hp,pF,if_true,Wr.find]at hs
     split at hs
     ·rename_i he
      subst he;simp at hs;subst hs;obtain⟨h1,h2,h3⟩:=gV.slot s0 t0 (by simp[hp]);refine zNe (G:=G) (g9.ent s0 t0 h1).1 (by rintro xs rfl;simp[T.okTup]at h3) (fun z=>ghd' s0 z (fun h=>gf h.1.symm)) (fun z=>by rw[ghd];simp[sHd,hp]) (by rw[hp]at bN;exact bN)
     ·cases hs
    ·simp[sWr,hp,pF,Wr.find]at hs
theorem zKX(T':TypeId)(ti:TypeInfo)(x y:Operand)(r:Nat)(q:List Nat)(tr u0:T)(p:yW)(ho:o.op=.store T' x y)(gg:o.dst=iA)
  (hi:P.info? T'=iz ti)(gw:ti.size=p.tree.size)(pA:0<ti.size)(hx:opT E x=iz (.addr r q))(hr:E r=iz tr)(d4:tr.single=iB)(hg:tr.get q.reverse=iz u0)(hl:tr.locd q.reverse=iB)
  (fO:vJ p.tree u0=iB)(hy:zAb E y p)(gV:tX E r [p]):
  wK P Γ o E (E.app ((r,iz (tr.set q.reverse p.tree))::sWr r q p) ((r,q.length)::sX [p])):=
 by grind[zFh,zAN.addr]
end
end Go.Ab

namespace Go.Ab
open Go
section
variable {G G':Gh}{s:Nat}
theorem zNf(xs:List T):∀(p:List Nat)(j:Nat),(∀k,j≤k→ ∀z,G'.hd s (z++(k::p))=G.hd s (z++(k::p)))→yI G' s xs p j=yI G s xs p j:=by
 induction xs with
 |nil=>grind[yI]
 |cons z zs ih=>
  intro p j h;simp only[yI];rw[zAM z (j::p) (j::p) (h j (Jl _)),ih p (j+1) (by grind)]
theorem zQc(xs:List T):∀(p:List Nat)(j i:Nat)(x y:T),xs[i]? =iz x→(∀k,k≠j+i→ ∀z,G'.hd s (z++(k::p))=G.hd s (z++(k::p)))→
  vals G' s y ((j+i)::p)=vals G s x ((j+i)::p)→yI G' s (xs.set i y) p j=yI G s xs p j:=by
 induction xs with
 |nil=>simp
 |cons z zs ih=>
  intro p j i x y h hz hy;cases i with
  |zero=>
   grind[yI,zNf]
  |succ i=>
   simp only[Lg,yI];rw[zAM z (j::p) (j::p) (hz j (by omega)),ih p (j+1) i x y (by grind) (by grind) (by grind)]
theorem zKY:(f:List Nat)→ ∀(t u u0:T)(p:List Nat),t.get f=iz u0→u0.single=iB→u.single=iB→(∀z,(rp f p<:+z→z=rp f p)→G'.hd s z=G.hd s z)→vals G' s (t.set f u) p=vals G s t p
 | [],t,u,u0,p,hg,h0,h1,hh=>by simp[T.get]at hg;subst hg;have:G'.hd s p=G.hd s p:=hh p (by simp[rp]);simp only[T.set];cases t<;>simp[T.single]at h0<;>cases u<;>simp[T.single]at h1<;>simp[vals,this]
 |i::f,t,u,u0,p,hg,h0,h1,hh=>by
  rw[zBA]at hh;have hp:G'.hd s p=G.hd s p:=by grind[kH]
  cases t with
  |agg xs=>
   simp only[T.get]at hg;cases hx:xs[i]? with
   |none=>grind
   |some x=>
    rw[hx]at hg;simp only[T.set,hx,vals];refine zQc xs p 0 i x _ hx (by grind[jT]) ?_;rw[Jf];exact zKY f x u u0 (i::p) hg h0 h1 hh
  |tup xs=>
   grind[T.set,vals]
  |sl k xs=>grind[T.set,vals]
  |ptr t=>grind[T.set,vals]
  |_=>grind[T.get]
theorem zKZ(f:List Nat)(t u u0:T)(p:List Nat)(hg:t.get f=iz u0)(h0:u0.single=iB)(h1:u.single=iB)(hh:∀z,(rp f p<:+z→z=rp f p)→G'.hd s z=G.hd s z)(eh:∀xs,t≠.tup xs):
  sV G' s (t.set f u) p=sV G s t p:=by
 have h:=zKY f t u u0 p hg h0 h1 hh;cases f with
 |nil=>
  simp[T.get]at hg;subst hg;have:G'.hd s p=G.hd s p:=hh p (by simp[rp]);simp only[T.set];cases t<;>simp[T.single]at h0<;>cases u<;>simp[T.single]at h1<;>simp[sV,this]
 |cons i f=>
  rw[zBA]at hh;have hp:G'.hd s p=G.hd s p:=by grind[kH]
  cases t with
  |agg xs=>
   grind[T.set,vals,sV]
  |tup xs=>grind
  |sl k xs=>grind[T.set,sV]
  |ptr t=>grind[T.set,sV]
  |_=>grind[T.get]
theorem zQd(xs:List T):∀(p:List Nat)(j:Nat),(∀k,j≤k→ ∀z,G'.hd s (z++(k::p))=G.hd s (z++(k::p)))→jG G' s xs p j=jG G s xs p j:=by
 induction xs with
 |nil=>grind[jG]
 |cons z zs ih=>
  intro p j h;simp only[jG];rw[zBB z (j::p) (j::p) (h j (Jl _)),ih p (j+1) (by grind)]
theorem zRM(xs:List T):∀(p:List Nat)(j i:Nat)(x y:T),xs[i]? =iz x→(∀k,k≠j+i→ ∀z,G'.hd s (z++(k::p))=G.hd s (z++(k::p)))→
  sV G' s y ((j+i)::p)=sV G s x ((j+i)::p)→jG G' s (xs.set i y) p j=jG G s xs p j:=by
 induction xs with
 |nil=>simp
 |cons z zs ih=>
  intro p j i x y h hz hy;cases i with
  |zero=>
   grind[jG,zQd]
  |succ i=>
   simp only[Lg,jG];rw[zBB z (j::p) (j::p) (hz j (by omega)),ih p (j+1) i x y (by grind) (by grind) (by grind)]
def xN:T→Bool
 |.tup xs=>xs.all fun x=>match x with
  |.tup _=>iC
  |_=>iB
 |_=>iB
theorem zJD(f:List Nat)(t u u0:T)(p:List Nat)(hg:t.get f=iz u0)(h0:u0.single=iB)(h1:u.single=iB)(hh:∀z,(rp f p<:+z→z=rp f p)→G'.hd s z=G.hd s z)(mB:xN t=iB):
  mkV G' s (t.set f u) p=mkV G s t p:=by
 by_cases ht:∃xs,t=.tup xs
 ·obtain⟨xs,rfl⟩:=ht
  cases f with
  |nil=>grind[T.get,T.single]
  |cons i f=>
   rw[zBA]at hh;simp only[T.get]at hg;cases hx:xs[i]? with
   |none=>grind
   |some x=>
    rw[hx]at hg;simp only[T.set,hx,mkV];rw[zRM xs p 0 i x _ hx (fun k hk z=>hh _ (fun h=>absurd h (jT (by omega) z)))];rw[Jf];refine zKZ f x u u0 (i::p) hg h0 h1 hh ?_
    rintro ys rfl
    simp only[xN]at mB;have:=Ki.1 mB _ (Lz hx)
    grind
 ·have eh:∀xs,t≠.tup xs:=by grind
  rw[kP G s t p eh,←zKZ f t u u0 p hg h0 h1 hh eh];refine kP G' s _ p ?_
  rintro xs fx
  cases f with
  |nil=>grind[T.set,T.single]
  |cons i f=>cases t<;>simp only[T.set]at fx<;>first|grind|grind|cases fx
end
theorem zEt:(f:List Nat)→ ∀(t u:T),Top t→yD u→Top (t.set f u)
 | [],t,u,_,hu=>by grind[T.set,Top.of_clean]
 |i::f,t,u,ht,hu=>by
  cases t with
  |sl k xs=>
   refine Top.of_clean _ (jW (i::f) _ u (by simpa only[Top,yD,xF]using ht) hu)
  |ptr t=>exact Top.of_clean _ (jW (i::f) _ u (by simpa only[Top,yD,xF]using ht) hu)
  |agg xs=>
   simp only[T.set];split
   ·rename_i x hx
    simp only[Top]at ht ⊢
    exact tops_set xs i _ ht (zEt f x u (tops_get xs ht i x hx) hu)
   ·exact ht
  |tup xs=>
   simp only[T.set];split
   ·rename_i x hx
    simp only[Top]at ht ⊢
    exact tops_set xs i _ ht (zEt f x u (tops_get xs ht i x hx) hu)
   ·exact ht
  |_=>grind[T.set]
where
 tops_set:(xs:List T)→ ∀(i:Nat)(y:T),vQ xs→Top y→vQ (xs.set i y)
  | [],_,_,_,_=>by simp[vQ]
  |x::xs,0,y,h,hy=>by simp only[Lw,vQ]at h ⊢;grind
  |x::xs,i+1,y,h,hy=>by simp only[Lg,vQ]at h ⊢;exact⟨h.1,tops_set xs i y h.2 hy⟩
 tops_get:(xs:List T)→vQ xs→ ∀(i:Nat)(x:T),xs[i]? =iz x→Top x
  | [],_,_,_,h=>by simp at h
  |y::ys,hk,i,x,h=>by
   simp only[vQ]at hk;cases i with
   |zero=>grind
   |succ i=>exact tops_get ys hk.2 i x (by grind)
def Gh.tr(G:Gh)(d:Nat)(g:List Nat)(r:Nat)(p:List Nat):Gh where
 hd s z:=if s=d∧g<:+z then G.hd r (z.take (z.length-g.length)++p)else G.hd s z
 ad s z:=if s=d∧g<:+z∧z≠g then G.ad r (z.take (z.length-g.length)++p)else G.ad s z
 lb b o:=match G.lb b o with
  |some (fl,s,z)=>if s=r∧p<:+z∧(fl=iB∨z≠p)then iz (fl,d,z.take (z.length-p.length)++g)else iz (fl,s,z)
  |none=>iA
 ow b:=match G.ow b with
  |some (s,z)=>if s=r∧p<:+z then iz (d,z.take (z.length-p.length)++g)else iz (s,z)
  |none=>iA
theorem zFR{t:T}(h:t.single=iB):t.size=1:=by cases t<;>simp[T.single]at h<;>simp[T.size]
theorem zDK{Γ:Ctx}{E:Env}{G:Gh}{tmps:Array Value}{w:World}(g9:Rep Γ E G tmps w)(d:Nat)(g:List Nat)(r:Nat)(p:List Nat)(td tr u v0:T)(hd:E d=iz td)(hg:td.get g.reverse=iz v0)(tk:v0.single=iB)(gL:G.hd d g=G.hd r p)(hr:E r=iz tr)
  (hp:tr.get p.reverse=iz u)(hu:u.single=iB)(eA:yD u)(gZ:d≠r)(bc:td.okB [(d,g.length+1),(r,p.length+1)]=iB)(pY:tr.okB [(d,g.length+1),(r,p.length+1)]=iB)(cV:xN td=iB)(cI:xN tr=iB):
  Rep Γ (E.app [(d,iz (td.set g.reverse u)),(r,iz (if p=[]then .same d g else tr.set p.reverse .any))] [(d,g.length+1),(r,p.length+1)]) (G.tr d g r p) tmps w∧ ∀s z,¬(s=d∧g<:+z∧z≠g)→(G.tr d g r p).hd s z=G.hd s z:=by
 obtain⟨d1,d2,d3⟩:=g9.ent d td hd;obtain⟨r1,r2,r3⟩:=g9.ent r tr hr;have hm:=g9.mem;have bN:=(zA2 p.reverse tr u [] r2 hp).1;simp only[rp,Kn,Ja]at bN;have gJ:Blk w w:=fun b cs e' h=>⟨cs,h,rfl⟩
 generalize gm:G.tr d g r p=G'
 have ghd:∀z,G'.hd d (z++g)=G.hd r (z++p):=fun z=>by rw[←gm];simp[Gh.tr]
 have ghd0:∀s z,¬(s=d∧g<:+z∧z≠g)→G'.hd s z=G.hd s z:=by
  intro s z h;rw[←gm];simp only[Gh.tr]
  by_cases h2:s=d∧g<:+z
  ·have h3:z=g:=by
    rcases Decidable.em (z=g)with e|e
    ·exact e
    ·exact absurd ⟨h2.1,h2.2,e⟩ h
   subst h3;rw[if_pos h2,h2.1];simpa using gL.symm
  ·rw[if_neg h2]
 have gad0:∀s z,¬(s=d∧g<:+z∧z≠g)→G'.ad s z=G.ad s z:=fun s z h=>by rw[←gm];simp only[Gh.tr];rw[if_neg h]
 have gad:∀z,z≠[]→G'.ad d (z++g)=G.ad r (z++p):=fun z h=>by rw[←gm];simp only[Gh.tr];rw[if_pos (by simpa using h)];simp
 have glb0:∀b o fl s z,G.lb b o=iz (fl,s,z)→ ¬(s=r∧p<:+z∧(fl=iB∨z≠p))→G'.lb b o=iz (fl,s,z):=fun b o fl s z h1 h2=>by rw[←gm];simp only[Gh.tr,h1];rw[if_neg h2]
 have glb:∀b o fl z,G.lb b o=iz (fl,r,z++p)→(fl=iB∨z≠[])→G'.lb b o=iz (fl,d,z++g):=fun b o fl z h1 h2=>by rw[←gm];simp only[Gh.tr,h1];rw[if_pos (by simpa using h2)];simp
 have gow0:∀b s z,G.ow b=iz (s,z)→ ¬(s=r∧p<:+z)→G'.ow b=iz (s,z):=fun b s z h1 h2=>by rw[←gm];simp only[Gh.tr,h1];rw[if_neg h2]
 have gow:∀b z,G.ow b=iz (r,z++p)→G'.ow b=iz (d,z++g):=fun b z h1=>by rw[←gm];simp only[Gh.tr,h1];rw[if_pos (by simp)];simp
 have gF:∀s z,Off [(d,g.length+1),(r,p.length+1)] s z→ ¬(s=d∧g<:+z∧z≠g):=by
  rintro s z h ⟨rfl,⟨y,rfl⟩,h3⟩
  have:=h (g.length+1) (by simp);have:y=[]:=Ls (by simp at this;omega);exact h3 (by simp[this])
 have gx:qY [(d,g.length+1),(r,p.length+1)] G w G' w:=by
  refine⟨fun s z h=>ghd0 s z (gF s z h),fun s z h=>gad0 s z (gF s z h),fun b o fl s z _ h1 h2=>⟨glb0 b o fl s z h1 ?_,rfl⟩,fun b s z h1 h2=>gow0 b s z h1 ?_,gJ⟩
  ·rintro⟨rfl,_⟩;exact h2 (p.length+1) (by simp)
  ·rintro⟨rfl,_⟩;exact h2 (p.length+1) (by simp)
 have gu:Mem Γ G' w:=by
  refine⟨fun s z=>?_,fun b o l hl=>?_,fun b l hl=>?_,hm.st,hm.fr,hm.sz,hm.bk⟩
  ·rw[←gm]
   simp only[Gh.tr];split
   ·exact hm.one _ _
   ·exact hm.one _ _
  ·have:∃l',G.lb b o=iz l':=by
    rw[←gm]at hl;simp only[Gh.tr]at hl;split at hl
    ·exact⟨_,by assumption⟩
    ·cases hl
   obtain⟨l',bn⟩:=this;exact hm.lb b o l' bn
  ·have:∃l',G.ow b=iz l':=by
    rw[←gm]at hl;simp only[Gh.tr]at hl;split at hl
    ·exact⟨_,by assumption⟩
    ·cases hl
   obtain⟨l',bn⟩:=this;exact hm.ow b l' bn
 have cM:∀q:List Nat,rp q.reverse []=q:=fun q=>by simp[rp]
 have hud:R Γ.St G' w d u g:=by
  refine zAl (G:=G) (w:=w) (s:=r) (p:=p) ⟨⟨ghd,gad,fun b o f z hz _ hl=>⟨glb b o f z hl (.inr hz),rfl⟩,fun b z _ hl=>gow b z hl,gJ⟩,fun b o _ hl=>⟨by simpa using glb b o iB [] (by simpa using hl) (.inl rfl),rfl⟩,fun b hl=>by simpa using gow b [] (by simpa using hl)⟩ u
   (xF.mono (fun _ _=>False.elim) u eA) bN
 have tm:Upd G w G' w d g:=⟨fun z h=>ghd0 d z (fun h2=>h h2.2.1),fun z h=>gad0 d z (fun h2=>h h2.2.1),fun b o f z h1 _=>⟨glb0 b o f d z h1 (fun h2=>gZ h2.1),rfl⟩,fun b z h1 _=>gow0 b d z h1 (fun h2=>gZ h2.1),gJ⟩;have az:∀b o,Loc G w d v0 g b o→Loc G' w d u g b o:=by intro b o h1;obtain⟨h2,h3,h4⟩:=vD tk h1;have h5:G'.ad d g=⟨b,o,iA⟩∧G'.lb b o=iz (iC,d,g)∧yS w b o=iz (G'.hd d g):=⟨(gad0 d g (fun h=>h.2.2 rfl)).trans h2,glb0 b o iC d g h3 (fun h=>gZ h.1),by rw[h4,ghd0 d g (fun h=>h.2.2 rfl)]⟩;cases u<;>simp[T.single]at hu<;>simpa only[Loc]using h5
 have aU:R Γ.St G' w d (td.set g.reverse u) []:=
  zFN g.reverse td u v0 [] (by rw[cM];exact tm) d2 hg (by rw[zFR tk,zFR hu]) (gx.keepR (zAm td d3 bc)) (by rw[cM];exact az) (by rw[cM];exact hud)
 have hVd:mkV G' d (td.set g.reverse u) []=mkV G d td []:=
  zJD g.reverse td u v0 [] hg tk hu (fun z hz=>ghd0 d z (fun h2=>h2.2.2 (by rw[cM]at hz;exact hz h2.2.1))) cV
 have hRr:p≠[]→R Γ.St G' w r (tr.set p.reverse .any) []:=by intro bP;refine zFN p.reverse tr .any u [] (by rw[cM];exact⟨fun z _=>ghd0 r z (fun h2=>gZ h2.1.symm),fun z _=>gad0 r z (fun h2=>gZ h2.1.symm),fun b o f z h1 h=>⟨glb0 b o f r z h1 (fun h2=>h h2.2.1),rfl⟩,fun b z h1 h=>gow0 b r z h1 (fun h2=>h h2.2),gJ⟩) r2 hp (by cases u<;>simp[T.single]at hu<;>simp[T.size]) (gx.keepR (zAm tr r3 pY)) ?_ (by simp only[R]);rw[cM];intro b o h1;obtain⟨h2,h3,h4⟩:=vD hu h1;simp only[Loc];exact⟨(gad0 r p (fun h=>gZ h.1.symm)).trans h2,glb0 b o iC r p h3 (by simp),by rw[h4,ghd0 r p (fun h=>gZ h.1.symm)]⟩
 have hVr:p≠[]→mkV G' r (tr.set p.reverse .any) []=mkV G r tr []:=fun _=>
  zJD p.reverse tr .any u [] hp hu rfl (fun z _=>ghd0 r z (fun h2=>gZ h2.1.symm)) cI
 refine⟨vM g9 rfl gx gu ?_ ?_,ghd0⟩
 ·intro s hs
  simp only[Wr.find]at hs;split at hs
  ·cases hs
  ·rename_i h1
   split at hs
   ·cases hs
   ·rename_i h2
    refine⟨fun n hn=>?_,rfl⟩;simp only[Jc,Jav.injEq,Jb1,or_false]at hn;rcases hn with⟨e,_⟩|⟨e,_⟩
    ·exact h1 e.symm
    ·exact h2 e.symm
 ·intro s t hs
  simp only[Wr.find]at hs;split at hs
  ·rename_i he
   subst he;simp at hs;subst hs;exact⟨by rw[d1,hVd],aU,zEt _ _ _ d3 eA⟩
  ·split at hs
   ·rename_i he
    subst he;simp at hs
    by_cases bP:p=[]
    ·rw[if_pos bP]at hs
     subst hs;subst bP;simp[T.get]at hp;subst hp;refine⟨?_,?_,by simp[Top]⟩
     ·rw[r1,xV hu,xV rfl,ghd0 r [] (fun h=>gZ h.1.symm)]
     ·simp only[R]
      rw[ghd0 r [] (fun h=>gZ h.1.symm)];have:=ghd [];simpa using this.symm
    ·rw[if_neg bP]at hs
     subst hs;exact⟨by rw[r1,hVr bP],hRr bP,zEt _ _ _ r3 (by simp[yD,xF])⟩
   ·cases hs
theorem zNg{Γ:Ctx}{E:Env}{a:Act}{w:World}(h:Sim Γ E a w)(d:Nat)(g:List Nat)(r:Nat)(p:List Nat)(td tr u:T)(hd:E d=iz td)(hg:td.get g.reverse=iz (.same r p))(hr:E r=iz tr)
  (hp:tr.get p.reverse=iz u)(hu:u.single=iB)(eA:yD u)(gZ:d≠r)(bc:td.okB [(d,g.length+1),(r,p.length+1)]=iB)(pY:tr.okB [(d,g.length+1),(r,p.length+1)]=iB)(cV:xN td=iB)(cI:xN tr=iB):
  Sim Γ (E.app [(d,iz (td.set g.reverse u)),(r,iz (if p=[]then .same d g else tr.set p.reverse .any))] [(d,g.length+1),(r,p.length+1)]) a w:=by
 obtain⟨gN,G,g9⟩:=h;have gL:=(zA2 g.reverse td _ [] (g9.ent d td hd).2.1 hg).1;simp only[rp,Kn,Ja,R]at gL;exact⟨gN,_,(zDK g9 d g r p td tr u _ hd hg rfl gL hr hp hu eA gZ bc pY cV cI).1⟩
end Go.Ab

namespace Go.Ab
open Go
theorem zJE{St:Stb}{G:Gh}{w:World}{s:Nat}{k:Nat}:(xs:List T)→ ∀(p:List Nat)(j b o:Nat),(∀i x,xs[i]? =iz x→Loc G w s x ((j+i)::p) b (o+i*k)∧x.size=k∧R St G w s x ((j+i)::p))→RL St G w s xs p j b o k
 | [],_,_,_,_,_=>by grind[RL]
 |x::xs,p,j,b,o,h=>by
  obtain⟨h1,h2,h3⟩:=h 0 x (by simp);simp only[RL];refine⟨by grind,by omega,zJE xs p (j+1) b (o+k) (fun i y hy=>?_)⟩;have:=h (i+1) y (by grind)
  grind
theorem zA5{St:Stb}{G:Gh}{w:World}{s:Nat}{k:Nat}:(xs:List T)→ ∀(p:List Nat)(j b o:Nat),RL St G w s xs p j b o k→vL G w s xs p j b o
 | [],_,_,_,_,_=>by grind[vL]
 |x::xs,p,j,b,o,h=>by simp only[RL]at h;simp only[vL];exact⟨h.1.1,zA5 xs p (j+1) b (o+x.size) (by rw[h.1.2];exact h.2.2)⟩
theorem zBn{St:Stb}{G:Gh}{w:World}{s:Nat}{k:Nat}:(xs:List T)→ ∀(p:List Nat)(j b o:Nat),RL St G w s xs p j b o k→RF St G w s xs p j∧ ∀x∈xs,x.size=k
 | [],_,_,_,_,_=>by simp[RF]
 |x::xs,p,j,b,o,h=>by simp only[RL]at h;obtain⟨h1,h2⟩:=zBn xs p (j+1) b (o+k) h.2.2;exact⟨by grind[RF],by grind⟩
section
variable {G:Gh}{w:World}{G':Gh}{w':World}{s s':Nat}
mutual
theorem zGP:(t:T)→ ∀(p p':List Nat)(b o:Nat),(∀z,G'.hd s' (z++p')=G.hd s (z++p))→(∀z,G'.ad s' (z++p')=G.ad s (z++p))→
  (∀b o z,G.lb b o=iz (iC,s,z++p)→G'.lb b o=iz (iC,s',z++p')∧yS w' b o=yS w b o)→Loc G w s t p b o→Loc G' w' s' t p' b o
 |.agg xs,p,p',b,o,hh,ha,hl,h=>by
  simp only[Loc]at h ⊢
  exact⟨by have:=ha [];grind,zII xs p p' 0 b o hh ha hl h.2⟩
 |.any,p,p',b,o,hh,ha,hl,h|.lit _,p,p',b,o,hh,ha,hl,h|.ro _,p,p',b,o,hh,ha,hl,h|.same _ _,p,p',b,o,hh,ha,hl,h|.addr _ _,p,p',b,o,hh,ha,hl,h|.sub _ _ _ _ _,p,p',b,o,hh,ha,hl,h|.sl _ _,p,p',b,o,hh,ha,hl,h|.ptr _,p,p',b,o,hh,ha,hl,h=>by
  simp only[Loc]at h ⊢
  have h1:=hl b o [] (by grind)
  grind
 |.tup _,_,_,_,_,_,_,_,h=>by grind[Loc]
theorem zII:(xs:List T)→ ∀(p p':List Nat)(j b o:Nat),(∀z,G'.hd s' (z++p')=G.hd s (z++p))→(∀z,G'.ad s' (z++p')=G.ad s (z++p))→
  (∀b o z,G.lb b o=iz (iC,s,z++p)→G'.lb b o=iz (iC,s',z++p')∧yS w' b o=yS w b o)→vL G w s xs p j b o→vL G' w' s' xs p' j b o
 | [],_,_,_,_,_,_,_,_,_=>by grind[vL]
 |x::xs,p,p',j,b,o,hh,ha,hl,h=>by
  simp only[vL]at h ⊢
  exact⟨zGP x (j::p) (j::p') b o (fun z=>by have:=hh (z++[j]);grind) (fun z=>by have:=ha (z++[j]);grind) (fun b o z hz=>by have:=hl b o (z++[j]) (by grind);grind) h.1,
   zII xs p p' (j+1) b _ hh ha hl h.2⟩
end
end
theorem zEu(G:Gh)(s:Nat):∀(xs us:List T)(p:List Nat)(j:Nat),yI G s (xs++us) p j=yI G s xs p j++yI G s us p (j+xs.length)
 | [],us,p,j=>by rfl
 |x::xs,us,p,j=>by simp[yI,zEu G s xs us p (j+1),Nat.add_assoc,Nat.add_comm 1]
theorem zEv:∀(xs us:List T),T.sizes (xs++us)=T.sizes xs+T.sizes us
 | [],us=>by simp[T.sizes]
 |x::xs,us=>by simp[T.sizes,zEv xs us,Nat.add_assoc]
theorem zDz:∀(xs us:List T),yV xs=iB→yV us=iB→yV (xs++us)=iB
 | [],us,_,h=>h
 |x::xs,us,h,h'=>by
  simp only[yV,J4,Jy]at h ⊢
  exact⟨h.1,zDz xs us h.2 h'⟩
theorem zD0:∀(xs us:List T),xX xs→xX us→xX (xs++us)
 | [],us,_,h=>h
 |x::xs,us,h,h'=>by
  simp only[xX,wC,Jy]at h ⊢
  exact⟨h.1,zD0 xs us h.2 h'⟩
theorem kJ{St:Stb}{G:Gh}{w:World}{s:Nat}{k:Nat}:(xs:List T)→ ∀(p:List Nat)(j b o:Nat),vL G w s xs p j b o→yV xs=iB
 | [],_,_,_,_,_=>rfl
 |x::xs,p,j,b,o,h=>by simp only[vL]at h;simp only[yV,J4];exact⟨one x (j::p) b o h.1,kJ (St:=St) (k:=k) xs p (j+1) b _ h.2⟩
where
 one:(t:T)→ ∀(p:List Nat)(b o:Nat),Loc G w s t p b o→t.okTup=iB
  |.agg xs,p,b,o,h=>by simp only[Loc]at h;simp only[T.okTup];exact kJ (St:=St) (k:=k) xs p 0 b o h.2
  |.tup _,_,_,_,h=>by grind[Loc]
  |.any,_,_,_,_|.lit _,_,_,_,_|.ro _,_,_,_,_|.same _ _,_,_,_,_|.addr _ _,_,_,_,_|.sub _ _ _ _ _,_,_,_,_|.sl _ _,_,_,_,_|.ptr _,_,_,_,_=>rfl
section
variable {P:Program}
structure zGQ (P:Program) (t2:TypeId) (e:TypeId) (ti:TypeInfo) (xv:Value) (m:Nat) (nv:List Value) (w:World):Prop where
 arg:(∃e2 xa c,P.underlying t2=iz (.slice e2)∧xv=.slice xa m c∧ ∀w2:World,w2.heap=w.heap→(Builtin.firstCells ti.size m (.slice xa m c)).run P w2=.ok nv.toArray w2)∨
  ∃k2 k3 z,P.underlying t2=iz (.int k2)∧xv=.int k3 (m:Int)∧ti.zero=iz z∧nv.toArray=Builtin.zeroCells z.cells m∧m*ti.bytes≤2 ^ 47∧z.cells.size=ti.size
theorem zEw{t t2 ty e:TypeId}{ti:TypeInfo}{xv:Value}{m:Nat}{nv:List Value}{w w':World}(ht:P.underlying t=iz (.slice e))(hi:P.info? e=iz ti)
  (hx:zGQ P t2 e ti xv m nv w)(hm:m≤68719476736){base:Option Addr}{n cap:Nat}(eg:n+m≤cap)
  (gA:(if let iz a:=base then storeCells (a.add (n*ti.size)) nv else pure ():Sem Unit).run P w=.ok () w'):
  (Builtin.append_ #[t,t2] ty #[.slice base n cap,xv]).run P w=.ok (.slice base (n+m) cap) w':=by
 rcases hx.arg with⟨e2,xa,c,h1,rfl,h2⟩|⟨k2,k3,z,h1,rfl,h2,h3,h4,h5⟩
 ·have h2:=h2 w rfl
  cases base with
  |none=>
   simp at gA;subst gA;simp[Builtin.append_,run_underlying ht,run_underlying h1,sizeOf,typeInfo,hi,Builtin.lenOf,eg,h2]
  |some a=>
   simp only at gA;simp[Builtin.append_,run_underlying ht,run_underlying h1,sizeOf,typeInfo,hi,Builtin.lenOf,eg,h2,gA]
 ·have mG:IntKind.i64.wrap (m:Int)=m:=by grind[IntKind.wrap_i64]
  have bH:¬(281474976710656<(m:Int)*(ti.bytes:Int)):=by omega
  have ca:¬((m:Int)<0):=by omega
  have db:nv=(Builtin.zeroCells z.cells m).toList:=by rw[←h3]
  by_cases hz:m*ti.size=0
  ·have be:nv=[]:=by
    grind[Builtin.zeroCells]
   subst be;cases base with
   |none=>
    simp at gA;subst gA;simp[Builtin.append_,run_underlying ht,run_underlying h1,sizeOf,typeInfo,hi,asInt,asIntOf,mG,bH,ca,eg,hz]
   |some a=>
    simp only[storeCells,Sem.run_pure]at gA;cases gA;simp[Builtin.append_,run_underlying ht,run_underlying h1,sizeOf,typeInfo,hi,asInt,asIntOf,mG,bH,ca,eg,hz,storeCells]
  ·cases base with
   |none=>
    simp at gA;subst gA;simp[Builtin.append_,run_underlying ht,run_underlying h1,sizeOf,typeInfo,zeroValue,hi,h2,asInt,asIntOf,mG,bH,ca,eg]
   |some a=>
    simp only[db]at gA;simp[Builtin.append_,run_underlying ht,run_underlying h1,sizeOf,typeInfo,zeroValue,hi,h2,asInt,asIntOf,mG,bH,ca,eg,hz,gA]
theorem zJF{t t2 ty e:TypeId}{ti:TypeInfo}{z xv:Value}{m:Nat}{nv olds:List Value}{w:World}(ht:P.underlying t=iz (.slice e))(hi:P.info? e=iz ti)(hz:ti.zero=iz z)
  (hx:zGQ P t2 e ti xv m nv w){base:Option Addr}{n cap:Nat}(gY:cap<n+m)(p6:n+m≤68719476736)(hb:ti.bytes≤2048)
  (gG:∀w2:World,w2.heap=w.heap→(Builtin.firstCells ti.size n (.slice base n cap)).run P w2=.ok olds.toArray w2):
  (Builtin.append_ #[t,t2] ty #[.slice base n cap,xv]).run P w=.ok (.slice (iz ⟨w.heap.size,0,iA⟩) (n+m) (grownCap w (n+m) cap e))
    (w.drew.alloc (.cells ((olds++nv).toArray++Builtin.zeroCells z.cells (grownCap w (n+m) cap e-(n+m))) e)):=by
 have hn:¬(n+m≤cap):=by omega
 have bF:¬(9223372036854775807<((n:Int)+(m:Int))):=by omega
 have ia:=growslice_fits (need:=n+m) (old:=cap) (bytes:=ti.bytes) gY (Gm (K1 p6 hb) (by decide));have bG:¬(281474976710656<Builtin.nextslicecap (n+m) cap*ti.bytes):=by omega
 have ho:=gG w.drew rfl;rcases hx.arg with⟨e2,xa,c,h1,rfl,h2⟩|⟨k2,k3,z',h1,rfl,h2,h3,h4,h5⟩
 ·have h2:=h2 w.drew rfl
  simp[Builtin.append_,run_underlying ht,run_underlying h1,sizeOf,typeInfo,zeroValue,hi,hz,Builtin.lenOf,hn,bF,bG,Question.forced,h2,ho,newRow,grownCap]
  grind
 ·have mG:IntKind.i64.wrap (m:Int)=m:=by grind[IntKind.wrap_i64]
  have bH:¬(281474976710656<(m:Int)*(ti.bytes:Int)):=by omega
  have ca:¬((m:Int)<0):=by omega
  have db:nv=(Builtin.zeroCells z'.cells m).toList:=by rw[←h3]
  rw[hz]at h2;simp at h2;subst h2
  by_cases mE:m*ti.size=0
  ·have be:nv=[]:=by
    grind[Builtin.zeroCells]
   subst be;simp[Builtin.append_,run_underlying ht,run_underlying h1,sizeOf,typeInfo,zeroValue,hi,hz,asInt,asIntOf,mG,bH,ca,hn,bF,bG,Question.forced,mE,ho,newRow,grownCap]
  ·simp[Builtin.append_,run_underlying ht,run_underlying h1,sizeOf,typeInfo,zeroValue,hi,hz,asInt,asIntOf,mG,bH,ca,hn,bF,bG,Question.forced,mE,ho,newRow,grownCap,←h3]
   grind
end
def zDL(s0:Nat)(y:Option Nat)(n:Nat)(s:Nat)(z:List Nat):Option (List Nat):=
 if s=s0 then iz z else if y=iz s then(match z.getLast? with
  |some j=>iz (z.dropLast++[n+j])
  |none=>iA)else iA
def Gh.ip(G:Gh)(d s0:Nat)(y:Option Nat)(b n k:Nat)(us:List T)(f2:Nat→List Nat→Value)(gZ:Value):Gh where
 hd s z:=if s=d then(match z.getLast? with
  |some i=>if i<n then G.hd s0 z else f2 (i-n) z.dropLast
  |none=>gZ)else G.hd s z
 ad s z:=if s=d then(match z.getLast? with
  |some i=>if i<n then G.ad s0 z else if(T.agg us).inT ((i-n)::z.dropLast.reverse)then⟨b,n*k+(T.agg us).offT ((i-n)::z.dropLast.reverse),iA⟩else(match y with
   |some y=>G.ad y (z.dropLast++[i-n])
   |none=>default)
  |none=>default)else G.ad s z
 lb b' o:=if b'=b∧n*k≤o∧o<n*k+us.length*k then(match zCq us [] n (o-n*k)with
  |some p=>iz (iC,d,p)
  |none=>iA)else match G.lb b' o with
  |some (fl,s,z)=>(match zDL s0 y n s z with
   |some z'=>iz (fl,d,z')
   |none=>iz (fl,s,z))
  |none=>iA
 ow b':=match G.ow b' with
  |some (s,z)=>(match zDL s0 y n s z with
   |some z'=>iz (d,z')
   |none=>iz (s,z))
  |none=>iA
def aWr(d s0:Nat)(y:Option Nat)(k:Nat)(ts:List T):Wr:=(d,iz (.sl k ts))::(s0,iz .any)::(match y with
 |some y=>[(y,iz .any)]
 |none=>[])
def zBa(d s0:Nat)(y:Option Nat):Chg:=(d,0)::(s0,1)::(match y with
 |some y=>[(y,1)]
 |none=>[])
structure zGR (Γ:Ctx) (E:Env) (G:Gh) (d s0:Nat) (y:Option Nat) (k n:Nat) (us:List T) (f2:Nat→List Nat→Value) (nv:List Value):Prop where
 size:∀u∈us,u.size=k
 tup:yV us=iB
 clean:xX us
 one:∀j z,(f2 j z).oneCell'=iB
 len:nv.length=us.length*k
 slot:∀y',y=iz y'→y'≠d∧y'≠s0∧E y'=iz (.sl k us)∧ ∀j z,f2 j z=G.hd y' (z++[j])
 none:y=iA→ ∀(j:Nat) u,us[j]? =iz u→ ∀(G2:Gh)(w2:World),(∀z,G2.hd d (z++[n+j])=f2 j z)→R Γ.St G2 w2 d u [n+j]
 vals:∀(G2:Gh),(∀j z,G2.hd d (z++[n+j])=f2 j z)→ ∀(o:Nat)(v:Value),(yI G2 d us [] n)[o]? =iz v→nv[o]? =iz v
theorem zLa{G G2:Gh}{s d:Nat}:(xs:List T)→ ∀(p:List Nat)(j:Nat),(∀i,i<xs.length→ ∀z,G2.hd d (z++((j+i)::p))=G.hd s (z++((j+i)::p)))→yI G2 d xs p j=yI G s xs p j
 | [],_,_,_=>by rfl
 |x::xs,p,j,h=>by
  simp only[yI];have ih:yI G2 d xs p (j+1)=yI G s xs p (j+1):=zLa xs p (j+1) (fun i hi z=>by
   rw[show j+1+i=j+(i+1)from by omega]
   simp_all)
  rw[zAM x (j::p) (j::p) (by simpa using h 0 (by simp)),ih]
theorem zIv(z:List Nat):z=[]∨ ∃y i,z=y++[i]:=by
 rcases List.eq_nil_or_concat z with h|⟨y,i,h⟩
 all_goals grind
section
variable {P:Program}{Γ:Ctx}{E:Env}{d:Nat}
theorem zBF{G:Gh}{a:Act}{w:World}(g9:Rep Γ E G a.tmps w)(hd:d<Γ.N){t t2 ty e:TypeId}{ti:TypeInfo}{z:Value}{k:Nat}(ht:P.underlying t=iz (.slice e))(hi:P.info? e=iz ti)(hz:ti.zero=iz z)
  (hk:ti.size=k)(_hk0:0<k)(ff:z.cells.size=k)(hb:ti.bytes≤2048){s0:Nat}{y:Option Nat}{xs us:List T}{f2:Nat→List Nat→Value}{nv:List Value}(eB:E s0=iz (.sl k xs))(fD:s0≠d)
  (hn:zGR Γ E G d s0 y k xs.length us f2 nv){xv:Value}(hx:zGQ P t2 e ti xv us.length nv w)(gr:∀v∈nv,v.oneCell'=iB)(p6:xs.length+us.length≤68719476736):
  ∃v w',(Builtin.append_ #[t,t2] ty #[G.hd s0 [],xv]).run P w=.ok v w'∧ ∃G',Rep Γ (E.app (aWr d s0 y k (xs++us)) (zBa d s0 y)) G' (a.tmps.setIfInBounds d v) w':=by
 have hm:=g9.mem;obtain⟨e1,e2,e3⟩:=g9.ent s0 _ eB;simp only[Top]at e3;simp only[R]at e2;have dD:T.sizes us=us.length*k:=wU us hn.size;have fin:∀(G':Gh)(w':World)(v:Value),qY (zBa d s0 y) G w G' w'→Mem Γ G' w'→G'.hd d []=v→R Γ.St G' w' d (.sl k (xs++us)) []→(∀s p,s≠d→G'.hd s p=G.hd s p)→
   Rep Γ (E.app (aWr d s0 y k (xs++us)) (zBa d s0 y)) G' (a.tmps.setIfInBounds d v) w':=by
  intro G' w' v gx gu ic aU hother;refine vM g9 (by simp) gx gu ?_ ?_
  ·intro s hs
   have gf:s≠d:=by rintro rfl;simp[aWr,Wr.find]at hs
   have ar:s≠s0:=by rintro rfl;simp[aWr,Wr.find,gf.symm]at hs
   have hney:∀y',y=iz y'→s≠y':=by
    rintro y' rfl rfl
    grind[aWr,Wr.find]
   refine⟨fun n' hn'=>?_,by grind⟩;simp only[zBa,Jc,Jav.injEq]at hn'
   grind
  ·intro s t' hs
   by_cases h1:s=d
   ·subst h1
    simp[aWr,Wr.find]at hs;subst hs;refine⟨?_,aU,by simp only[Top];exact zD0 xs us e3 hn.clean⟩;rw[Jk];simp[g9.size,hd,mkV,ic]
   ·have h3:t'=.any∧(s=s0∨y=iz s):=by
     simp only[aWr,Wr.find]at hs;rw[if_neg (fun h=>h1 h.symm)]at hs
     grind[Wr.find]
    obtain⟨rfl,h3⟩:=h3;refine⟨?_,by grind[R],by simp[Top]⟩;rw[Jk];simp only[Ne.symm h1,if_false,mkV];rw[hother s [] h1];rcases h3 with rfl|h3
    ·exact e1
    ·obtain⟨_,_,h4,_⟩:=hn.slot s h3
     exact(g9.ent s _ h4).1
 have pC:∀s p,(∀n',(s,n')∉zBa d s0 y)→zDL s0 y xs.length s p=iA:=by
  intro s p h;have h1:s≠s0:=fun e=>h 1 (by simp[zBa,e])
  grind[zBa,zDL]
 by_cases eg:∃a' c,G.hd s0 []=.slice a' xs.length c∧xs.length+us.length≤c
 ·
  obtain⟨a',c,hh,eg⟩:=eg;rcases e2 with⟨rfl,a1,h1⟩|⟨b,cap,cs,et,h1,h2,h3,h4,h5,h6,h7,h8⟩
  ·rw[h1]at hh
   simp at hh;obtain⟨rfl,rfl⟩:=hh;have fM:us=[]:=by grind
   subst fM;have db:nv=[]:=Ls (by have:=hn.len;grind);subst db;have gy:=zEw (P:=P) (t:=t) (ty:=ty) (w':=w) ht hi hx (by simp) (base:=a1) (n:=0) (cap:=0) (by simp) (by cases a1<;>rfl);refine⟨.slice a1 0 0,w,by grind,G.put d (fun _=>.slice a1 0 0),fin _ w _ ?_ (hm.put rfl d _ (fun _=>rfl)) (by rw[Gh.put_self]) (by simp[R,Gh.put]) (fun s p h=>G.put_other _ p h)⟩;have:=G.put_keep (w:=w) (w':=w) rfl d (fun _=>.slice a1 0 0);exact⟨fun s p h=>this.hd s p (fun n hn=>h n (by simp_all[zBa])),fun s p h=>rfl,fun b o f s p h0 h1 h2=>this.lb b o f s p h0 h1 (fun n hn=>h2 n (by simp_all[zBa])),fun b s p h1 h2=>this.ow b s p h1 (fun n hn=>h2 n (by simp_all[zBa])),this.blk⟩
  ·rw[h1]at hh
   simp at hh;obtain⟨rfl,rfl⟩:=hh;have ux:us.length*k+xs.length*k≤cap*k:=by rw[←Uu];exact K7 _ (by omega)
   have hmk:us.length*k+xs.length*k≤cs.size:=Gm ux h5
   generalize eI:w.setRow b (cs.toList.take (xs.length*k)++nv++cs.toList.drop (xs.length*k+nv.length)).toArray=w'
   have eF:w'.heap[b]? =iz (.cells (cs.toList.take (xs.length*k)++nv++cs.toList.drop (xs.length*k+nv.length)).toArray et (0,0)):=by grind[setRow_heap]
   have gG:∀b',b'≠b→w'.heap[b']? =w.heap[b']?:=by grind[setRow_other]
   have gP:w'.heap.size=w.heap.size:=by grind[size_setRow]
   have hcsl:cs.toList.length=cs.size:=rfl;have pE:=hn.len;have ft:∀i,yS w' b i=if xs.length*k≤i∧i<xs.length*k+us.length*k then nv[i-xs.length*k]? else yS w b i:=by
    intro i;simp only[yS,World.cell?,eF,h2,Q2,G6,if_false];rw[←Kk,←Kk (xs:=cs)];simp only[]
    by_cases g1:i<xs.length*k
    ·rw[if_neg (by omega),Jd,Jx (by simp;omega),Ug g1]
    ·by_cases g2:i<xs.length*k+us.length*k
     ·rw[if_pos ⟨by omega,g2⟩,Jd,Jb (by simp;omega),Jx (by simp;omega)]
      grind
     ·rw[if_neg (by omega),Jd,Jb (by simp;omega),Jb (by simp;omega),Lr]
      congr 1;simp;omega
   have gO:∀b' o fl s p,G.lb b' o=iz (fl,s,p)→(fl,s,p)≠(iB,s0,[])→ ¬(b'=b∧xs.length*k≤o∧o<xs.length*k+us.length*k):=by grind
   have fc:∀b' o,¬(b'=b∧xs.length*k≤o∧o<xs.length*k+us.length*k)→yS w' b' o=yS w b' o:=by
    intro b' o g
    by_cases eR:b'=b
    ·grind
    grind[yS,World.cell?]
   have uq:((cs.toList.take (xs.length*k)++nv++cs.toList.drop (xs.length*k+nv.length)).toArray).size=cs.size:=by simp;omega
   have ey:Blk w w':=by
    intro b' cs' e' g1
    grind
   generalize gm:G.ip d s0 y b xs.length k us f2 (.slice (iz ⟨b,0,iA⟩) (xs.length+us.length) cap)=G'
   have ghdr:G'.hd d []=.slice (iz ⟨b,0,iA⟩) (xs.length+us.length) cap:=by rw[←gm];simp[Gh.ip]
   have ghd1:∀i z,i<xs.length→G'.hd d (z++[i])=G.hd s0 (z++[i]):=fun i z g=>by rw[←gm];simp[Gh.ip,g]
   have ghd2:∀j z,G'.hd d (z++[xs.length+j])=f2 j z:=fun j z=>by rw[←gm];simp[Gh.ip,show¬xs.length+j<xs.length from by omega]
   have ghd0:∀s z,s≠d→G'.hd s z=G.hd s z:=fun s z g=>by rw[←gm];simp[Gh.ip,g]
   have gad0:∀s z,s≠d→G'.ad s z=G.ad s z:=fun s z g=>by rw[←gm];simp[Gh.ip,g]
   have gad1:∀i z,i<xs.length→G'.ad d (z++[i])=G.ad s0 (z++[i]):=fun i z g=>by rw[←gm];simp[Gh.ip,g]
   have gad2:∀j f,(T.agg us).inT (j::f)=iB→G'.ad d (f.reverse++[xs.length+j])=⟨b,xs.length*k+(T.agg us).offT (j::f),iA⟩:=fun j f g=>by rw[←gm];simp[Gh.ip,g,show¬xs.length+j<xs.length from by omega]
   have gad3:∀y' j z,y=iz y'→(T.agg us).inT (j::z.reverse)=iC→G'.ad d (z++[xs.length+j])=G.ad y' (z++[j]):=fun y' j z g1 g2=>by rw[←gm];simp[Gh.ip,g1,g2,show¬xs.length+j<xs.length from by omega]
   have glb2:∀i p,i<us.length*k→zCq us [] xs.length i=iz p→G'.lb b (xs.length*k+i)=iz (iC,d,p):=fun i p g1 g2=>by rw[←gm];simp only[Gh.ip];rw[if_pos (by simp;omega),show xs.length*k+i-xs.length*k=i from by omega,g2]
   have glb0:∀b' o fl s p,G.lb b' o=iz (fl,s,p)→ ¬(b'=b∧xs.length*k≤o∧o<xs.length*k+us.length*k)→zDL s0 y xs.length s p=iA→G'.lb b' o=iz (fl,s,p):=fun b' o fl s p g1 g2 g3=>by rw[←gm];simp only[Gh.ip];rw[if_neg g2,g1];simp[g3]
   have glb1:∀b' o fl s p p',G.lb b' o=iz (fl,s,p)→ ¬(b'=b∧xs.length*k≤o∧o<xs.length*k+us.length*k)→zDL s0 y xs.length s p=iz p'→G'.lb b' o=iz (fl,d,p'):=fun b' o fl s p p' g1 g2 g3=>by rw[←gm];simp only[Gh.ip];rw[if_neg g2,g1];simp[g3]
   have gow0:∀b' s p,G.ow b'=iz (s,p)→zDL s0 y xs.length s p=iA→G'.ow b'=iz (s,p):=fun b' s p g1 g2=>by rw[←gm];simp[Gh.ip,g1,g2]
   have gow1:∀b' s p p',G.ow b'=iz (s,p)→zDL s0 y xs.length s p=iz p'→G'.ow b'=iz (d,p'):=fun b' s p p' g1 g2=>by rw[←gm];simp[Gh.ip,g1,g2]
   have fI:∀p,zDL s0 y xs.length s0 p=iz p:=fun p=>by simp[zDL]
   have mq:∀y' z j,y=iz y'→y'≠s0→zDL s0 y xs.length y' (z++[j])=iz (z++[xs.length+j]):=fun y' z j g1 g2=>by simp[zDL,g1,g2]
   have gf:∀s p,Off (zBa d s0 y) s p→s≠d:=fun s p h e=>absurd (h 0 (by simp[zBa,e])) (by simp)
   have gx:qY (zBa d s0 y) G w G' w':=by
    refine⟨fun s p h=>ghd0 s p (gf s p h),fun s p h=>gad0 s p (gf s p h),fun b' o fl s p _ g1 g2=>?_,fun b' s p g1 g2=>gow0 b' s p g1 (pC s p g2),ey⟩;have hs:s≠s0:=fun e=>g2 1 (by simp[zBa,e])
    have g3:=gO b' o fl s p g1 (by simp[hs]);exact⟨glb0 b' o fl s p g1 g3 (pC s p g2),fc b' o g3⟩
   have bX:=hm.ow b _ h6;have gu:Mem Γ G' w':=by
    refine⟨fun s z=>?_,fun b' o' l hl=>?_,fun b' l hl=>?_,fun b' x' eu=>?_,fun b' g1 g2=>?_,by rw[gP];exact hm.sz,hm.bk.trans ey (by rw[←eI];rfl) (by rw[←eI];rfl)⟩
    ·by_cases g:s=d
     ·subst g
      rcases zIv z with rfl|⟨z',i,rfl⟩
      ·rw[ghdr];rfl
      ·by_cases g1:i<xs.length
       ·rw[ghd1 i z' g1];exact hm.one _ _
       ·have:=ghd2 (i-xs.length) z'
        rw[show xs.length+(i-xs.length)=i from by omega]at this;rw[this];exact hn.one _ _
     ·rw[ghd0 s z g];exact hm.one _ _
    ·have:zCn Γ w b':=by
      rw[←gm]at hl;simp only[Gh.ip]at hl;split at hl
      ·rename_i g;rw[g.1];exact bX
      ·split at hl
       ·rename_i g;exact hm.lb _ _ _ g
       ·cases hl
     exact⟨by rw[gP];exact this.1,this.2⟩
    ·have:zCn Γ w b':=by
      rw[←gm]at hl;simp only[Gh.ip]at hl;split at hl
      ·rename_i g;exact hm.ow _ _ g
      ·cases hl
     exact⟨by rw[gP];exact this.1,this.2⟩
    ·have eR:b'≠b:=by rintro rfl;rw[bX.2.2]at eu;cases eu
     rw[gG b' eR];exact hm.st b' x' eu
    ·have eR:b'≠b:=by
      rintro rfl
      rcases bX.2.1 with g3|g3
      ·omega
      ·exact g2 g3
     rw[gG b' eR];exact hm.fr b' g1 g2
   have bi:vL G' w' d us [] xs.length b (xs.length*k):=by
    refine zGs us [] xs.length b (xs.length*k) hn.tup (fun i x eu f hf=>?_) (fun i p' g1 g2=>glb2 i p' (by omega) g2) (fun i v hv=>?_)
    ·have:=gad2 i f (by simp only[T.inT,eu];exact hf)
     simpa[T.offT,eu]using this
    ·have g1:=hn.vals G' ghd2 i v hv
     have g2:=(Jw.1 g1).1;rw[ft,if_pos (by omega),show xs.length*k+i-xs.length*k=i from by omega];exact g1
   have aU:R Γ.St G' w' d (.sl k (xs++us)) []:=by
    simp only[R];rw[ghdr];refine .inr ⟨b,cap,_,et,by simp,eF,by simp;omega,h4,by omega,gow1 b s0 [] [] h6 (fI []),?_,zJE _ _ _ _ _ (fun i x eu=>?_)⟩
    ·intro o g1 g2
     rw[J5,Uu]at g1;exact glb1 b o iB s0 [] [] (h7 o (by omega) g2) (by omega) (fI [])
    ·rw[Ks]at eu
     simp only[Jf];split at eu
     ·rename_i gE
      obtain⟨g1,g2,g3⟩:=jS xs [] 0 b 0 k i x h8 eu;simp only[Jf]at g1 g3;have bQ:∀b' o fl z,G.lb b' o=iz (fl,s0,z++[i])→G'.lb b' o=iz (fl,d,z++[i])∧yS w' b' o=yS w b' o:=fun b' o fl z g=>by have g4:=gO b' o fl s0 _ g (by simp);exact⟨glb1 b' o fl s0 _ _ g g4 (fI _),fc b' o g4⟩
      refine⟨zGP x [i] [i] b _ (fun z=>ghd1 i z gE) (fun z=>gad1 i z gE) (fun b' o z g=>bQ b' o iC z g) g1,g2,?_⟩;refine zAl (G:=G) (w:=w) (s:=s0) (p:=[i]) ⟨⟨fun z=>ghd1 i z gE,fun z _=>gad1 i z gE,fun b' o f z _ _ g=>bQ b' o f z g,fun b' z _ g=>gow1 b' s0 _ _ g (fI _),ey⟩,fun b' o _ g=>?_,fun b' g=>gow1 b' s0 _ _ g (fI _)⟩ x (xF.mono (by simp) x (uO xs e3 i x eu)) g3;have:=bQ b' o iB [] (by simpa using g);simpa using this
     ·rename_i hge
      obtain⟨j,rfl⟩:∃j,i=xs.length+j:=⟨i-xs.length,by omega⟩;rw[show xs.length+j-xs.length=j from by omega]at eu;have g1:=zCo us [] xs.length b (xs.length*k) j x bi eu;rw[show T.sizes (us.take j)=j*k from by rw[wU _ (fun u hu=>hn.size u (List.mem_of_mem_take hu)),Jz,G8 (by have:=(Jw.1 eu).1;omega)],←Uu]at g1
      refine⟨g1,hn.size x (Lz eu),?_⟩;cases hy:y with
      |none=>exact hn.none hy j x eu G' w' (fun z=>ghd2 j z)
      |some y'=>
       obtain⟨y1,y2,y3,y4⟩:=hn.slot y' hy;obtain⟨_,y5,_⟩:=g9.ent y' _ y3;simp only[R]at y5;rcases y5 with⟨rfl,_⟩|⟨b2,cap2,cs2,et2,_,_,_,_,_,_,_,y6⟩
       ·simp at eu
       ·obtain⟨_,_,y7⟩:=jS us [] 0 b2 0 k j x y6 eu
        simp only[Jf]at y7;refine zKS x [j] [xs.length+j] (zCZ.okTups_get us hn.tup j x eu) ⟨fun z=>by rw[ghd2,y4],fun z g=>gad3 y' j z hy (by simp only[T.inT,eu];exact g),fun b' o fl z _ g=>?_,fun b' z g=>gow1 b' y' _ _ g (mq y' z j hy y2),ey⟩ (xF.mono (by simp) x (uO us hn.clean j x eu)) y7;have g4:=gO b' o fl y' _ g (by simp[y2]);exact⟨glb1 b' o fl y' _ _ g g4 (mq y' z j hy y2),fc b' o g4⟩
   have gA:=run_storeCells_at P b (xs.length*k) et nv 0 cs w h2 (by omega) gr;simp only[G9]at gA;rw[eI]at gA;have gy:=zEw (P:=P) (t:=t) (ty:=ty) (w':=w') ht hi hx (by omega) (base:=iz ⟨b,0,iA⟩) eg (by simp only[hk,uP,Jf];exact gA);refine⟨_,w',by rw[h1];exact gy,G',fin G' w' _ gx gu ghdr aU ghd0⟩
 ·
  have aR:∃a' c,G.hd s0 []=.slice a' xs.length c∧ ∀w2:World,w2.heap=w.heap→(Builtin.firstCells ti.size xs.length (.slice a' xs.length c)).run P w2=.ok (yI G s0 xs [] 0).toArray w2:=by
   rcases e2 with⟨rfl,a1,h1⟩|⟨b,cap,cs,et,h1,h2,h3,h4,h5,h6,h7,h8⟩
   ·exact⟨a1,0,h1,fun w2 _=>by cases a1<;>simp[Builtin.firstCells,loadCells,loadCellsFrom,yI]⟩
   ·refine⟨_,_,h1,fun w2 hw2=>?_⟩
    have hl:=zA5 xs [] 0 b 0 h8;refine run_firstCells_some (P:=P) w2 ti.size xs.length ⟨b,0,iA⟩ _ _ _ ?_ (fun j v hv=>?_)
    ·rw[wR,hk]
     exact wU xs (zBn xs [] 0 b 0 h8).2
    ·have:=zBi xs [] 0 b 0 hl j v hv
     grind[uP,yS,World.cell?]
  obtain⟨a',c,hh,gG⟩:=aR;have fx:yV xs=iB∧(∀x∈xs,x.size=k)∧ ∀i x,xs[i]? =iz x→R Γ.St G w s0 x [i]:=by
   rcases e2 with⟨rfl,a1,h1⟩|⟨b,cap,cs,et,h1,h2,h3,h4,h5,h6,h7,h8⟩
   ·simp[yV]
   ·refine⟨kJ (St:=Γ.St) (k:=k) xs [] 0 b 0 (zA5 xs [] 0 b 0 h8),(zBn xs [] 0 b 0 h8).2,fun i x eu=>?_⟩
    have:=(jS xs [] 0 b 0 k i x h8 eu).2.2
    grind
  have gY:c<xs.length+us.length:=by grind
  have gy:=zJF (P:=P) (t:=t) (ty:=ty) ht hi hz hx gY p6 hb gG;have hge:=grownCap_ge w (xs.length+us.length) c e;have dg:=grownCap_le_maxLen w (xs.length+us.length) c e (by grind[maxLen])
  generalize grownCap w (xs.length+us.length) c e=cap' at gy hge dg
  generalize eI:w.drew.alloc (.cells ((yI G s0 xs [] 0++nv).toArray++Builtin.zeroCells z.cells (cap'-(xs.length+us.length))) e)=w' at gy
  have hwh:w'.heap=w.heap.push (.cells ((yI G s0 xs [] 0++nv).toArray++Builtin.zeroCells z.cells (cap'-(xs.length+us.length))) e):=by rw[←eI];rfl
  have hszxs:T.sizes xs=xs.length*k:=wU xs fx.2.1;obtain⟨g1,g2,g3,g4,g5⟩:=zCZ hm hwh d (xs++us) (fun i=>if i<xs.length then iz (s0,[i])else y.map fun y'=>(y',[i-xs.length])) (zDL s0 y xs.length) (fun i z=>if i<xs.length then G.hd s0 (z++[i])else f2 (i-xs.length) z) (.slice (iz ⟨w.heap.size,0,iA⟩) (xs.length+us.length) cap') ((zBa d s0 y).tail)
   (zDz xs us fx.1 hn.tup) (fun i z=>by split;exact hm.one _ _;exact hn.one _ _) rfl
   (fun i u x q z' hu hs=>by
    split at hs
    ·simp at hs;obtain⟨rfl,rfl⟩:=hs;simp[zDL]
    ·rename_i cc
     cases y with
     |none=>simp at hs
     |some y'=>
      simp at hs;obtain⟨rfl,rfl⟩:=hs;have:=(hn.slot y' rfl).2.1;simp[zDL,this,show xs.length+(i-xs.length)=i from by omega])
   (fun i u x q hu hs=>by
    rw[Ks]at hu;split at hs
    ·rename_i gE
     rw[if_pos gE]at hu;simp at hs;obtain⟨rfl,rfl⟩:=hs
     grind[uO]
    ·rename_i cc
     rw[if_neg cc]at hu;cases hy:y with
     |none=>grind
     |some y'=>
      rw[hy]at hs;simp at hs;obtain⟨rfl,rfl⟩:=hs;obtain⟨y1,y2,y3,y4⟩:=hn.slot y' hy;obtain⟨_,y5,_⟩:=g9.ent y' _ y3;simp only[R]at y5;refine⟨by grind,?_,uO us hn.clean _ u hu,y1⟩;rcases y5 with⟨rfl,_⟩|⟨b2,cap2,cs2,et2,_,_,_,_,_,_,_,y6⟩
      ·simp at hu
      ·have:=(jS us [] 0 b2 0 k _ u y6 hu).2.2
       grind)
   (fun i u hu hs G2 w2 fe=>by
    rw[Ks]at hu;split at hs
    ·cases hs
    ·rename_i cc
     rw[if_neg cc]at hu;cases hy:y with
     |some y'=>grind
     |none=>
      have:=hn.none hy (i-xs.length) u hu G2 w2 (fun z'=>by rw[show xs.length+(i-xs.length)=i from by omega,fe,if_neg cc])
      rwa [show xs.length+(i-xs.length)=i from by omega]at this)
   (fun G2 fe o v hv=>by
    rw[zEu,Jf]at hv;have h1:yI G2 d xs [] 0=yI G s0 xs [] 0:=zLa xs [] 0 (by grind);rw[h1]at hv;have bQ:(yI G s0 xs [] 0).length=xs.length*k:=by grind[wR]
    have aC:(yI G2 d us [] xs.length).length=us.length*k:=by grind[wR]
    have ho:o<xs.length*k+us.length*k:=by grind
    have pE:=hn.len;rw[Array.getElem?_append_left (by simp;omega),List.getElem?_toArray];rw[Ks]at hv ⊢
    split at hv
    ·grind
    ·rename_i cc;rw[if_neg cc]
     exact hn.vals G2 (fun j z'=>by rw[fe,if_neg (by omega),show xs.length+j-xs.length=j from by omega]) _ v hv)
   (fun s p h=>pC s p (by simpa[zBa]using h)) (ho:=by rw[←eI];rfl) (hq:=by rw[←eI];rfl)
  refine⟨_,w',by rw[hh];exact gy,_,fin _ w' _ (by simpa[zBa]using g1) g2 (by simp[Gh.nb]) ?_ (by grind[Gh.nb])⟩;simp only[R];refine .inr ⟨w.heap.size,cap',_,e,by simp[Gh.nb],g5,by grind,dg,?_,by simp[Gh.nb],?_,zRI _ _ _ _ _ (fun x eu=>?_) g3 g4⟩
  ·have bQ:(yI G s0 xs [] 0).length=xs.length*k:=by grind[wR]
   have pE:=hn.len;simp only[Array.size_append,Jbx,J5,size_zeroCells,ff,bQ,pE,←Uu]
   grind
  ·intro o ho _
   rw[J5,Uu]at ho;simp[Gh.nb,zDH (xs++us) [] 0 o (by grind[zEv])]
  ·rcases Jh.1 eu with h|h
   ·grind
   ·exact hn.size x h
end
end Go.Ab

namespace Go.Ab
open Go
mutual
def T.flat:T→Bool
 |.lit _|.ro _=>iB
 |.agg xs=>zA6 xs
 |.any|.same _ _|.addr _ _|.sub _ _ _ _ _|.sl _ _|.ptr _|.tup _=>iC
def zA6:List T→Bool
 | []=>iB
 |x::xs=>x.flat&&zA6 xs
end
section
variable {St:Stb}{G G2:Gh}{w w2:World}{s d:Nat}
mutual
theorem zJG:(t:T)→ ∀(p p':List Nat),t.flat=iB→(∀z,G2.hd d (z++p')=G.hd s (z++p))→R St G w s t p→R St G2 w2 d t p'
 |.lit _,p,p',_,h,hr=>by have:=h [];grind[R]
 |.ro _,p,p',_,h,hr=>by have:=h [];grind[R]
 |.agg xs,p,p',hf,h,hr=>by simp only[R,T.flat]at hr hf ⊢;exact zOF xs p p' 0 hf h hr
 |.any,_,_,hf,_,_|.same _ _,_,_,hf,_,_|.addr _ _,_,_,hf,_,_|.sub _ _ _ _ _,_,_,hf,_,_|.sl _ _,_,_,hf,_,_|.ptr _,_,_,hf,_,_|.tup _,_,_,hf,_,_=>by grind[T.flat]
theorem zOF:(xs:List T)→ ∀(p p':List Nat)(j:Nat),zA6 xs=iB→(∀z,G2.hd d (z++p')=G.hd s (z++p))→RF St G w s xs p j→RF St G2 w2 d xs p' j
 | [],_,_,_,_,_,_=>by grind[RF]
 |x::xs,p,p',j,hf,h,hr=>by
  simp only[RF,zA6,J4]at hr hf ⊢
  exact⟨zJG x (j::p) (j::p') hf.1 (fun z=>by have:=h (z++[j]);grind) hr.1,zOF xs p p' (j+1) hf.2 h hr.2⟩
end
end
mutual
theorem zGS:(t:T)→t.flat=iB→yD t∧t.okTup=iB
 |.lit _,_|.ro _,_=>by simp[yD,xF,T.okTup]
 |.agg xs,h=>by simp only[T.flat]at h;simpa only[yD,xF,T.okTup]using kQ xs h
 |.any,h|.same _ _,h|.addr _ _,h|.sub _ _ _ _ _,h|.sl _ _,h|.ptr _,h|.tup _,h=>by grind[T.flat]
theorem kQ:(xs:List T)→zA6 xs=iB→xX xs∧yV xs=iB
 | [],_=>by simp[xX,wC,yV]
 |x::xs,h=>by simp only[zA6,J4]at h;simp only[xX,wC,yV,J4];exact⟨⟨(zGS x h.1).1,(kQ xs h.2).1⟩,(zGS x h.1).2,(kQ xs h.2).2⟩
end
theorem zIJ:(xs:List T)→zA6 xs=iB→ ∀(i:Nat)(x:T),xs[i]? =iz x→x.flat=iB
 | [],_,_,_,h=>by simp at h
 |y::ys,hk,i,x,h=>by
  simp only[zA6,J4]at hk;cases i with
  |zero=>grind
  |succ i=>exact zIJ ys hk.2 i x (by grind)
mutual
def zFi:T→Bool
 |.lit _=>iB
 |.sl _ xs=>zBo xs
 |.agg xs=>zBo xs
 |.ptr t=>zFi t
 |.any|.ro _|.same _ _|.addr _ _|.sub _ _ _ _ _|.tup _=>iC
def zBo:List T→Bool
 | []=>iB
 |x::xs=>zFi x&&zBo xs
end
theorem zLb:(ys:List T)→zBo ys=iB→ ∀u∈ys,∀xs,u≠.tup xs
 | [],_,_,h,_=>by simp at h
 |y::ys,hr,u,h,xs=>by
  simp only[zBo,J4]at hr;rcases Jc.1 h with rfl|h
  ·rintro rfl;grind[zFi]
  ·exact zLb ys hr.2 u h xs
theorem zFS:(ys:List T)→(roT.roTs ys).length=ys.length
 | []=>rfl
 |y::ys=>by simp[roT.roTs,zFS ys]
theorem zGT{k:Nat}:(ys:List T)→(∀u∈ys,u.size=k)→(∀u∈ys,∀xs,u≠.tup xs)→ ∀u∈roT.roTs ys,u.size=k
 | [],_,_,u,h=>by grind[roT.roTs]
 |y::ys,h1,h2,u,h=>by
  simp only[roT.roTs,Jc]at h;rcases h with rfl|h
  ·grind[zEr]
  ·exact zGT ys (by grind) (by grind) u h
theorem zLc:(ys:List T)→ ∀(j:Nat)(u:T),(roT.roTs ys)[j]? =iz u→ ∃u0,ys[j]? =iz u0∧u=roT u0
 | [],_,_,h=>by grind[roT.roTs]
 |y::ys,j,u,h=>by
  cases j with
  |zero=>grind[roT.roTs]
  |succ j=>
   obtain⟨u0,h1,h2⟩:=zLc ys j u (by grind[roT.roTs])
   grind
theorem zOG{St:Stb}{G2:Gh}{d:Nat}:(ys:List T)→ ∀(cs':Array Value)(o' k n:Nat),RoL St ys cs' o' k→(∀u∈ys,u.size=k)→(∀j u,ys[j]? =iz u→ ∀z',G2.hd d (z'++[n+j])=jV (zDG u cs' (o'+j*k) z'.reverse))→
  ∀(i:Nat)(v:Value),(yI G2 d (roT.roTs ys) [] n)[i]? =iz v→cs'[o'+i]? =iz v
 | [],_,_,_,_,_,_,_,i,v,hv=>by grind[roT.roTs,yI]
 |y::ys,cs',o',k,n,h,hs,hd,i,v,hv=>by
  simp only[RoL]at h;simp only[roT.roTs,yI]at hv;have eh:∀xs,y≠.tup xs:=by rintro xs rfl;grind[RoC]
  have hnt':∀xs,roT y≠.tup xs:=fun xs e=>by cases y<;>simp[roT]at e
  have hl:(vals G2 d (roT y) [n]).length=k:=by grind[vH,zEr]
  rw[Ks]at hv;split at hv
  ·exact zGF y cs' o' [n] (fun z'=>by simpa using hd 0 y (by simp) z') h.1 i v hv
  ·have:=zOG ys cs' (o'+k) k (n+1) h.2 (by grind) (fun j u hu z'=>by
    have:=hd (j+1) u (by grind) z'
    grind) _ v hv
   grind
mutual
theorem zQe{G:Gh}(hg:∀s z,(G.hd s z).oneCell'=iB){s:Nat}:(t:T)→ ∀(p:List Nat)(v:Value),v∈vals G s t p→v.oneCell'=iB
 |.agg xs,p,v,h=>by simp only[vals]at h;exact zDM hg xs p 0 v h
 |.any,p,v,h|.lit _,p,v,h|.ro _,p,v,h|.same _ _,p,v,h|.addr _ _,p,v,h|.sub _ _ _ _ _,p,v,h|.sl _ _,p,v,h|.ptr _,p,v,h|.tup _,p,v,h=>by grind[vals]
theorem zDM{G:Gh}(hg:∀s z,(G.hd s z).oneCell'=iB){s:Nat}:(xs:List T)→ ∀(p:List Nat)(j:Nat)(v:Value),v∈yI G s xs p j→v.oneCell'=iB
 | [],_,_,_,h=>by grind[yI]
 |x::xs,p,j,v,h=>by
  simp only[yI,Jh]at h;rcases h with h|h
  ·exact zQe hg x _ v h
  ·exact zDM hg xs p _ v h
end
theorem zCu{G G2:Gh}{s d:Nat}:(us:List T)→ ∀(n j:Nat),(∀i z,G2.hd d (z++[n+i])=G.hd s (z++[j+i]))→yI G2 d us [] n=yI G s us [] j
 | [],_,_,_=>by rfl
 |x::xs,n,j,h=>by
  have ih:yI G2 d xs [] (n+1)=yI G s xs [] (j+1):=zCu xs (n+1) (j+1) (fun i z=>by rw[show n+1+i=n+(i+1)from by omega,show j+1+i=j+(i+1)from by omega];simp_all)
  simp only[yI];rw[ih,zAM x [j] [n] (by simpa using h 0)]
theorem zEx{G G2:Gh}{s d:Nat}:(us:List T)→ ∀(n j:Nat)(q:List Nat),(∀i z,G2.hd d (z++[n+i])=G.hd s (z++((j+i)::q)))→yI G2 d us [] n=yI G s us q j
 | [],_,_,_,_=>by rfl
 |x::xs,n,j,q,h=>by
  have ih:yI G2 d xs [] (n+1)=yI G s xs q (j+1):=zEx xs (n+1) (j+1) q (fun i z=>by rw[show n+1+i=n+(i+1)from by omega,show j+1+i=j+(i+1)from by omega];simp_all)
  simp only[yI];rw[ih,zAM x (j::q) [n] (by simpa using h 0)]
section
variable {P:Program}{Γ:Ctx}{E:Env}{o:Oper}{d:Nat}
theorem zOH{St:Stb}{G:Gh}{w:World}{r:Nat}{q:List Nat}{k:Nat}{us:List T}(h:R St G w r (.sl k us) q){size:Nat}(hk:size=k):
  ∃xa c,G.hd r q=.slice xa us.length c∧ ∀w2:World,w2.heap=w.heap→(Builtin.firstCells size us.length (.slice xa us.length c)).run P w2=.ok (yI G r us q 0).toArray w2:=by
 simp only[R]at h;rcases h with⟨rfl,a1,h1⟩|⟨b,cap,cs,et,h1,h2,h3,h4,h5,h6,h7,h8⟩
 ·exact⟨a1,0,h1,fun w2 _=>by cases a1<;>simp[Builtin.firstCells,loadCells,loadCellsFrom,yI]⟩
 ·refine⟨_,_,h1,fun w2 hw2=>?_⟩
  have hl:=zA5 us q 0 b 0 h8;refine run_firstCells_some (P:=P) w2 size us.length ⟨b,0,iA⟩ _ _ _ ?_ (fun j v hv=>?_)
  ·rw[wR,hk]
   exact wU us (zBn us q 0 b 0 h8).2
  ·have:=zBi us q 0 b 0 hl j v hv
   grind[uP,yS,World.cell?]
theorem zBp{G:Gh}{a:Act}{w:World}(g9:Rep Γ E G a.tmps w){s:Nat}{t:T}(h:E s=iz t)(ht:t.single=iB):a.eval (.tmp s)=G.hd s []:=by rw[wH (g9.ent s t h).1,xV ht]
theorem zJH(t e:TypeId)(ti:TypeInfo)(z:Value)(k s0 y:Nat)(xs us:List T)(ho:o.op=.call { callee:=.builtin .append,args:=#[.tmp s0,.tmp y],argTypes:=#[t,t] })(gg:o.dst=iz d)(hd:d<Γ.N)
  (ht:P.underlying t=iz (.slice e))(hi:P.info? e=iz ti)(hz:ti.zero=iz z)(hk:ti.size=k)(f7:0<k)(ff:z.cells.size=k)(hb:ti.bytes≤2048)
  (eB:E s0=iz (.sl k xs))(hy:E y=iz (.sl k us))(fD:s0≠d)(hyd:y≠d)(hys:y≠s0)(p6:xs.length+us.length≤68719476736):
  wK P Γ o E (E.app (aWr d s0 (iz y) k (xs++us)) (zBa d s0 (iz y))):=by
 refine wK.value gg fun a w G g9=>?_
 obtain⟨_,y2,y3⟩:=g9.ent y _ hy;simp only[Top]at y3;obtain⟨xa,c,h1,h2⟩:=zOH (P:=P) y2 hk;have fM:yV us=iB∧ ∀u∈us,u.size=k:=by
  simp only[R]at y2;rcases y2 with⟨rfl,_⟩|⟨b,cap,cs,et,_,_,_,_,_,_,_,h8⟩
  ·simp[yV]
  ·exact⟨kJ (St:=Γ.St) (k:=k) us [] 0 b 0 (zA5 us [] 0 b 0 h8),(zBn us [] 0 b 0 h8).2⟩
 have hn:zGR Γ E G d s0 (iz y) k xs.length us (fun j z'=>G.hd y (z'++[j])) (yI G y us [] 0):=
  ⟨fM.2,fM.1,y3,fun j z'=>g9.mem.one _ _,by grind[wR,wU],fun y' hy'=>by simp_all,fun h=>by simp at h,
   fun G2 fe o v hv=>by rw[←zCu us xs.length 0 (fun i z'=>by rw[fe,Jf])];exact hv⟩
 obtain⟨v,w',gy,G',gm⟩:=zBF (P:=P) (ty:=o.type) g9 hd ht hi hz hk f7 ff hb eB fD hn (xv:=a.eval (.tmp y)) ⟨.inl ⟨e,xa,c,ht,by rw[zBp g9 hy rfl,h1],h2⟩⟩ (fun v hv=>zDb g9.mem us [] 0 v hv) p6;refine⟨v,w',?_,G',gm⟩;rw[←zBp g9 eB rfl]at gy;simp[execOp,ho,resolve,invoke,builtin,gy]
theorem zJI(t e:TypeId)(ti:TypeInfo)(z:Value)(k s0:Nat)(y:Operand)(r:Nat)(q:List Nat)(xs us:List T)(ho:o.op=.call { callee:=.builtin .append,args:=#[.tmp s0,y],argTypes:=#[t,t] })(gg:o.dst=iz d)(hd:d<Γ.N)
  (ht:P.underlying t=iz (.slice e))(hi:P.info? e=iz ti)(hz:ti.zero=iz z)(hk:ti.size=k)(f7:0<k)(ff:z.cells.size=k)(hb:ti.bytes≤2048)
  (eB:E s0=iz (.sl k xs))(hy:tS E y=iz (r,q,.sl k us))(hf:zA6 us=iB)(fD:s0≠d)(p6:xs.length+us.length≤68719476736):
  wK P Γ o E (E.app (aWr d s0 iA k (xs++us)) (zBa d s0 iA)):=by
 refine wK.value gg fun a w G g9=>?_
 obtain⟨y2,y1⟩:=jI g9 hy rfl;obtain⟨xa,c,h1,h2⟩:=zOH (P:=P) y2 hk;have fM:(∀u∈us,u.size=k)∧ ∀j u,us[j]? =iz u→R Γ.St G w r u (j::q):=by
  simp only[R]at y2;rcases y2 with⟨rfl,_⟩|⟨b,cap,cs,et,_,_,_,_,_,_,_,h8⟩
  ·simp
  ·refine⟨(zBn us q 0 b 0 h8).2,fun j u hu=>?_⟩
   have:=(jS us q 0 b 0 k j u h8 hu).2.2
   grind
 have gC:=kQ us hf;have hn:zGR Γ E G d s0 iA k xs.length us (fun j z'=>G.hd r (z'++(j::q))) (yI G r us q 0):=
  ⟨fM.1,gC.2,gC.1,fun j z'=>g9.mem.one _ _,by grind[wR,wU],by simp,
   by grind[zJG,zIJ],
   fun G2 fe o v hv=>by rw[←zEx us xs.length 0 q (fun i z'=>by rw[fe,Jf])];exact hv⟩
 obtain⟨v,w',gy,G',gm⟩:=zBF (P:=P) (ty:=o.type) g9 hd ht hi hz hk f7 ff hb eB fD hn (xv:=a.eval y) ⟨.inl ⟨e,xa,c,ht,by rw[y1,h1],h2⟩⟩ (fun v hv=>zDb g9.mem us q 0 v hv) p6;refine⟨v,w',?_,G',gm⟩;rw[←zBp g9 eB rfl]at gy;simp[execOp,ho,resolve,invoke,builtin,gy]
mutual
theorem zRN:(u:T)→zFi u=iB→(roT u).flat=iB
 |.agg xs,h=>by simp only[zFi]at h;simp only[roT,T.flat];exact zFj xs h
 |.lit _,_|.sl _ _,_|.ptr _,_=>by rfl
 |.any,h|.ro _,h|.same _ _,h|.addr _ _,h|.sub _ _ _ _ _,h|.tup _,h=>by grind[zFi]
theorem zFj:(xs:List T)→zBo xs=iB→zA6 (roT.roTs xs)=iB
 | [],_=>by rfl
 |x::xs,h=>by simp only[zBo,J4]at h;simp only[roT.roTs,zA6,J4];exact⟨zRN x h.1,zFj xs h.2⟩
end
theorem zJJ(t e:TypeId)(ti:TypeInfo)(z:Value)(k s0:Nat)(y:Operand)(r:Nat)(q:List Nat)(xs ys:List T)(ho:o.op=.call { callee:=.builtin .append,args:=#[.tmp s0,y],argTypes:=#[t,t] })(gg:o.dst=iz d)(hd:d<Γ.N)
  (ht:P.underlying t=iz (.slice e))(hi:P.info? e=iz ti)(hz:ti.zero=iz z)(hk:ti.size=k)(f7:0<k)(ff:z.cells.size=k)(hb:ti.bytes≤2048)
  (eB:E s0=iz (.sl k xs))(hy:tS E y=iz (r,q,.ro (.sl k ys)))(hro:zBo ys=iB)(hys:∀u∈ys,u.size=k)(fD:s0≠d)(p6:xs.length+ys.length≤68719476736):
  wK P Γ o E (E.app (aWr d s0 iA k (xs++roT.roTs ys)) (zBa d s0 iA)):=by
 refine wK.value gg fun a w G g9=>?_
 obtain⟨y2,y1⟩:=jI g9 hy rfl;obtain⟨xa,c,h1,h2,h3,h4⟩:=zCX y2;have hf:=zFj ys hro;have gC:=kQ _ hf;have gj:(roT.roTs ys).length=ys.length:=zFS ys;have gw:∀u∈roT.roTs ys,u.size=k:=zGT ys hys (by grind[zLb]);obtain⟨cs',o',h5,h6⟩:∃(cs':Array Value)(o':Nat),RoL Γ.St ys cs' o' k∧(ys≠[]→ ∃b et fr,xa=iz ⟨b,o',iA⟩∧Γ.St b=iz (.cells cs' et fr)):=by
  by_cases gf:ys=[]
  ·subst gf;exact⟨#[],0,by simp[RoL],fun h=>absurd rfl h⟩
  grind
 let f2:Nat→List Nat→Value:=fun j z'=>match ys[j]? with
  |some u=>jV (zDG u cs' (o'+j*k) z'.reverse)
  |none=>.bool iC
 have hf2:∀j u,ys[j]? =iz u→ ∀z',f2 j z'=jV (zDG u cs' (o'+j*k) z'.reverse):=by grind
 let G0:Gh:={ G with hd:=fun s z'=>if s=d then(match z'.getLast? with
  |some j=>f2 j z'.dropLast
  |none=>.bool iC)else G.hd s z' }
 have hG0:∀j z',G0.hd d (z'++[j])=f2 j z':=by grind
 have pe:∀(G2:Gh)(n:Nat),(∀j z',G2.hd d (z'++[n+j])=f2 j z')→ ∀(i:Nat)(v:Value),(yI G2 d (roT.roTs ys) [] n)[i]? =iz v→cs'[o'+i]? =iz v:=by grind[zOG]
 have hload:∀w2:World,w2.heap=w.heap→(Builtin.firstCells ti.size ys.length (.slice xa ys.length c)).run P w2=.ok (yI G0 d (roT.roTs ys) [] 0).toArray w2:=by
  intro w2 hw2
  by_cases gf:ys=[]
  ·subst gf
   cases xa<;>simp[Builtin.firstCells,loadCells,loadCellsFrom,roT.roTs,yI]
  ·obtain⟨b,et,fr,rfl,h7⟩:=h6 gf
   refine run_firstCells_some (P:=P) w2 ti.size ys.length ⟨b,o',iA⟩ _ _ _ ?_ (fun j v hv=>?_)
   ·grind[wR,wU]
   ·have:=pe G0 0 (fun j z'=>by rw[Jf];grind) j v hv
    rw[uP];have h8:=g9.mem.st b _ h7
    grind[World.cell?]
 have mr:∀j z',(f2 j z').oneCell'=iB:=fun j z'=>by
  dsimp only[f2];split
  ·exact zBj _
  ·rfl
 have hn:zGR Γ E G d s0 iA k xs.length (roT.roTs ys) f2 (yI G0 d (roT.roTs ys) [] 0):=by
  refine⟨gw,gC.2,gC.1,mr,by grind[wR,wU],by simp,fun _ j u hu G2 w2 fe=>?_,fun G2 fe i v hv=>?_⟩
  ·obtain⟨u0,hu0,rfl⟩:=zLc ys j u hu
   exact zRD u0 cs' (o'+j*k) [xs.length+j] (by grind) (by grind[zGr])
  ·rw[←zCu (roT.roTs ys) xs.length 0 (fun i z'=>by rw[fe,Jf];grind)]
   exact hv
 have ao:∀v∈yI G0 d (roT.roTs ys) [] 0,v.oneCell'=iB:=by
  intro v hv;refine zDM (fun s z'=>?_) _ [] 0 v hv;simp only[G0];split
  ·split
   ·exact mr _ _
   ·rfl
  ·exact g9.mem.one _ _
 have bB:zGQ P t e ti (a.eval y) (roT.roTs ys).length (yI G0 d (roT.roTs ys) [] 0) w:=⟨by grind⟩;obtain⟨v,w',gy,G',gm⟩:=zBF (P:=P) (ty:=o.type) g9 hd ht hi hz hk f7 ff hb eB fD hn bB ao (by omega);refine⟨v,w',?_,G',gm⟩;rw[←zBp g9 eB rfl]at gy;simp[execOp,ho,resolve,invoke,builtin,gy]
end
end Go.Ab

namespace Go.Ab
open Go
theorem zFT:(us:List T)→qJ us=us.flatMap sC
 | []=>rfl
 |u::us=>by simp[qJ,zFT us]
theorem zCv(u:T)(h:u.zOk=iB):∀m,zAo (J0 m u)=iB
 |0=>rfl
 |m+1=>by simp[Jq,zAo,h,zCv u h m]
section
variable {P:Program}{Γ:Ctx}{E:Env}{o:Oper}{d:Nat}
theorem zGU(t t2 e:TypeId)(k2:IntKind)(ti:TypeInfo)(z:Value)(u:T)(k s0:Nat)(y:Operand)(kd:IntKind)(m:Nat)(xs:List T)(ho:o.op=.call { callee:=.builtin .append,args:=#[.tmp s0,y],argTypes:=#[t,t2] })(gg:o.dst=iz d)(hd:d<Γ.N)
  (ht:P.underlying t=iz (.slice e))(mN:P.underlying t2=iz (.int k2))(hi:P.info? e=iz ti)(hz:ti.zero=iz z)(hk:ti.size=k)(f7:0<k)(hb:ti.bytes≤2048)(hu:u.zOk=iB)(hv:sC u=z.cells.toList)(fM:u.size=k)
  (eB:E s0=iz (.sl k xs))(hy:opT E y=iz (.lit (.int kd m)))(fD:s0≠d)(p6:xs.length+m≤68719476736):
  wK P Γ o E (E.app (aWr d s0 iA k (xs++J0 m u)) (zBa d s0 iA)):=by
 refine wK.value gg fun a w G g9=>?_
 have ff:z.cells.size=k:=by rw[←Kv,←hv,vE u hu,fM]
 have hzo:=zCv u hu m;have gC:=zBE _ hzo
 let f2:Nat→List Nat→Value:=fun _ z'=>jV (zhd u z'.reverse)
 have uk:((Builtin.zeroCells z.cells m).toList).length=m*k:=by simp[Builtin.zeroCells,ff]
 have hn:zGR Γ E G d s0 iA k xs.length (J0 m u) f2 (Builtin.zeroCells z.cells m).toList:=by
  refine⟨fun x hx=>by simp at hx;rw[hx.2];exact fM,gC.2,gC.1,fun _ _=>zBj _,by rw[uk];simp,fun y' hy'=>by simp at hy',fun _ j x hx G2 w2 fe=>?_,fun G2 fe i v mi=>?_⟩
  ·rw[Ke]at hx
   split at hx
   ·simp at hx;subst hx;exact zJA u _ hu (fun z'=>fe z')
   ·cases hx
  ·have h1:yI G2 d (J0 m u) [] xs.length=qJ (J0 m u):=zDI _ [] xs.length hzo (fun j x hx z'=>by
    rw[Ke]at hx;split at hx
    ·simp at hx;subst hx;exact fe j z'
    ·cases hx)
   rw[h1,zFT]at mi;obtain⟨h2,h3⟩:=zJB sC u k (by rw[vE u hu,fM]) f7 m i v mi;rw[hv,Kk,←ff]at h3;have h4:i<m*z.cells.size:=by rw[ff];exact h2
   simp[Builtin.zeroCells,h4,getElem!_def,h3]
 have gr:∀v∈(Builtin.zeroCells z.cells m).toList,v.oneCell'=iB:=by
  intro v mi;simp only[Builtin.zeroCells,Array.toList_map,Array.toList_range,Jt,Kh]at mi;obtain⟨i,cD,rfl⟩:=mi;have h1:i%z.cells.size<z.cells.size:=Gd _ (by omega);have h2:z.cells[i%z.cells.size]! =z.cells[i%z.cells.size]:=by simp[h1]
  rw[h2];exact zFg u hu _ (by rw[hv];exact Array.mem_toList_iff.2 (Array.getElem_mem h1))
 have bB:zGQ P t2 e ti (a.eval y) (J0 m u).length (Builtin.zeroCells z.cells m).toList w:=by
  refine⟨.inr ⟨k2,kd,z,mN,?_,hz,by simp,?_,by rw[ff,hk]⟩⟩
  ·rw[(wL g9 hy).1];simp
  ·simp only[J8]
   exact Gm (K1 (show m≤68719476736 by omega) hb) (by decide)
 obtain⟨v,w',gy,G',gm⟩:=zBF (P:=P) (ty:=o.type) g9 hd ht hi hz hk f7 ff hb eB fD hn bB gr (by simpa using p6);refine⟨v,w',?_,G',gm⟩;rw[←zBp g9 eB rfl]at gy;simp[execOp,ho,resolve,invoke,builtin,gy]
end
end Go.Ab

namespace Go.Ab
open Go
def zLd(G:Gh)(nd:List (Nat×List Nat×T)):Value:=
 match nd with
 | [x]=>sV G x.1 x.2.2 x.2.1
 |nd=>.tuple (nd.map fun x=>sV G x.1 x.2.2 x.2.1).toArray
def FnC(P:Program)(f:FuncId)(us:List T)(res:List T)(rws:List (Nat×T)):Prop:=
 ∀(St:Stb)(W:Nat→Prop)(w:World)(G:Gh)(vs:Array Value),vs.size=us.length→
  (∀(i:Nat) u,us[i]? =iz u→vs[i]? =iz (mkV G i u [])∧R St G w i u [])→Mem ⟨St,W,w,0⟩ G w→
  Calls P f vs w fun e w'=> ∃(S':Stb)(G':Gh)(nd:List (Nat×List Nat×T)),zDs St S' W w.heap.size∧e=.returned (zLd G' nd)∧Mem ⟨S',W,w,0⟩ G' w'∧nd.map (·.2.2)=res∧
   (∀x∈nd,R S' G' w' x.1 x.2.2 x.2.1∧us.length≤x.1)∧(nd.map (·.1)).Nodup∧
   ∀i u',(i,u')∈rws→R S' G' w' i u' []∧ ∃u,us[i]? =iz u∧mkV G' i u' []=mkV G i u []
mutual
def wZ:T→Bool
 |.ro _=>iC
 |.sl _ xs|.agg xs|.tup xs=>uL xs
 |.ptr t=>wZ t
 |.any|.lit _|.same _ _|.addr _ _|.sub _ _ _ _ _=>iB
def uL:List T→Bool
 | []=>iB
 |x::xs=>wZ x&&uL xs
end
section
variable {St St':Stb}{G:Gh}{w:World}{s:Nat}
mutual
theorem zQf:(t:T)→ ∀(p:List Nat),wZ t=iB→R St G w s t p→R St' G w s t p
 |.ro _,_,h,_=>by simp[wZ]at h
 |.sl k xs,p,h,hr=>by
  simp only[wZ,R]at h hr ⊢
  rcases hr with hr|⟨b,cap,cs,e,h1,h2,h3,h4,h5,h6,h7,h8⟩
  ·exact .inl hr
  ·exact .inr ⟨b,cap,cs,e,h1,h2,h3,h4,h5,h6,h7,zWA xs p 0 b 0 k h h8⟩
 |.agg xs,p,h,hr|.tup xs,p,h,hr=>by simp only[wZ,R]at h hr ⊢;exact zWB xs p 0 h hr
 |.ptr t,p,h,hr=>by
  simp only[wZ,R]at h hr ⊢
  obtain⟨b,cs,e,h1,h2,h3,h6,h4,h5⟩:=hr;exact⟨b,cs,e,h1,h2,h3,h6,h4,zQf t _ h h5⟩
 |.any,_,_,hr|.lit _,_,_,hr|.same _ _,_,_,hr|.addr _ _,_,_,hr|.sub _ _ _ _ _,_,_,hr=>by first|(simp only[R];done)|simpa only[R]using hr
theorem zWA:(xs:List T)→ ∀(p:List Nat)(i b o k:Nat),uL xs=iB→RL St G w s xs p i b o k→RL St' G w s xs p i b o k
 | [],_,_,_,_,_,_,_=>by simp only[RL]
 |x::xs,p,i,b,o,k,h,hr=>by
  simp only[uL,J4,RL]at h hr ⊢
  exact⟨hr.1,zQf x _ h.1 hr.2.1,zWA xs p (i+1) b _ k h.2 hr.2.2⟩
theorem zWB:(xs:List T)→ ∀(p:List Nat)(i:Nat),uL xs=iB→RF St G w s xs p i→RF St' G w s xs p i
 | [],_,_,_,_=>by simp only[RF]
 |x::xs,p,i,h,hr=>by
  simp only[uL,J4,RF]at h hr ⊢
  exact⟨zQf x _ h.1 hr.1,zWB xs p (i+1) h.2 hr.2⟩
end
end
section
variable {St St':Stb} (h:∀b x,St b=iz x→St' b=iz x)
 include h
mutual
theorem sD:(t:T)→ ∀(cs:Array Value)(o:Nat),RoC St t cs o→RoC St' t cs o
 |.sl k xs,cs,o,hr=>by
  simp only[RoC]at hr ⊢
  obtain⟨a,c,h1,h2,h3,h4⟩:=hr;refine⟨a,c,h1,h2,h3,fun gf=>?_⟩;obtain⟨b,o',cs',e,fr,h5,h6,h7⟩:=h4 gf;exact⟨b,o',cs',e,fr,h5,h b _ h6,zLe xs cs' o' k h7⟩
 |.agg xs,cs,o,hr=>by simp only[RoC]at hr ⊢;exact zLf xs cs o hr
 |.ptr t,cs,o,hr=>by
  simp only[RoC]at hr ⊢
  obtain⟨b,o',cs',e,fr,h5,h6,h7⟩:=hr;exact⟨b,o',cs',e,fr,h5,h b _ h6,sD t cs' o' h7⟩
 |.any,_,_,hr|.lit _,_,_,hr|.ro _,_,_,hr|.same _ _,_,_,hr|.addr _ _,_,_,hr|.sub _ _ _ _ _,_,_,hr|.tup _,_,_,hr=>by first|(simp only[RoC]at hr;done)|simpa only[RoC]using hr
theorem zLe:(xs:List T)→ ∀(cs:Array Value)(o k:Nat),RoL St xs cs o k→RoL St' xs cs o k
 | [],_,_,_,_=>by have _:=h;simp only[RoL]
 |x::xs,cs,o,k,hr=>by simp only[RoL]at hr ⊢;exact⟨sD x cs o hr.1,zLe xs cs _ k hr.2⟩
theorem zLf:(xs:List T)→ ∀(cs:Array Value)(o:Nat),RoF St xs cs o→RoF St' xs cs o
 | [],_,_,_=>by have _:=h;simp only[RoF]
 |x::xs,cs,o,hr=>by simp only[RoF]at hr ⊢;exact⟨sD x cs o hr.1,zLf xs cs _ hr.2⟩
end
end
section
variable {St St':Stb}{G:Gh}{w:World}{s:Nat} (h:∀b x,St b=iz x→St' b=iz x)
 include h
mutual
theorem zJK:(t:T)→ ∀(p:List Nat),R St G w s t p→R St' G w s t p
 |.ro t,_,hr=>by simp only[R]at hr ⊢;exact sD h t _ _ hr
 |.sl k xs,p,hr=>by
  simp only[R]at hr ⊢
  rcases hr with hr|⟨b,cap,cs,e,h1,h2,h3,h4,h5,h6,h7,h8⟩
  ·exact .inl hr
  ·exact .inr ⟨b,cap,cs,e,h1,h2,h3,h4,h5,h6,h7,zOI xs p 0 b 0 k h8⟩
 |.agg xs,p,hr|.tup xs,p,hr=>by simp only[R]at hr ⊢;exact zOJ xs p 0 hr
 |.ptr t,p,hr=>by
  simp only[R]at hr ⊢
  obtain⟨b,cs,e,h1,h2,h3,h6,h4,h5⟩:=hr;exact⟨b,cs,e,h1,h2,h3,h6,h4,zJK t _ h5⟩
 |.any,_,hr|.lit _,_,hr|.same _ _,_,hr|.addr _ _,_,hr|.sub _ _ _ _ _,_,hr=>by first|(simp only[R];done)|simpa only[R]using hr
theorem zOI:(xs:List T)→ ∀(p:List Nat)(i b o k:Nat),RL St G w s xs p i b o k→RL St' G w s xs p i b o k
 | [],_,_,_,_,_,_=>by have _:=h;simp only[RL]
 |x::xs,p,i,b,o,k,hr=>by simp only[RL]at hr ⊢;exact⟨hr.1,zJK x _ hr.2.1,zOI xs p (i+1) b _ k hr.2.2⟩
theorem zOJ:(xs:List T)→ ∀(p:List Nat)(i:Nat),RF St G w s xs p i→RF St' G w s xs p i
 | [],_,_,_=>by have _:=h;simp only[RF]
 |x::xs,p,i,hr=>by simp only[RF]at hr ⊢;exact⟨zJK x _ hr.1,zOJ xs p (i+1) hr.2⟩
end
end
mutual
def strip:T→T
 |.lit v=>.lit v
 |.ro u=>if u.single then u else .any
 |.sl k xs=>.sl k (wV xs)
 |.agg xs=>.agg (wV xs)
 |.ptr t=>.ptr (strip t)
 |.any|.same _ _|.addr _ _|.sub _ _ _ _ _|.tup _=>.any
def wV:List T→List T
 | []=>[]
 |x::xs=>strip x::wV xs
end
theorem kK:(xs:List T)→(wV xs).length=xs.length
 | []=>rfl
 |x::xs=>by simp[wV,kK xs]
mutual
theorem zDN:(t:T)→(strip t).size=t.size
 |.agg xs=>by simp only[strip,T.size];exact zFU xs
 |.ro u=>by
  simp only[strip];split
  ·rename_i h;cases u<;>simp[T.single]at h<;>simp[T.size]
  ·simp[T.size]
 |.lit _|.sl _ _|.ptr _|.any|.same _ _|.addr _ _|.sub _ _ _ _ _|.tup _=>by simp[strip,T.size]
theorem zFU:(xs:List T)→T.sizes (wV xs)=T.sizes xs
 | []=>rfl
 |x::xs=>by simp only[wV,T.sizes,zDN x,zFU xs]
end
theorem jD{St:Stb}{u:T}(hu:u.single=iB){v:Value}{cs:Array Value}{o:Nat}(h:RoC St u #[v] 0)(hc:cs[o]? =iz v):RoC St u cs o:=by
 cases u<;>simp[T.single]at hu<;>simp only[RoC]at h ⊢ <;>simp at h<;>first
  |exact⟨v,hc,h⟩
  |(obtain⟨rfl,h2⟩:=h;exact⟨hc,h2⟩)
  |(obtain⟨a,c,rfl,h2⟩:=h;exact⟨a,c,hc,by simpa using h2⟩)
  |(obtain⟨b,o',rfl,h2⟩:=h;obtain⟨cs',⟨e,f1,f2,h3⟩,h4⟩:=h2;exact⟨b,o',cs',e,(f1,f2),hc,h3,h4⟩)
section
variable {St Sc:Stb}{G:Gh}{w:World}{s:Nat} (gr:∀s p,(G.hd s p).oneCell'=iB) (er:∀b x,St b=iz x→Sc b=iz x) (eC:∀b,(∃y,G.ow b=iz (s,y))→Sc b=w.heap[b]?)
 include gr er eC
mutual
theorem frz:(t:T)→ ∀(p:List Nat)(b o:Nat)(cs:Array Value)(e:TypeId)(fr:Nat×Nat),w.heap[b]? =iz (.cells cs e fr)→Loc G w s t p b o→R St G w s t p→RoC Sc (strip t) cs o
 |.agg xs,p,b,o,cs,e,fr,hb,hl,hr=>by simp only[Loc,R,strip,RoC]at hl hr ⊢;exact zZf xs p 0 b o cs e fr hb hl.2 hr
 |.tup _,_,_,_,_,_,_,_,hl,_=>by have _:=eC;simp only[Loc]at hl
 |.any,p,b,o,cs,e,fr,hb,hl,hr|.same _ _,p,b,o,cs,e,fr,hb,hl,hr|.addr _ _,p,b,o,cs,e,fr,hb,hl,hr|.sub _ _ _ _ _,p,b,o,cs,e,fr,hb,hl,hr=>by have h1:=(vD rfl hl).2.2;simp only[yS,World.cell?,hb]at h1;simp only[strip,RoC];exact⟨_,by simpa using h1,gr s p⟩
 |.lit v,p,b,o,cs,e,fr,hb,hl,hr=>by
  have h1:=(vD rfl hl).2.2;simp only[yS,World.cell?,hb]at h1;simp only[strip,RoC,R]at hr ⊢
  exact⟨by rw[←hr];simpa using h1,by rw[←hr];exact gr s p⟩
 |.ro u,p,b,o,cs,e,fr,hb,hl,hr=>by
  have h1:=(vD rfl hl).2.2;simp only[yS,World.cell?,hb]at h1;simp only[strip,R]at hr ⊢
  split
  ·rename_i hu
   exact jD hu (sD er u _ _ hr) (by simpa using h1)
  ·simp only[RoC];exact⟨_,by simpa using h1,gr s p⟩
 |.sl k xs,p,b,o,cs,e,fr,hb,hl,hr=>by have h1:=(vD rfl hl).2.2;simp only[yS,World.cell?,hb]at h1;exact jD rfl (zLg (.sl k xs) p rfl hr) (by simpa using h1)
 |.ptr t,p,b,o,cs,e,fr,hb,hl,hr=>by have h1:=(vD rfl hl).2.2;simp only[yS,World.cell?,hb]at h1;exact jD rfl (zLg (.ptr t) p rfl hr) (by simpa using h1)
theorem zZf:(xs:List T)→ ∀(p:List Nat)(j b o:Nat)(cs:Array Value)(e:TypeId)(fr:Nat×Nat),w.heap[b]? =iz (.cells cs e fr)→vL G w s xs p j b o→RF St G w s xs p j→RoF Sc (wV xs) cs o
 | [],_,_,_,_,_,_,_,_,_,_=>by have _:=gr;have _:=er;have _:=eC;simp only[wV,RoF]
 |x::xs,p,j,b,o,cs,e,fr,hb,hl,hr=>by
  simp only[vL,RF,wV,RoF]at hl hr ⊢
  exact⟨frz x _ b o cs e fr hb hl.1 hr.1,by rw[zDN];exact zZf xs p (j+1) b _ cs e fr hb hl.2 hr.2⟩
theorem zZg:(xs:List T)→ ∀(p:List Nat)(i b o k:Nat)(cs:Array Value)(e:TypeId)(fr:Nat×Nat),w.heap[b]? =iz (.cells cs e fr)→RL St G w s xs p i b o k→RoL Sc (wV xs) cs o k
 | [],_,_,_,_,_,_,_,_,_,_=>by have _:=gr;have _:=er;have _:=eC;simp only[wV,RoL]
 |x::xs,p,i,b,o,k,cs,e,fr,hb,hr=>by
  simp only[RL,wV,RoL]at hr ⊢
  exact⟨frz x _ b o cs e fr hb hr.1.1 hr.2.1,zZg xs p (i+1) b _ k cs e fr hb hr.2.2⟩
theorem zLg:(t:T)→ ∀(p:List Nat),t.single=iB→R St G w s t p→RoC Sc (strip t) #[G.hd s p] 0
 |.agg _,_,h,_|.tup _,_,h,_=>by simp[T.single]at h
 |.any,p,_,_|.same _ _,p,_,_|.addr _ _,p,_,_|.sub _ _ _ _ _,p,_,_=>by simp only[strip,RoC];exact⟨_,by simp,gr s p⟩
 |.lit v,p,_,hr=>by simp only[strip,RoC,R]at hr ⊢;exact⟨by simp[hr],by rw[←hr];exact gr s p⟩
 |.ro u,p,_,hr=>by
  simp only[strip,R]at hr ⊢
  split
  ·exact sD er u _ _ hr
  ·simp only[RoC];exact⟨_,by simp,gr s p⟩
 |.sl k xs,p,_,hr=>by
  simp only[strip,R,RoC]at hr ⊢
  rw[kK];rcases hr with⟨rfl,a,h1⟩|⟨b,cap,cs,e,h1,h2,h3,h4,h5,h6,h7,h8⟩
  ·exact⟨a,0,by simp[h1],by simp,by simp[maxLen],fun h=>by simp[wV]at h⟩
  ·exact⟨iz ⟨b,0,iA⟩,cap,by simp[h1],h3,h4,fun _=>⟨b,0,cs,e,(0,0),rfl,by rw[eC b ⟨_,h6⟩];exact h2,zZg xs p 0 b 0 k cs e (0,0) h2 h8⟩⟩
 |.ptr t,p,_,hr=>by
  simp only[strip,R,RoC]at hr ⊢
  obtain⟨b,cs,e,h1,h2,h3,h6,h4,h5⟩:=hr;exact⟨b,0,cs,e,(0,0),by simp[h1],by rw[eC b ⟨_,h6⟩];exact h2,frz t _ b 0 cs e (0,0) h2 h4 h5⟩
end
end
end Go.Ab

namespace Go.Ab
open Go
mutual
def clo(E:Env):T→T
 |.agg ts=>.agg (zBq E ts)
 |.lit v=>.lit v
 |.ro u=>.ro u
 |.same r q=>match qZ E 4 r q with
  |some (_,_,.ro u)=>.ro u
  |some (_,_,.lit v)=>.lit v
  |some (_,_,t)=>if t.single then .ro (strip t)else .any
  |none=>.any
 |.sub r q k lo hi=>match qZ E 4 r q with
  |some (_,_,.sl k' xs)=>if k=k'∧lo≤hi∧hi≤xs.length then .ro (.sl k (((wV xs).drop lo).take (hi-lo)))else .any
  |_=>.any
 |.sl k xs=>.ro (strip (.sl k xs))
 |.ptr t=>.ro (strip (.ptr t))
 |.any|.addr _ _|.tup _=>.any
def zBq(E:Env):List T→List T
 | []=>[]
 |x::xs=>clo E x::zBq E xs
end
mutual
def qH(E:Env)(rs:List Nat)(s:Nat):T→Bool
 |.agg ts=>zA7 E rs s ts
 |.same r q|.sub r q _ _ _=>match qZ E 4 r q with
  |some (r',_,_)=> !rs.contains r'
  |none=>iB
 |.sl _ _|.ptr _=> !rs.contains s
 |.lit _|.ro _|.any|.addr _ _=>iB
 |.tup _=>iC
def zA7(E:Env)(rs:List Nat)(s:Nat):List T→Bool
 | []=>iB
 |x::xs=>qH E rs s x&&zA7 E rs s xs
end
theorem zVr{St:Stb}{k:Nat}{xs:List T}{v:Value}{lo hi:Nat}(h:RoC St (.sl k xs) #[v] 0)(h1:lo≤hi)(h2:hi≤xs.length):RoC St (.sl k ((xs.drop lo).take (hi-lo))) #[zBg v k lo hi] 0:=by
 simp only[RoC]at h ⊢
 obtain⟨a',c,g4,g5,g6,g7⟩:=h;have hv:v=.slice a' xs.length c:=by simpa using g4
 subst hv;have gj:((xs.drop lo).take (hi-lo)).length=hi-lo:=by simp;omega
 refine⟨if c=lo then a' else a'.map (·.add (lo*k)),c-lo,by rw[gj];simp[zBg],by omega,by omega,?_⟩;intro gf;have eG:xs≠[]:=by rintro rfl;simp at gf
 obtain⟨b,o',cs',e',fr,rfl,h3,h4⟩:=g7 eG;have gC:c≠lo:=by rintro rfl;apply gf;apply Ls;omega
 exact⟨b,o'+lo*k,cs',e',fr,by simp[gC,uP],h3,zGH _ _ _ _ _ (zGG _ _ _ _ _ h4)⟩
section
variable {Γ:Ctx}{E:Env}{G Gc:Gh}{a:Act}{w:World}{Sc:Stb}{rs:List Nat}{s i:Nat} (g9:Rep Γ E G a.tmps w) (er:∀b x,Γ.St b=iz x→Sc b=iz x) (eC:∀r,r∉rs→ ∀b,(∃y,G.ow b=iz (r,y))→Sc b=w.heap[b]?) (gD:∀z,Gc.hd i z=G.hd s z)
 include g9 er eC gD
mutual
theorem zWC:(t:T)→ ∀(p:List Nat),qH E rs s t=iB→R Γ.St G w s t p→R Sc Gc w i (clo E t) p
 |.agg ts,p,h,hr=>by simp only[qH,clo,R]at h hr ⊢;exact zRO ts p 0 h hr
 |.tup _,_,h,_=>by simp[qH]at h
 |.lit v,p,_,hr=>by simp only[clo,R]at hr ⊢;rw[gD];exact hr
 |.ro u,p,_,hr=>by simp only[clo,R]at hr ⊢;rw[gD];exact sD er u _ _ hr
 |.any,_,_,_|.addr _ _,_,_,_=>by simp only[clo,R]
 |.sl k xs,p,h,hr=>by simp only[qH,Uc,Hh,decide_eq_false_iff_not]at h;have:=zLg (fun s p=>g9.mem.one s p) er (eC s h) (.sl k xs) p rfl hr;simp only[clo,R];rw[gD];exact this
 |.ptr t,p,h,hr=>by simp only[qH,Uc,Hh,decide_eq_false_iff_not]at h;have:=zLg (fun s p=>g9.mem.one s p) er (eC s h) (.ptr t) p rfl hr;simp only[clo,R];rw[gD];exact this
 |.same r q,p,h,hr=>by
  simp only[qH,clo,R]at h hr ⊢
  cases hf:qZ E 4 r q with
  |none=>simp only[R]
  |some x=>
   obtain⟨r',q',t⟩:=x;simp only[hf,Uc,Hh,decide_eq_false_iff_not]at h;obtain⟨h1,h2,_⟩:=zCW g9 4 r q r' q' t hf;have h3:Gc.hd i p=G.hd r' q':=by rw[gD,hr,h2]
   by_cases hs:t.single=iB
   ·have h4:=zLg (fun s p=>g9.mem.one s p) er (eC r' h) t q' hs h1
    cases t with
    |ro u=>simp only[R]at h1 ⊢;rw[h3];exact sD er u _ _ h1
    |lit v=>simp only[R]at h1 ⊢;rw[h3];exact h1
    |agg _=>simp[T.single]at hs
    |tup _=>simp[T.single]at hs
    |_=>simp only[hs,if_true,R];rw[h3];exact h4
   ·cases t<;>simp[T.single]at hs<;>simp[T.single,R]
 |.sub r q k lo hi,p,h,hr=>by
  simp only[qH,clo,R]at h hr ⊢
  cases hf:qZ E 4 r q with
  |none=>simp only[R]
  |some x=>
   obtain⟨r',q',t⟩:=x;simp only[hf,Uc,Hh,decide_eq_false_iff_not]at h;obtain⟨h1,h2,_⟩:=zCW g9 4 r q r' q' t hf;cases t with
   |sl k' xs=>
    simp only[];split
    ·rename_i hc
     obtain⟨rfl,cV,cI⟩:=hc;have h4:=zLg (fun s p=>g9.mem.one s p) er (eC r' h) (.sl k xs) q' rfl h1;simp only[strip]at h4;simp only[R];rw[gD,hr,h2];exact zVr h4 cV (by rw[kK];exact cI)
    ·simp only[R]
   |_=>simp only[R]
theorem zRO:(ts:List T)→ ∀(p:List Nat)(j:Nat),zA7 E rs s ts=iB→RF Γ.St G w s ts p j→RF Sc Gc w i (zBq E ts) p j
 | [],_,_,_,_=>by have _:=g9;have _:=er;have _:=eC;have _:=gD;simp only[zBq,RF]
 |x::xs,p,j,h,hr=>by
  simp only[zA7,J4,zBq,RF]at h hr ⊢
  exact⟨zWC x _ h.1 hr.1,zRO xs p (j+1) h.2 hr.2⟩
end
end
section
variable {E:Env}{G Gc:Gh}{rs:List Nat}{s i:Nat}
theorem zGV(t:T)(h:t.single=iB):(clo E t).single=iB:=by cases t<;>simp[T.single]at h<;>simp only[clo]<;>first|rfl|(split<;>first|rfl|(split<;>rfl))
mutual
theorem zRP(gD:∀z,Gc.hd i z=G.hd s z):(t:T)→ ∀(p:List Nat),qH E rs s t=iB→vals Gc i (clo E t) p=vals G s t p
 |.agg ts,p,h=>by simp only[qH,clo,vals]at h ⊢;exact zFk gD ts p 0 h
 |.tup _,_,h=>by simp[qH]at h
 |.lit _,p,_|.ro _,p,_|.any,p,_|.addr _ _,p,_|.sl _ _,p,_|.ptr _,p,_|.same _ _,p,_|.sub _ _ _ _ _,p,_=>by
  have h1:∀u:T,u.single=iB→vals Gc i u p=[G.hd s p]:=fun u hu=>by cases u<;>simp[T.single]at hu<;>simp[vals,gD]
  rw[h1 _ (zGV _ rfl)];simp[vals]
theorem zFk(gD:∀z,Gc.hd i z=G.hd s z):(ts:List T)→ ∀(p:List Nat)(j:Nat),zA7 E rs s ts=iB→yI Gc i (zBq E ts) p j=yI G s ts p j
 | [],_,_,_=>by simp only[zBq,yI]
 |x::xs,p,j,h=>by simp only[zA7,J4]at h;simp only[zBq,yI];rw[zRP gD x _ h.1,zFk gD xs p _ h.2]
end
theorem zJL(gD:∀z,Gc.hd i z=G.hd s z)(t:T)(h:qH E rs s t=iB):mkV Gc i (clo E t) []=mkV G s t []:=by
 cases t with
 |agg ts=>simp only[qH]at h;simp only[clo,mkV,zFk gD ts [] 0 h]
 |tup _=>simp[qH]at h
 |_=>rw[xV (zGV _ rfl),xV rfl,gD]
end
end Go.Ab
