/- x -/
import Derived.Orders
import Derived.Laws.AppendOwn
import Derived.Laws.MakeOwn
import Derived.Great.BuildSlice
import Derived.Laws.Tables
open List renaming replicate→J1,append_nil→J9,length_append→Ja,getElem?_append_right→Jb,getElem?_eq_some_iff→Je,append_assoc→Jh,mem_map→Jj,map_cons→Jl,getElem?_map→Jn,mem_cons→Jp,nil_append→Ju,replicate_succ→Jv,mem_append→Jw,eq_nil_of_length_eq_zero→Jy,reverse_reverse→K0,length_cons→K2,all_eq_true→K4,getElem?_append_left→K5,length_replicate→K8,cons_append→K9,getElem?_append→Kf,ext_getElem?→Kk,length_take→Kn,nodup_cons→Kr,set_cons_succ→Kt,take_succ_cons→Ky,mem_of_getElem?→Ld,mem_range→Lf,flatMap_cons→Lg,getElem?_drop→Lh,set_cons_zero→Ll,length_set→Ln,contains_eq_mem→Lr,reverse_nil→Ha,reverse_cons→Hb,foldl_cons→Hv,getElem?_take_of_lt→G6,drop_eq_getElem_cons→G8,map_take→Gx,map_nil→U2,length_nil→U5,flatMap_append→Ue,reverse_append→Uy,size_toArray→Qg,take_append→Qn,isEmpty_iff→Qp,cons→Qt,getElem?_cons_succ→Ja6
open Bool renaming and_eq_true→J3,false_eq_true→H2,not_eq_true'→G4,false_and→Qv
open Int renaming toNat_natCast→J6,natCast_mul→Uk
open Nat renaming zero_add→J8,le_refl→Jf,lt_or_ge→Jg,mul_le_mul→K6,mul_le_mul_right→Kj,succ_mul→L5,add_assoc→Lx,min_eq_left→H6,le_trans→Hf,add_mul→Gu,lt_of_lt_of_le→Qd,le_mul_of_pos_right→Qe,add_zero→Qm
open Array renaming getElem?_setIfInBounds→Jc,length_toList→Ka,getD_eq_getD_getElem?→Kd,getElem?_toList→Ki,getElem?_eq_some_iff→Hn,range→Ja4,ext'→Ja8
open Prod renaming mk→Uq
open Option renaming isSome_none→Ur,map_none→Qq
open Option renaming some→iz,none→iA
open Bool renaming true→iB,false→iC
theorem iD{p:Prop}[h:Decidable p](a:¬p):decide p=false:=decide_eq_false a
theorem iE{p:Prop}[h:Decidable p](a:p):decide p=true:=decide_eq_true a
namespace Go.Ab
open Go
inductive T where
 |any
 |lit (v:Value)
 |ro (t:T)
 |same (r:Nat) (p:List Nat)
 |addr (r:Nat) (p:List Nat)
 |sub (r:Nat) (p:List Nat) (k lo hi:Nat)
 |sl (k:Nat) (xs:List T)
 |agg (xs:List T)
 |ptr (t:T)
 |tup (xs:List T)
 deriving Inhabited
abbrev Stb:=Nat→Option Obj
mutual
def T.size:T→Nat
 |.agg xs=>T.sizes xs
 |_=>1
def T.sizes:List T→Nat
 | []=>0
 |x::xs=>x.size+T.sizes xs
end
mutual
def RoC(St:Stb):T→Array Value→Nat→Prop
 |.any,cs,o=> ∃v,cs[o]? =iz v∧v.oneCell'=iB
 |.lit v,cs,o=>cs[o]? =iz v∧v.oneCell'=iB
 |.ro u,cs,o=> ∃f vs,cs[o]? =iz (.func (.func f) #[] vs)∧vs.size+1=u.size∧RoC St u (#[.func (.func f) #[] #[]]++vs) 0
 |.sl k xs,cs,o=> ∃a c,cs[o]? =iz (.slice a xs.length c)∧xs.length≤c∧c≤maxLen∧
   (xs≠[]→ ∃b o' cs' e fr,a=iz ⟨b,o',iA⟩∧St b=iz (.cells cs' e fr)∧RoL St xs cs' o' k)
 |.agg xs,cs,o=>RoF St xs cs o
 |.ptr t,cs,o=> ∃b o' cs' e fr,cs[o]? =iz (.pointer (iz ⟨b,o',iA⟩))∧St b=iz (.cells cs' e fr)∧RoC St t cs' o'
 |.same _ _,_,_=>False
 |.addr _ _,_,_=>False
 |.sub _ _ _ _ _,_,_=>False
 |.tup _,_,_=>False
def RoL(St:Stb):List T→Array Value→Nat→Nat→Prop
 | [],_,_,_=>True
 |x::xs,cs,o,k=>RoC St x cs o∧RoL St xs cs (o+k) k
def RoF(St:Stb):List T→Array Value→Nat→Prop
 | [],_,_=>True
 |x::xs,cs,o=>RoC St x cs o∧RoF St xs cs (o+x.size)
end
structure Gh where
 hd:Nat→List Nat→Value
 ad:Nat→List Nat→Addr
 lb:Nat→Nat→Option (Bool×Nat×List Nat)
 ow:Nat→Option (Nat×List Nat)
def yJ(w:World)(b o:Nat):Option Value:=w.cell? ⟨b,o,iA⟩
mutual
def Loc(G:Gh)(w:World)(s:Nat):T→List Nat→Nat→Nat→Prop
 |.agg xs,p,b,o=>G.ad s p=⟨b,o,iA⟩∧vD G w s xs p 0 b o
 |.tup _,_,_,_=>False
 |.any,p,b,o|.lit _,p,b,o|.ro _,p,b,o|.same _ _,p,b,o|.addr _ _,p,b,o|.sub _ _ _ _ _,p,b,o|.sl _ _,p,b,o|.ptr _,p,b,o=>
  G.ad s p=⟨b,o,iA⟩∧G.lb b o=iz (iC,s,p)∧yJ w b o=iz (G.hd s p)
def vD(G:Gh)(w:World)(s:Nat):List T→List Nat→Nat→Nat→Nat→Prop
 | [],_,_,_,_=>True
 |x::xs,p,j,b,o=>Loc G w s x (j::p) b o∧vD G w s xs p (j+1) b (o+x.size)
end
def zBf(v:Value)(k lo hi:Nat):Value:=
 match v with
 |.slice a _ c=>.slice (if c=lo then a else a.map (·.add (lo*k))) (hi-lo) (c-lo)
 |v=>v
mutual
def R(St:Stb)(G:Gh)(w:World)(s:Nat):T→List Nat→Prop
 |.any,_=>True
 |.lit v,p=>G.hd s p=v
 |.ro t,p=>RoC St t #[G.hd s p] 0
 |.same r q,p=>G.hd s p=G.hd r q
 |.addr r q,p=>G.hd s p=.pointer (iz (G.ad r q))
 |.sub r q k lo hi,p=>G.hd s p=zBf (G.hd r q) k lo hi
 |.sl k xs,p=>(xs=[]∧ ∃a,G.hd s p=.slice a 0 0)∨ ∃b o0 cap cs e,G.hd s p=.slice (iz ⟨b,o0,iA⟩) xs.length cap∧
   w.heap[b]? =iz (.cells cs e (0,0))∧xs.length≤cap∧cap≤maxLen∧o0+cap*k≤cs.size∧G.ow b=iz (s,p)∧
   (∀o,o0+xs.length*k≤o→o<o0+cap*k→G.lb b o=iz (iB,s,p))∧RL St G w s xs p 0 b o0 k
 |.agg xs,p=>RF St G w s xs p 0
 |.ptr t,p=> ∃b cs e,G.hd s p=.pointer (iz ⟨b,0,iA⟩)∧w.heap[b]? =iz (.cells cs e (0,0))∧cs.size=t.size∧G.ow b=iz (s,p)∧
   Loc G w s t (0::p) b 0∧R St G w s t (0::p)
 |.tup xs,p=>RF St G w s xs p 0
def RL(St:Stb)(G:Gh)(w:World)(s:Nat):List T→List Nat→Nat→Nat→Nat→Nat→Prop
 | [],_,_,_,_,_=>True
 |x::xs,p,i,b,o,k=>(Loc G w s x (i::p) b o∧x.size=k)∧R St G w s x (i::p)∧RL St G w s xs p (i+1) b (o+k) k
def RF(St:Stb)(G:Gh)(w:World)(s:Nat):List T→List Nat→Nat→Prop
 | [],_,_=>True
 |x::xs,p,j=>R St G w s x (j::p)∧RF St G w s xs p (j+1)
end
mutual
def yN(φ:Nat→List Nat→Prop):T→Prop
 |.same r p|.addr r p|.sub r p _ _ _=>φ r p
 |.sl _ xs|.agg xs|.tup xs=>xH φ xs
 |.ptr t=>yN φ t
 |.any|.lit _|.ro _=>True
def xH(φ:Nat→List Nat→Prop):List T→Prop
 | []=>True
 |x::xs=>yN φ x∧xH φ xs
end
mutual
theorem yN.mono{φ ψ:Nat→List Nat→Prop}(h:∀r p,φ r p→ψ r p):(t:T)→yN φ t→yN ψ t
 |.same _ _,ht|.addr _ _,ht|.sub _ _ _ _ _,ht=>h _ _ ht
 |.sl _ xs,ht|.agg xs,ht|.tup xs,ht=>by simp only[yN]at ht ⊢;exact xH.mono h xs ht
 |.ptr t,ht=>by simp only[yN]at ht ⊢;exact yN.mono h t ht
 |.any,_|.lit _,_|.ro _,_=>by simp[yN]
theorem xH.mono{φ ψ:Nat→List Nat→Prop}(h:∀r p,φ r p→ψ r p):(xs:List T)→xH φ xs→xH ψ xs
 | [],_=>trivial
 |x::xs,hx=>⟨yN.mono h x hx.1,xH.mono h xs hx.2⟩
end
mutual
theorem yN.triv{φ:Nat→List Nat→Prop}(h:∀r p,φ r p):(t:T)→yN φ t
 |.same _ _|.addr _ _|.sub _ _ _ _ _=>by simp only[yN];exact h _ _
 |.sl _ xs|.agg xs|.tup xs=>by simp only[yN];exact xH.triv h xs
 |.ptr t=>by simp only[yN];exact yN.triv h t
 |.any|.lit _|.ro _=>by simp only[yN]
theorem xH.triv{φ:Nat→List Nat→Prop}(h:∀r p,φ r p):(xs:List T)→xH φ xs
 | []=>by simp only[xH]
 |x::xs=>by simp only[xH];exact⟨yN.triv h x,xH.triv h xs⟩
end
abbrev zW(t:T):Prop:=yN (fun _ _=>False) t
abbrev yU(xs:List T):Prop:=xH (fun _ _=>False) xs
def Blk(w w':World):Prop:=∀(b:Nat) cs e,w.heap[b]? =iz (.cells cs e (0,0))→ ∃cs',w'.heap[b]? =iz (.cells cs' e (0,0))∧cs'.size=cs.size
structure MovesE (G:Gh) (w:World) (G':Gh) (w':World) (s:Nat) (p:List Nat) (s':Nat) (p':List Nat):Prop where
 hd:∀z,G'.hd s' (z++p')=G.hd s (z++p)
 ad:∀z,z≠[]→G'.ad s' (z++p')=G.ad s (z++p)
 lb:∀b o f z,z≠[]→(∃y,G.ow b=iz (s,y))→G.lb b o=iz (f,s,z++p)→G'.lb b o=iz (f,s',z++p')∧yJ w' b o=yJ w b o
 ow:∀b z,z≠[]→G.ow b=iz (s,z++p)→G'.ow b=iz (s',z++p')
 blk:Blk w w'
structure zIN (G:Gh) (w:World) (G':Gh) (w':World) (s:Nat) (p:List Nat) (s':Nat) (p':List Nat):Prop extends MovesE G w G' w' s p s' p' where
 sp:∀b o,(∃y,G.ow b=iz (s,y))→G.lb b o=iz (iB,s,p)→G'.lb b o=iz (iB,s',p')∧yJ w' b o=yJ w b o
 ow0:∀b,G.ow b=iz (s,p)→G'.ow b=iz (s',p')
def zAK(G G':Gh)(r:Nat)(p:List Nat):Prop:=G'.hd r p=G.hd r p∧G'.ad r p=G.ad r p
section
variable {St:Stb}{G:Gh}{w:World}{G':Gh}{w':World}{s:Nat}{p:List Nat}{s':Nat}{p':List Nat}
mutual
theorem zEA(hm:MovesE G w G' w' s p s' p'):(t:T)→ ∀(z:List Nat)(b o:Nat),z≠[]→(∃y,G.ow b=iz (s,y))→Loc G w s t (z++p) b o→Loc G' w' s' t (z++p') b o
 |.agg xs,z,b,o,hz,hH,h=>by
  simp only[Loc]at h ⊢
  exact⟨(hm.ad z hz).trans h.1,zIO hm xs z 0 b o hH h.2⟩
 |.any,z,b,o,hz,hH,h|.lit _,z,b,o,hz,hH,h|.ro _,z,b,o,hz,hH,h|.same _ _,z,b,o,hz,hH,h|.addr _ _,z,b,o,hz,hH,h|.sub _ _ _ _ _,z,b,o,hz,hH,h|.sl _ _,z,b,o,hz,hH,h|.ptr _,z,b,o,hz,hH,h=>by
  simp only[Loc]at h ⊢
  obtain⟨h1,h2,h3⟩:=h;have hl:=hm.lb b o iC z hz hH h2;exact⟨(hm.ad z hz).trans h1,hl.1,by rw[hl.2,h3,hm.hd]⟩
 |.tup _,_,_,_,_,_,h=>by simp only[Loc]at h
theorem zIO(hm:MovesE G w G' w' s p s' p'):(xs:List T)→ ∀(z:List Nat)(j b o:Nat),(∃y,G.ow b=iz (s,y))→vD G w s xs (z++p) j b o→vD G' w' s' xs (z++p') j b o
 | [],_,_,_,_,_,_=>by simp only[vD]
 |x::xs,z,j,b,o,hH,h=>by
  simp only[vD]at h ⊢
  exact⟨zEA hm x (j::z) b o (by simp) hH h.1,zIO hm xs z (j+1) b _ hH h.2⟩
end
mutual
theorem zEB(hm:MovesE G w G' w' s p s' p'):(t:T)→ ∀(z:List Nat),z≠[]→yN (zAK G G') t→R St G w s t (z++p)→R St G' w' s' t (z++p')
 |.any,_,_,_,_=>by simp only[R]
 |.lit _,z,_,_,h=>by simp only[R]at h ⊢;rw[hm.hd];exact h
 |.ro _,z,_,_,h=>by simp only[R]at h ⊢;rw[hm.hd];exact h
 |.same r q,z,_,hk,h=>by simp only[R]at h ⊢;rw[hm.hd,hk.1];exact h
 |.addr r q,z,_,hk,h=>by simp only[R]at h ⊢;rw[hm.hd,hk.2];exact h
 |.sub r q k lo hi,z,_,hk,h=>by simp only[R]at h ⊢;rw[hm.hd,hk.1];exact h
 |.agg xs,z,_,hk,h=>by simp only[R,yN]at h hk ⊢;exact zEC hm xs z 0 hk h
 |.tup xs,z,_,hk,h=>by simp only[R,yN]at h hk ⊢;exact zEC hm xs z 0 hk h
 |.sl k xs,z,hz,hk,h=>by
  simp only[R,yN]at h hk ⊢
  rw[hm.hd];rcases h with h|⟨b,o0,cap,cs,e,h1,h2,h3,h4,h5,h6,h7,h8⟩
  ·exact .inl h
  ·obtain⟨cs',fS,gC⟩:=hm.blk b cs e h2
   exact .inr ⟨b,o0,cap,cs',e,h1,fS,h3,h4,by omega,hm.ow b z hz h6,fun o ho cH=>(hm.lb b o iB z hz ⟨_,h6⟩ (h7 o ho (by omega))).1,zJJ hm xs z 0 b o0 k ⟨_,h6⟩ hk h8⟩
 |.ptr t,z,hz,hk,h=>by
  simp only[R,yN]at h hk ⊢
  rw[hm.hd];obtain⟨b,cs,e,h1,h2,h3,h6,h4,h5⟩:=h;obtain⟨cs',fS,gC⟩:=hm.blk b cs e h2;exact⟨b,cs',e,h1,fS,by omega,hm.ow b z hz h6,zEA hm t (0::z) b 0 (by simp) ⟨_,h6⟩ h4,zEB hm t (0::z) (by simp) hk h5⟩
theorem zJJ(hm:MovesE G w G' w' s p s' p'):(xs:List T)→ ∀(z:List Nat)(i b o k:Nat),(∃y,G.ow b=iz (s,y))→xH (zAK G G') xs→RL St G w s xs (z++p) i b o k→RL St G' w' s' xs (z++p') i b o k
 | [],_,_,_,_,_,_,_,_=>by simp only[RL]
 |x::xs,z,i,b,o,k,hH,hk,h=>by
  simp only[RL,xH]at h hk ⊢
  exact⟨⟨zEA hm x (i::z) b o (by simp) hH h.1.1,h.1.2⟩,zEB hm x (i::z) (by simp) hk.1 h.2.1,zJJ hm xs z (i+1) b _ k hH hk.2 h.2.2⟩
theorem zEC(hm:MovesE G w G' w' s p s' p'):(xs:List T)→ ∀(z:List Nat)(j:Nat),xH (zAK G G') xs→RF St G w s xs (z++p) j→RF St G' w' s' xs (z++p') j
 | [],_,_,_,_=>by simp only[RF]
 |x::xs,z,j,hk,h=>by
  simp only[RF,xH]at h hk ⊢
  exact⟨zEB hm x (j::z) (by simp) hk.1 h.1,zEC hm xs z (j+1) hk.2 h.2⟩
end
theorem zAQ(hm:zIN G w G' w' s p s' p')(t:T)(hk:yN (zAK G G') t)(h:R St G w s t p):R St G' w' s' t p':=by
 have hd0:G'.hd s' p'=G.hd s p:=by simpa using hm.hd []
 cases t with
 |any=>simp only[R]
 |lit _=>simp only[R]at h ⊢;rw[hd0];exact h
 |ro _=>simp only[R]at h ⊢;rw[hd0];exact h
 |same r q=>simp only[R]at h ⊢;rw[hd0,hk.1];exact h
 |addr r q=>simp only[R]at h ⊢;rw[hd0,hk.2];exact h
 |sub r q k lo hi=>simp only[R]at h ⊢;rw[hd0,hk.1];exact h
 |agg xs=>simp only[R,yN]at h hk ⊢;simpa using zEC hm.toMovesE xs [] 0 hk (by simpa using h)
 |tup xs=>simp only[R,yN]at h hk ⊢;simpa using zEC hm.toMovesE xs [] 0 hk (by simpa using h)
 |sl k xs=>
  simp only[R,yN]at h hk ⊢
  rw[hd0];rcases h with h|⟨b,o0,cap,cs,e,h1,h2,h3,h4,h5,h6,h7,h8⟩
  ·exact .inl h
  ·obtain⟨cs',fS,gC⟩:=hm.blk b cs e h2
   exact .inr ⟨b,o0,cap,cs',e,h1,fS,h3,h4,by omega,hm.ow0 b h6,fun o ho cH=>(hm.sp b o ⟨_,h6⟩ (h7 o ho (by omega))).1,by simpa using zJJ hm.toMovesE xs [] 0 b o0 k ⟨_,h6⟩ hk (by simpa using h8)⟩
 |ptr t=>
  simp only[R,yN]at h hk ⊢
  rw[hd0];obtain⟨b,cs,e,h1,h2,h3,h6,h4,h5⟩:=h;obtain⟨cs',fS,gC⟩:=hm.blk b cs e h2;exact⟨b,cs',e,h1,fS,by omega,hm.ow0 b h6,zEA hm.toMovesE t [0] b 0 (by simp) ⟨_,h6⟩ h4,zEB hm.toMovesE t [0] (by simp) hk h5⟩
theorem zRf(hm:zIN G w G' w' s p s' p')(t:T)(z:List Nat)(hk:yN (zAK G G') t)(h:R St G w s t (z++p)):R St G' w' s' t (z++p'):=by
 cases z with
 |nil=>exact zAQ hm t hk h
 |cons i z=>exact zEB hm.toMovesE t (i::z) (by simp) hk h
end
end Go.Ab

namespace Go.Ab
open Go
def T.get:T→List Nat→Option T
 |t,[]=>iz t
 |.sl _ xs,i::f|.agg xs,i::f|.tup xs,i::f=>match xs[i]? with
  |some x=>x.get f
  |none=>iA
 |.ptr t,i::f=>if i=0 then t.get f else iA
 |.any,_::_|.lit _,_::_|.ro _,_::_|.same _ _,_::_|.addr _ _,_::_|.sub _ _ _ _ _,_::_=>iA
termination_by structural _ f=>f
def T.set:T→List Nat→T→T
 |_,[],u=>u
 |.sl k xs,i::f,u=>match xs[i]? with
  |some x=>.sl k (xs.set i (x.set f u))
  |none=>.sl k xs
 |.agg xs,i::f,u=>match xs[i]? with
  |some x=>.agg (xs.set i (x.set f u))
  |none=>.agg xs
 |.tup xs,i::f,u=>match xs[i]? with
  |some x=>.tup (xs.set i (x.set f u))
  |none=>.tup xs
 |.ptr t,i::f,u=>if i=0 then .ptr (t.set f u)else .ptr t
 |.any,_::_,_=>.any
 |.lit v,_::_,_=>.lit v
 |.ro t,_::_,_=>.ro t
 |.same r q,_::_,_=>.same r q
 |.addr r q,_::_,_=>.addr r q
 |.sub r q k lo hi,_::_,_=>.sub r q k lo hi
termination_by structural _ f _=>f
def T.locd:T→List Nat→Bool
 |_,[]=>iC
 |.sl _ _,_::_|.ptr _,_::_=>iB
 |.agg xs,i::f|.tup xs,i::f=>match xs[i]? with
  |some x=>x.locd f
  |none=>iC
 |.any,_::_|.lit _,_::_|.ro _,_::_|.same _ _,_::_|.addr _ _,_::_|.sub _ _ _ _ _,_::_=>iC
termination_by structural _ f=>f
abbrev rp(f p:List Nat):List Nat:=f.reverse++p
theorem zB2(i:Nat)(f p:List Nat):rp (i::f) p=rp f (i::p):=by simp[rp]
section
variable {St:Stb}{G:Gh}{w:World}{s:Nat}
theorem kN:(xs:List T)→ ∀(p:List Nat)(i0 b o k i:Nat)(x:T),RL St G w s xs p i0 b o k→xs[i]? =iz x→
  Loc G w s x ((i0+i)::p) b (o+i*k)∧x.size=k∧R St G w s x ((i0+i)::p)
 | [],_,_,_,_,_,_,_,_,h=>by simp at h
 |y::ys,p,i0,b,o,k,i,x,hr,h=>by
  simp only[RL]at hr;cases i with
  |zero=>
   simp at h;subst h;simpa using⟨hr.1.1,hr.1.2,hr.2.1⟩
  |succ i=>
   have:=kN ys p (i0+1) b (o+k) k i x hr.2.2 (by simpa using h);rw[show i0+(i+1)=i0+1+i from by omega,show o+(i+1)*k=o+k+i*k from by rw[L5];omega];exact this
theorem zBF:(xs:List T)→ ∀(p:List Nat)(j i:Nat)(x:T),RF St G w s xs p j→xs[i]? =iz x→R St G w s x ((j+i)::p)
 | [],_,_,_,_,_,h=>by simp at h
 |y::ys,p,j,i,x,hr,h=>by
  simp only[RF]at hr;cases i with
  |zero=>simp at h;subst h;simpa using hr.1
  |succ i=>
   have:=zBF ys p (j+1) i x hr.2 (by simpa using h)
   rwa [show j+(i+1)=j+1+i from by omega]
theorem zKD:(xs:List T)→ ∀(p:List Nat)(j b o i:Nat)(x:T),vD G w s xs p j b o→xs[i]? =iz x→
  ∃o',Loc G w s x ((j+i)::p) b o'∧o≤o'∧o'+x.size≤o+T.sizes xs
 | [],_,_,_,_,_,_,_,h=>by simp at h
 |y::ys,p,j,b,o,i,x,hr,h=>by
  simp only[vD]at hr;cases i with
  |zero=>simp at h;subst h;exact⟨o,by simpa using hr.1,by omega,by simp[T.sizes]⟩
  |succ i=>
   obtain⟨o',h1,h2,h3⟩:=zKD ys p (j+1) b (o+y.size) i x hr.2 (by simpa using h);refine⟨o',?_,by omega,by simp only[T.sizes];omega⟩
   rwa [show j+(i+1)=j+1+i from by omega]
def At(G:Gh)(w:World)(s:Nat)(t:T)(p:List Nat):Prop:=
 ∃b o cs e,Loc G w s t p b o∧w.heap[b]? =iz (.cells cs e (0,0))∧o+t.size≤cs.size
theorem At.field{xs:List T}{p:List Nat}(h:At G w s (.agg xs) p){i:Nat}{x:T}(hx:xs[i]? =iz x):At G w s x (i::p):=by obtain⟨b,o,cs,e,hl,hh,hs⟩:=h;simp only[Loc]at hl;obtain⟨o',h1,h2,h3⟩:=zKD xs p 0 b o i x hl.2 hx;simp only[T.size]at hs;exact⟨b,o',cs,e,by simpa using h1,hh,by omega⟩
theorem zD1{k:Nat}{xs:List T}{p:List Nat}(h:R St G w s (.sl k xs) p){i:Nat}{x:T}(hx:xs[i]? =iz x):
  At G w s x (i::p)∧R St G w s x (i::p):=by
 simp only[R]at h;have hi:=(Je.1 hx).1;rcases h with⟨rfl,_⟩|⟨b,o0,cap,cs,e,h1,h2,h3,h4,h5,h6,h7,h8⟩
 ·simp at hx
 ·obtain⟨a1,a2,a3⟩:=kN xs p 0 b o0 k i x h8 hx
  simp only[J8]at a1 a3;refine⟨⟨b,o0+i*k,cs,e,a1,h2,?_⟩,a3⟩;rw[a2,Lx,←L5];exact Hf (Nat.add_le_add_left (Kj _ (by omega)) _) h5
theorem zBM{t:T}{p:List Nat}(h:R St G w s (.ptr t) p):At G w s t (0::p)∧R St G w s t (0::p):=by simp only[R]at h;obtain⟨b,cs,e,h1,h2,h3,h6,h4,h5⟩:=h;exact⟨⟨b,0,cs,e,h4,h2,by omega⟩,h5⟩
theorem zBg:(f:List Nat)→ ∀(t u:T)(p:List Nat),At G w s t p→R St G w s t p→t.get f=iz u→At G w s u (rp f p)∧R St G w s u (rp f p)
 | [],t,u,p,ha,h,hg=>by simp[T.get]at hg;subst hg;simpa[rp]using⟨ha,h⟩
 |i::f,t,u,p,ha,h,hg=>by
  rw[zB2];cases t with
  |sl k xs=>
   simp only[T.get]at hg;cases hx:xs[i]? with
   |none=>simp[hx]at hg
   |some x=>rw[hx]at hg;exact zBg f x u _ (zD1 h hx).1 (zD1 h hx).2 hg
  |ptr t=>
   simp only[T.get]at hg;split at hg
   ·rename_i hi;subst hi;exact zBg f t u _ (zBM h).1 (zBM h).2 hg
   ·cases hg
  |agg xs=>
   simp only[T.get]at hg;cases hx:xs[i]? with
   |none=>simp[hx]at hg
   |some x=>rw[hx]at hg;exact zBg f x u _ (ha.field hx) (by simp only[R]at h;simpa using zBF xs p 0 i x h hx) hg
  |tup xs=>obtain⟨b,o,cs,e,hl,_⟩:=ha;simp only[Loc]at hl
  |_=>simp[T.get]at hg
theorem zAL:(f:List Nat)→ ∀(t u:T)(p:List Nat),R St G w s t p→t.get f=iz u→R St G w s u (rp f p)∧(t.locd f=iB→At G w s u (rp f p))
 | [],t,u,p,h,hg=>by simp[T.get]at hg;subst hg;simpa[rp,T.locd]using h
 |i::f,t,u,p,h,hg=>by
  rw[zB2];cases t with
  |sl k xs=>
   simp only[T.get]at hg;cases hx:xs[i]? with
   |none=>simp[hx]at hg
   |some x=>rw[hx]at hg;exact⟨(zBg f x u _ (zD1 h hx).1 (zD1 h hx).2 hg).2,fun _=>(zBg f x u _ (zD1 h hx).1 (zD1 h hx).2 hg).1⟩
  |ptr t=>
   simp only[T.get]at hg;split at hg
   ·rename_i hi;subst hi;exact⟨(zBg f t u _ (zBM h).1 (zBM h).2 hg).2,fun _=>(zBg f t u _ (zBM h).1 (zBM h).2 hg).1⟩
   ·cases hg
  |agg xs=>
   simp only[T.get,T.locd]at hg ⊢
   cases hx:xs[i]? with
   |none=>simp[hx]at hg
   |some x=>rw[hx]at hg;exact zAL f x u _ (by simp only[R]at h;simpa using zBF xs p 0 i x h hx) hg
  |tup xs=>
   simp only[T.get,T.locd]at hg ⊢
   cases hx:xs[i]? with
   |none=>simp[hx]at hg
   |some x=>rw[hx]at hg;exact zAL f x u _ (by simp only[R]at h;simpa using zBF xs p 0 i x h hx) hg
  |_=>simp[T.get]at hg
end
structure Upd (G:Gh) (w:World) (G':Gh) (w':World) (s:Nat) (tgt:List Nat):Prop where
 hd:∀p,¬tgt<:+p→G'.hd s p=G.hd s p
 ad:∀p,¬tgt<:+p→G'.ad s p=G.ad s p
 lb:∀b o f p,G.lb b o=iz (f,s,p)→ ¬tgt<:+p→G'.lb b o=iz (f,s,p)∧yJ w' b o=yJ w b o
 ow:∀b p,G.ow b=iz (s,p)→ ¬tgt<:+p→G'.ow b=iz (s,p)
 blk:Blk w w'
section
variable {St:Stb}{G:Gh}{w:World}{G':Gh}{w':World}{s:Nat}{tgt:List Nat}
theorem Upd.moves(h:Upd G w G' w' s tgt){p:List Nat}(hp:∀z,¬tgt<:+z++p):zIN G w G' w' s p s p where
 hd z:=h.hd _ (hp z)
 ad z _:=h.ad _ (hp z)
 lb b o f z _ _ hl:=h.lb b o f _ hl (hp z)
 ow b z _ hl:=h.ow b _ hl (hp z)
 sp b o _ hl:=h.lb b o iB p hl (hp [])
 ow0 b hl:=h.ow b p hl (hp [])
 blk:=h.blk
mutual
theorem zED(hm:Upd G w G' w' s tgt):(t:T)→ ∀(p:List Nat)(b o:Nat),(∀z,¬tgt<:+z++p)→Loc G w s t p b o→Loc G' w' s t p b o
 |.agg xs,p,b,o,hz,h=>by
  simp only[Loc]at h ⊢
  exact⟨(hm.ad p (hz [])).trans h.1,zKE hm xs p 0 b o hz h.2⟩
 |.any,p,b,o,hz,h|.lit _,p,b,o,hz,h|.ro _,p,b,o,hz,h|.same _ _,p,b,o,hz,h|.addr _ _,p,b,o,hz,h|.sub _ _ _ _ _,p,b,o,hz,h|.sl _ _,p,b,o,hz,h|.ptr _,p,b,o,hz,h=>by
  simp only[Loc]at h ⊢
  obtain⟨h1,h2,h3⟩:=h;have hl:=hm.lb b o iC p h2 (hz []);exact⟨(hm.ad p (hz [])).trans h1,hl.1,by rw[hl.2,h3,hm.hd p (hz [])]⟩
 |.tup _,_,_,_,_,h=>by simp only[Loc]at h
theorem zKE(hm:Upd G w G' w' s tgt):(xs:List T)→ ∀(p:List Nat)(j b o:Nat),(∀z,¬tgt<:+z++p)→vD G w s xs p j b o→vD G' w' s xs p j b o
 | [],_,_,_,_,_,_=>by simp only[vD]
 |x::xs,p,j,b,o,hz,h=>by
  simp only[vD]at h ⊢
  exact⟨zED hm x (j::p) b o (fun z=>by have:=hz (z++[j]);simpa using this) h.1,zKE hm xs p (j+1) b _ hz h.2⟩
end
theorem zKF(hm:Upd G w G' w' s tgt)(t u:T)(p:List Nat)(b o:Nat)(ht:∀xs,t≠.agg xs)(hu:∀xs,u≠.agg xs)(mX:∀xs,u≠.tup xs)(hz:¬tgt<:+p)(h:Loc G w s t p b o):Loc G' w' s u p b o:=by
 have h3:G.ad s p=⟨b,o,iA⟩∧G.lb b o=iz (iC,s,p)∧yJ w b o=iz (G.hd s p):=by
  cases t with
  |agg xs=>exact absurd rfl (ht xs)
  |tup xs=>simp only[Loc]at h
  |_=>simpa only[Loc]using h
 obtain⟨h1,h2,h3⟩:=h3;have hl:=hm.lb b o iC p h2 hz;have h4:G'.ad s p=⟨b,o,iA⟩∧G'.lb b o=iz (iC,s,p)∧yJ w' b o=iz (G'.hd s p):=⟨(hm.ad p hz).trans h1,hl.1,by rw[hl.2,h3,hm.hd p hz]⟩;cases u with
 |agg xs=>exact absurd rfl (hu xs)
 |tup xs=>exact absurd rfl (mX xs)
 |_=>simpa only[Loc]using h4
theorem kO{f p:List Nat}{i i':Nat}(hi:i'≠i)(z:List Nat):¬f.reverse++(i::p)<:+z++(i'::p):=by
 rintro⟨y,hy⟩
 rw[←Jh]at hy;have:=List.append_inj_right' hy rfl;simp at this;exact hi this.symm
theorem zAq{f p:List Nat}{i:Nat}:¬f.reverse++(i::p)<:+p:=by intro h;have:=h.length_le;simp at this;omega
theorem zIP:(xs:List T)→ ∀(i:Nat)(x y:T),xs[i]? =iz x→y.size=x.size→T.sizes (xs.set i y)=T.sizes xs
 | [],_,_,_,h,_=>by simp at h
 |z::zs,i,x,y,h,hs=>by
  cases i with
  |zero=>simp at h;subst h;simp[T.sizes,hs]
  |succ i=>simp only[Kt,T.sizes,zIP zs i x y (by simpa using h) hs]
theorem zEE:(f:List Nat)→ ∀(t u u0:T),t.get f=iz u0→u.size=u0.size→(t.set f u).size=t.size
 | [],t,u,u0,h,hs=>by simp[T.get]at h;subst h;simpa[T.set]using hs
 |i::f,t,u,u0,h,hs=>by
  cases t with
  |sl k xs=>simp only[T.get]at h;cases hx:xs[i]? <;>simp[hx,T.set,T.size]at h ⊢
  |tup xs=>simp only[T.get]at h;cases hx:xs[i]? <;>simp[hx,T.set,T.size]at h ⊢
  |agg xs=>
   simp only[T.get]at h;cases hx:xs[i]? with
   |none=>simp[hx]at h
   |some x=>
    rw[hx]at h;simp only[T.set,hx,T.size];exact zIP xs i x _ hx (zEE f x u u0 h hs)
  |ptr t=>simp only[T.get]at h;split at h<;>simp_all [T.set,T.size]
  |_=>simp[T.get]at h
theorem zKG(hm:Upd G w G' w' s tgt):(xs:List T)→ ∀(p:List Nat)(j b o i:Nat)(x y:T),vD G w s xs p j b o→xs[i]? =iz x→y.size=x.size→
  (∀i',i'≠j+i→ ∀z,¬tgt<:+z++(i'::p))→(∀o',Loc G w s x ((j+i)::p) b o'→Loc G' w' s y ((j+i)::p) b o')→vD G' w' s (xs.set i y) p j b o
 | [],_,_,_,_,_,_,_,_,h,_,_,_=>by simp at h
 |z::zs,p,j,b,o,i,x,y,hl,h,hs,hz,hy=>by
  simp only[vD]at hl;cases i with
  |zero=>
   simp at h;subst h;simp only[Ll,vD,hs];exact⟨by simpa using hy o (by simpa using hl.1),LocF_upd' hm zs p (j+1) b _ (fun i' eh=>hz i' (by omega)) hl.2⟩
  |succ i=>
   simp only[Kt,vD];refine⟨zED hm z _ b o (hz j (by omega)) hl.1,zKG hm zs p (j+1) b _ i x y hl.2 (by simpa using h) hs (fun i' eh=>hz i' (by omega)) ?_⟩;rw[show j+1+i=j+(i+1)from by omega];exact hy
where LocF_upd' (hm:Upd G w G' w' s tgt):(xs:List T)→ ∀(p:List Nat)(j b o:Nat),(∀i',j≤i'→ ∀z,¬tgt<:+z++(i'::p))→vD G w s xs p j b o→vD G' w' s xs p j b o
 | [],_,_,_,_,_,_=>by simp only[vD]
 |x::xs,p,j,b,o,hz,h=>by
  simp only[vD]at h ⊢
  exact⟨zED hm x (j::p) b o (hz j (Jf _)) h.1,LocF_upd' hm xs p (j+1) b _ (fun i' eh=>hz i' (by omega)) h.2⟩
theorem zJK:(f:List Nat)→ ∀(t u u0:T)(p:List Nat)(b o:Nat),Upd G w G' w' s (rp f p)→Loc G w s t p b o→t.get f=iz u0→u.size=u0.size→
  (∀o',Loc G w s u0 (rp f p) b o'→Loc G' w' s u (rp f p) b o')→Loc G' w' s (t.set f u) p b o
 | [],t,u,u0,p,b,o,hm,hl,hg,hs,hu=>by simp[T.get]at hg;subst hg;simpa[T.set,rp]using hu o (by simpa[rp]using hl)
 |i::f,t,u,u0,p,b,o,hm,hl,hg,hs,hu=>by
  have gF:=hm;rw[zB2]at gF;cases t with
  |sl k xs=>
   have:∃ys,(T.sl k xs).set (i::f) u=.sl k ys:=by simp only[T.set];split<;>exact⟨_,rfl⟩
   obtain⟨ys,hy⟩:=this;rw[hy];exact zKF gF (.sl k xs) (.sl k ys) p b o (by simp) (by simp) (by simp) zAq hl
  |ptr t=>
   have:∃ys,(T.ptr t).set (i::f) u=.ptr ys:=by simp only[T.set];split<;>exact⟨_,rfl⟩
   obtain⟨ys,hy⟩:=this;rw[hy];exact zKF gF (.ptr t) (.ptr ys) p b o (by simp) (by simp) (by simp) zAq hl
  |agg xs=>
   simp only[T.get]at hg;cases hx:xs[i]? with
   |none=>simp[hx]at hg
   |some x=>
    rw[hx]at hg;simp only[T.set,hx];simp only[Loc]at hl ⊢
    refine⟨(gF.ad p zAq).trans hl.1,zKG gF xs p 0 b o i x _ hl.2 hx (zEE f x u u0 hg hs) (fun i' eh z=>kO (by omega) z) ?_⟩;intro o' ho';simp only[J8]at ho' ⊢
    exact zJK f x u u0 (i::p) b o' gF ho' hg hs (by simpa only[zB2]using hu)
  |tup xs=>simp only[Loc]at hl
  |_=>simp[T.get]at hg
end
end Go.Ab

namespace Go.Ab
open Go
section
variable {St:Stb}{G:Gh}{w:World}{G':Gh}{w':World}{s:Nat}{tgt:List Nat}
theorem zOw(hm:Upd G w G' w' s tgt)(t:T)(p:List Nat)(hz:∀z,¬tgt<:+z++p)(hk:yN (zAK G G') t)(h:R St G w s t p):R St G' w' s t p:=by simpa using zRf (hm.moves hz) t [] hk (by simpa using h)
theorem zRg(hm:Upd G w G' w' s tgt):(xs:List T)→ ∀(p:List Nat)(i b o k:Nat),(∀i',i≤i'→ ∀z,¬tgt<:+z++(i'::p))→xH (zAK G G') xs→RL St G w s xs p i b o k→RL St G' w' s xs p i b o k
 | [],_,_,_,_,_,_,_,_=>by simp only[RL]
 |x::xs,p,i,b,o,k,hz,hk,h=>by
  simp only[RL,xH]at h hk ⊢
  exact⟨⟨zED hm x (i::p) b o (hz i (Jf _)) h.1.1,h.1.2⟩,zOw hm x (i::p) (hz i (Jf _)) hk.1 h.2.1,
   zRg hm xs p (i+1) b _ k (fun i' eh=>hz i' (by omega)) hk.2 h.2.2⟩
theorem zRh(hm:Upd G w G' w' s tgt):(xs:List T)→ ∀(p:List Nat)(i0 b o k i:Nat)(x y:T),RL St G w s xs p i0 b o k→xs[i]? =iz x→y.size=x.size→xH (zAK G G') xs→
  (∀i',i'≠i0+i→ ∀z,¬tgt<:+z++(i'::p))→(∀o',Loc G w s x ((i0+i)::p) b o'→Loc G' w' s y ((i0+i)::p) b o')→R St G' w' s y ((i0+i)::p)→
  RL St G' w' s (xs.set i y) p i0 b o k
 | [],_,_,_,_,_,_,_,_,_,h,_,_,_,_,_=>by simp at h
 |z::zs,p,i0,b,o,k,i,x,y,hr,h,hs,hk,hz,hl,hy=>by
  simp only[RL,xH]at hr hk;cases i with
  |zero=>
   simp at h;subst h;simp only[Ll,RL];exact⟨⟨by simpa using hl o (by simpa using hr.1.1),by omega⟩,by simpa using hy,zRg hm zs p (i0+1) b _ k (fun i' eh=>hz i' (by omega)) hk.2 hr.2.2⟩
  |succ i=>
   simp only[Kt,RL];rw[show i0+(i+1)=i0+1+i from by omega]at hl hy hz;exact⟨⟨zED hm z _ b o (hz i0 (by omega)) hr.1.1,hr.1.2⟩,zOw hm z _ (hz i0 (by omega)) hk.1 hr.2.1,zRh hm zs p (i0+1) b _ k i x y hr.2.2 (by simpa using h) hs hk.2 hz hl hy⟩
theorem zRi(hm:Upd G w G' w' s tgt):(xs:List T)→ ∀(p:List Nat)(i:Nat),(∀i',i≤i'→ ∀z,¬tgt<:+z++(i'::p))→xH (zAK G G') xs→RF St G w s xs p i→RF St G' w' s xs p i
 | [],_,_,_,_,_=>by simp only[RF]
 |x::xs,p,i,hz,hk,h=>by
  simp only[RF,xH]at h hk ⊢
  exact⟨zOw hm x (i::p) (hz i (Jf _)) hk.1 h.1,zRi hm xs p (i+1) (fun i' eh=>hz i' (by omega)) hk.2 h.2⟩
theorem zMM(hm:Upd G w G' w' s tgt):(xs:List T)→ ∀(p:List Nat)(i0 i:Nat)(x y:T),RF St G w s xs p i0→xs[i]? =iz x→xH (zAK G G') xs→
  (∀i',i'≠i0+i→ ∀z,¬tgt<:+z++(i'::p))→R St G' w' s y ((i0+i)::p)→
  RF St G' w' s (xs.set i y) p i0
 | [],_,_,_,_,_,_,h,_,_,_=>by simp at h
 |z::zs,p,i0,i,x,y,hr,h,hk,hz,hy=>by
  simp only[RF,xH]at hr hk;cases i with
  |zero=>
   simp at h;subst h;simp only[Ll,RF];exact⟨by simpa using hy,zRi hm zs p (i0+1) (fun i' eh=>hz i' (by omega)) hk.2 hr.2⟩
  |succ i=>
   simp only[Kt,RF];rw[show i0+(i+1)=i0+1+i from by omega]at hy hz;exact⟨zOw hm z _ (hz i0 (by omega)) hk.1 hr.1,zMM hm zs p (i0+1) i x y hr.2 (by simpa using h) hk.2 hz hy⟩
theorem uK{φ:Nat→List Nat→Prop}:(xs:List T)→xH φ xs→ ∀(i:Nat)(x:T),xs[i]? =iz x→yN φ x
 | [],_,_,_,h=>by simp at h
 |y::ys,hk,i,x,h=>by
  simp only[xH]at hk;cases i with
  |zero=>simp at h;subst h;exact hk.1
  |succ i=>exact uK ys hk.2 i x (by simpa using h)
theorem zGg:(f:List Nat)→ ∀(t u u0:T)(p:List Nat),Upd G w G' w' s (rp f p)→R St G w s t p→t.get f=iz u0→u.size=u0.size→yN (zAK G G') t→
  (∀b o,Loc G w s u0 (rp f p) b o→Loc G' w' s u (rp f p) b o)→R St G' w' s u (rp f p)→R St G' w' s (t.set f u) p
 | [],t,u,u0,p,hm,hr,hg,hs,hk,hl,hu=>by simpa[T.set,rp]using hu
 |i::f,t,u,u0,p,hm,hr,hg,hs,hk,hl,hu=>by
  have gF:=hm;rw[zB2]at gF hl hu;cases t with
  |sl k xs=>
   simp only[T.get]at hg;cases hx:xs[i]? with
   |none=>simp[hx]at hg
   |some x=>
    rw[hx]at hg;simp only[T.set,hx];simp only[R,yN]at hr hk ⊢
    rcases hr with⟨rfl,_⟩|⟨b,o0,cap,cs,e,h1,h2,h3,h4,h5,h6,h7,h8⟩
    ·simp at hx
    ·obtain⟨cs',fS,gC⟩:=gF.blk b cs e h2
     refine .inr ⟨b,o0,cap,cs',e,by rw[gF.hd p zAq,Ln];exact h1,fS,by rw[Ln];exact h3,h4,by omega,gF.ow b p h6 zAq,?_,?_⟩
     ·intro o ho cH
      rw[Ln]at ho;exact(gF.lb b o iB p (h7 o ho (by omega)) zAq).1
     ·have bA:=kN xs p 0 b o0 k i x h8 hx
      simp only[J8]at bA;refine zRh gF xs p 0 b o0 k i x _ h8 hx (zEE f x u u0 hg hs) hk (fun i' eh z=>kO (by omega) z) ?_ ?_
      ·intro o' ho'
       simp only[J8]at ho' ⊢
       exact zJK f x u u0 (i::p) b o' gF ho' hg hs (fun o''=>hl b o'')
      ·simp only[J8]
       exact zGg f x u u0 (i::p) gF bA.2.2 hg hs (uK xs hk i x hx) hl hu
  |ptr t=>
   simp only[T.get]at hg;split at hg
   ·rename_i hi;subst hi
    simp only[T.set,if_true];simp only[R,yN]at hr hk ⊢
    obtain⟨b,cs,e,h1,h2,h3,h6,h4,h5⟩:=hr;obtain⟨cs',fS,gC⟩:=gF.blk b cs e h2;refine⟨b,cs',e,by rw[gF.hd p zAq];exact h1,fS,by rw[zEE f t u u0 hg hs];omega,gF.ow b p h6 zAq,zJK f t u u0 (0::p) b 0 gF h4 hg hs (fun o''=>hl b o''),zGg f t u u0 (0::p) gF h5 hg hs hk hl hu⟩
   ·cases hg
  |agg xs=>
   simp only[T.get]at hg;cases hx:xs[i]? with
   |none=>simp[hx]at hg
   |some x=>
    rw[hx]at hg;simp only[T.set,hx];simp only[R,yN]at hr hk ⊢
    refine zMM gF xs p 0 i x _ hr hx hk (fun i' eh z=>kO (by omega) z) ?_;simp only[J8];exact zGg f x u u0 (i::p) gF (by simpa using zBF xs p 0 i x hr hx) hg hs (uK xs hk i x hx) hl hu
  |tup xs=>
   simp only[T.get]at hg;cases hx:xs[i]? with
   |none=>simp[hx]at hg
   |some x=>
    rw[hx]at hg;simp only[T.set,hx];simp only[R,yN]at hr hk ⊢
    refine zMM gF xs p 0 i x _ hr hx hk (fun i' eh z=>kO (by omega) z) ?_;simp only[J8];exact zGg f x u u0 (i::p) gF (by simpa using zBF xs p 0 i x hr hx) hg hs (uK xs hk i x hx) hl hu
  |_=>simp[T.get]at hg
end
end Go.Ab

namespace Go.Ab
open Go
mutual
def vals(G:Gh)(s:Nat):T→List Nat→List Value
 |.agg xs,p=>yF G s xs p 0
 |.any,p|.lit _,p|.ro _,p|.same _ _,p|.addr _ _,p|.sub _ _ _ _ _,p|.sl _ _,p|.ptr _,p|.tup _,p=>[G.hd s p]
def yF(G:Gh)(s:Nat):List T→List Nat→Nat→List Value
 | [],_,_=>[]
 |x::xs,p,j=>vals G s x (j::p)++yF G s xs p (j+1)
end
def sK(G:Gh)(s:Nat)(t:T)(p:List Nat):Value:=
 match t with
 |.agg xs=>.agg (yF G s xs p 0).toArray
 |_=>G.hd s p
def zAx(G:Gh)(s:Nat):List T→List Nat→Nat→List Value
 | [],_,_=>[]
 |x::xs,p,j=>sK G s x (j::p)::zAx G s xs p (j+1)
def mkV(G:Gh)(s:Nat)(t:T)(p:List Nat):Value:=
 match t with
 |.agg xs=>.agg (yF G s xs p 0).toArray
 |.tup xs=>.tuple (zAx G s xs p 0).toArray
 |_=>G.hd s p
mutual
def Top:T→Prop
 |.sl _ xs=>yU xs
 |.ptr t=>zW t
 |.agg xs|.tup xs=>uI xs
 |.any|.lit _|.ro _|.same _ _|.addr _ _|.sub _ _ _ _ _=>True
def uI:List T→Prop
 | []=>True
 |x::xs=>Top x∧uI xs
end
mutual
theorem Top.of_clean:(t:T)→zW t→Top t
 |.sl _ xs,h=>by simpa only[Top,zW,yN]using h
 |.ptr t,h=>by simpa only[Top,zW,yN]using h
 |.agg xs,h|.tup xs,h=>by simp only[Top];exact uI.of_clean xs (by simpa only[zW,yN]using h)
 |.any,_|.lit _,_|.ro _,_|.same _ _,_|.addr _ _,_|.sub _ _ _ _ _,_=>by simp only[Top]
theorem uI.of_clean:(xs:List T)→yU xs→uI xs
 | [],_=>by simp only[uI]
 |x::xs,h=>by simp only[uI];exact⟨Top.of_clean x h.1,uI.of_clean xs h.2⟩
end
abbrev Chg:=List (Nat×Nat)
def Off(chg:Chg)(s:Nat)(p:List Nat):Prop:=∀n,(s,n)∈chg→p.length<n
def zAM(chg:Chg)(r:Nat)(p:List Nat):Bool:=chg.all fun c=>c.1 != r||decide (p.length<c.2)
theorem zPR{chg:Chg}{r:Nat}{p:List Nat}(h:zAM chg r p=iB):Off chg r p:=by
 intro n hn;have:=K4.1 h _ hn
 grind
mutual
def T.okB(chg:Chg):T→Bool
 |.same r p|.addr r p|.sub r p _ _ _=>zAM chg r p
 |.agg xs|.tup xs=>zKH chg xs
 |.any|.lit _|.ro _|.sl _ _|.ptr _=>iB
def zKH(chg:Chg):List T→Bool
 | []=>iB
 |x::xs=>x.okB chg&&zKH chg xs
end
mutual
theorem zAR{chg:Chg}:(t:T)→Top t→t.okB chg=iB→yN (Off chg) t
 |.same r p,_,h|.addr r p,_,h|.sub r p _ _ _,_,h=>by simp only[T.okB]at h;simp only[yN];exact zPR h
 |.agg xs,ht,h|.tup xs,ht,h=>by simp only[T.okB,Top]at h ht;simp only[yN];exact zGZ xs ht h
 |.sl _ xs,ht,_=>by simp only[Top]at ht;simp only[yN];grind[xH.mono]
 |.ptr t,ht,_=>by simp only[Top]at ht;simp only[yN];grind[yN.mono]
 |.any,_,_|.lit _,_,_|.ro _,_,_=>by simp only[yN]
theorem zGZ{chg:Chg}:(xs:List T)→uI xs→zKH chg xs=iB→xH (Off chg) xs
 | [],_,_=>by simp only[xH]
 |x::xs,ht,h=>by simp only[zKH,uI,J3]at h ht;simp only[xH];exact⟨zAR x ht.1 h.1,zGZ xs ht.2 h.2⟩
end
abbrev Env:=Nat→Option T
abbrev Wr:=List (Nat×Option T)
def Wr.find(wr:Wr)(s:Nat):Option (Option T):=
 match wr with
 | []=>iA
 |(k,x)::r=>if k=s then iz x else Wr.find r s
def Env.app(E:Env)(wr:Wr)(chg:Chg):Env:=fun s=>
 match wr.find s with
 |some x=>x
 |none=>match E s with
  |some t=>if t.okB chg then iz t else iA
  |none=>iA
structure Ctx where
 St:Stb
 W:Nat→Prop
 w0:World
 N:Nat
def zCL(Γ:Ctx)(w:World)(b:Nat):Prop:=b<w.heap.size∧(Γ.w0.heap.size≤b∨Γ.W b)∧Γ.St b=iA
structure zVe (w w':World):Prop where
 blk:Blk w w'
 os:w'.os=w.os
 out:w'.output=w.output
structure Mem (Γ:Ctx) (G:Gh) (w:World):Prop where
 one:∀s p,(G.hd s p).oneCell'=iB
 lb:∀b o l,G.lb b o=iz l→zCL Γ w b
 ow:∀b l,G.ow b=iz l→zCL Γ w b
 st:∀b x,Γ.St b=iz x→w.heap[b]? =iz x
 fr:∀b,b<Γ.w0.heap.size→ ¬Γ.W b→w.heap[b]? =Γ.w0.heap[b]?
 sz:Γ.w0.heap.size≤w.heap.size
 bk:zVe Γ.w0 w
theorem Blk.trans{w w' w'':World}(h:Blk w w')(h':Blk w' w''):Blk w w'':=fun b cs e hb=>by
 obtain⟨cs',h1,h2⟩:=h b cs e hb;obtain⟨cs'',h3,h4⟩:=h' b cs' e h1
 grind
theorem zVe.trans{w w' w'':World}(h:zVe w w')(h':Blk w' w'')(ho:w''.os=w'.os)(hq:w''.output=w'.output):zVe w w'':=⟨h.blk.trans h',ho.trans h.os,hq.trans h.out⟩
def Ent(Γ:Ctx)(G:Gh)(w:World)(v:Option Value)(s:Nat)(t:T):Prop:=v=iz (mkV G s t [])∧R Γ.St G w s t []∧Top t
structure Rep (Γ:Ctx) (E:Env) (G:Gh) (tmps:Array Value) (w:World):Prop where
 size:tmps.size=Γ.N
 ent:∀s t,E s=iz t→Ent Γ G w tmps[s]? s t
 mem:Mem Γ G w
def Sim(Γ:Ctx)(E:Env)(a:Act)(w:World):Prop:=a.defers=[]∧ ∃G,Rep Γ E G a.tmps w
structure zDQ (S S':Stb) (W:Nat→Prop) (n:Nat):Prop where
 le:∀b x,S b=iz x→S' b=iz x
 nw:∀b,S b=iA→S' b≠iA→n≤b∨W b
theorem zDQ.refl{S:Stb}{W:Nat→Prop}{n:Nat}:zDQ S S W n:=⟨fun _ _ h=>h,by grind⟩
theorem zDQ.trans{S S' S'':Stb}{W:Nat→Prop}{n:Nat}(h:zDQ S S' W n)(h':zDQ S' S'' W n):zDQ S S'' W n:=
 ⟨fun b x hb=>h'.le b x (h.le b x hb),fun b hb eG=>by
  cases hs:S' b with
  |none=>exact h'.nw b hs eG
  |some x=>exact h.nw b hb (by grind)⟩
abbrev Ctx.at(Γ:Ctx)(S:Stb):Ctx:={ Γ with St:=S }
def kQ(Γ:Ctx)(E:Env)(a:Act)(w:World):Prop:=∃S,zDQ Γ.St S Γ.W Γ.w0.heap.size∧Sim (Γ.at S) E a w
theorem kQ.of{Γ:Ctx}{E:Env}{a:Act}{w:World}(h:Sim Γ E a w):kQ Γ E a w:=⟨Γ.St,.refl,h⟩
theorem kQ.up{Γ:Ctx}{E:Env}{a:Act}{w:World}{S:Stb}(hS:zDQ Γ.St S Γ.W Γ.w0.heap.size)(h:kQ (Γ.at S) E a w):kQ Γ E a w:=by obtain⟨S',h1,h2⟩:=h;exact⟨S',hS.trans h1,h2⟩
structure jS (chg:Chg) (G:Gh) (w:World) (G':Gh) (w':World):Prop where
 hd:∀s p,Off chg s p→G'.hd s p=G.hd s p
 ad:∀s p,Off chg s p→G'.ad s p=G.ad s p
 lb:∀b o f s p,(∃y,G.ow b=iz (s,y))→G.lb b o=iz (f,s,p)→(∀n,(s,n)∉chg)→G'.lb b o=iz (f,s,p)∧yJ w' b o=yJ w b o
 ow:∀b s p,G.ow b=iz (s,p)→(∀n,(s,n)∉chg)→G'.ow b=iz (s,p)
 blk:Blk w w'
theorem Off.of_not{chg:Chg}{s:Nat}(h:∀n,(s,n)∉chg)(p:List Nat):Off chg s p:=fun n hn=>absurd hn (h n)
section
variable {Γ:Ctx}{G G':Gh}{w w':World}{s:Nat}{chg:Chg}
mutual
theorem zB3{s':Nat}:(t:T)→ ∀(p p':List Nat),(∀z,G'.hd s' (z++p')=G.hd s (z++p))→vals G' s' t p'=vals G s t p
 |.agg xs,p,p',h=>by simp only[vals];exact zEF xs p p' 0 h
 |.any,p,p',h|.lit _,p,p',h|.ro _,p,p',h|.same _ _,p,p',h|.addr _ _,p,p',h|.sub _ _ _ _ _,p,p',h|.sl _ _,p,p',h|.ptr _,p,p',h|.tup _,p,p',h=>by simp only[vals];rw[show G'.hd s' p'=G.hd s p from by simpa using h []]
theorem zEF{s':Nat}:(xs:List T)→ ∀(p p':List Nat)(j:Nat),(∀z,G'.hd s' (z++p')=G.hd s (z++p))→yF G' s' xs p' j=yF G s xs p j
 | [],_,_,_,_=>by rfl
 |x::xs,p,p',j,h=>by simp only[yF];rw[zB3 x (j::p) (j::p') (fun z=>by have:=h (z++[j]);grind),zEF xs p p' (j+1) h]
end
theorem zCn{s':Nat}(t:T)(p p':List Nat)(h:∀z,G'.hd s' (z++p')=G.hd s (z++p)):sK G' s' t p'=sK G s t p:=by
 unfold sK;split
 ·grind[zEF]
 ·simpa using h []
theorem zOx{s':Nat}:(xs:List T)→ ∀(p p':List Nat)(j:Nat),(∀z,G'.hd s' (z++p')=G.hd s (z++p))→zAx G' s' xs p' j=zAx G s xs p j
 | [],_,_,_,_=>by rfl
 |x::xs,p,p',j,h=>by simp only[zAx];rw[zCn x (j::p) (j::p') (fun z=>by have:=h (z++[j]);simpa using this),zOx xs p p' (j+1) h]
theorem zFz{s':Nat}(t:T)(p p':List Nat)(h:∀z,G'.hd s' (z++p')=G.hd s (z++p)):mkV G' s' t p'=mkV G s t p:=by
 unfold mkV;split
 ·grind[zEF]
 ·grind[zOx]
 ·simpa using h []
theorem jS.moves(hk:jS chg G w G' w')(hs:∀n,(s,n)∉chg)(p:List Nat):zIN G w G' w' s p s p where
 hd _:=hk.hd _ _ (.of_not hs _)
 ad _ _:=hk.ad _ _ (.of_not hs _)
 lb b o f _ _ hH hl:=hk.lb b o f s _ hH hl hs
 ow b _ _ hl:=hk.ow b s _ hl hs
 sp b o hH hl:=hk.lb b o iB s _ hH hl hs
 ow0 b hl:=hk.ow b s _ hl hs
 blk:=hk.blk
theorem jS.keepR(hk:jS chg G w G' w'){t:T}(h:yN (Off chg) t):yN (zAK G G') t:=
 yN.mono (fun r p hr=>⟨hk.hd r p hr,hk.ad r p hr⟩) t h
theorem Ent.keep(hk:jS chg G w G' w')(hs:∀n,(s,n)∉chg){v:Option Value}{t:T}(ht:t.okB chg=iB)(h:Ent Γ G w v s t):Ent Γ G' w' v s t:=by
 obtain⟨h1,h2,h3⟩:=h;refine⟨?_,?_,h3⟩
 ·rw[h1,zFz t [] [] (fun z=>hk.hd _ _ (.of_not hs _))]
 ·simpa using zRf (hk.moves hs []) t [] (hk.keepR (zAR t h3 ht)) (by grind)
end
theorem vJ{Γ:Ctx}{E:Env}{G G':Gh}{tmps tmps':Array Value}{w w':World}{wr:Wr}{chg:Chg}(h:Rep Γ E G tmps w)
  (gQ:tmps'.size=tmps.size)(hk:jS chg G w G' w')(gu:Mem Γ G' w')
  (gJ:∀s,wr.find s=iA→(∀n,(s,n)∉chg)∧tmps'[s]? =tmps[s]?)
  (ey:∀s t,wr.find s=iz (iz t)→Ent Γ G' w' tmps'[s]? s t):Rep Γ (E.app wr chg) G' tmps' w' where
 size:=by rw[gQ,h.size]
 mem:=gu
 ent s t hs:=by
  unfold Env.app at hs;cases hf:wr.find s with
  |some x=>
   grind
  |none=>
   rw[hf]at hs;simp at hs;cases he:E s with
   |none=>grind
   |some u=>
    simp[he]at hs;obtain⟨gB,rfl⟩:=hs;rw[(gJ s hf).2];exact Ent.keep hk (gJ s hf).1 gB (h.ent s u he)
end Go.Ab

namespace Go.Ab
open Go
mutual
def cpT(s:Nat):T→List Nat→T
 |.lit v,_=>.lit v
 |.ro t,_=>.ro t
 |.same r q,_=>.same r q
 |.addr r q,_=>.addr r q
 |.sub r q k lo hi,_=>.sub r q k lo hi
 |.agg xs,p=>.agg (cpF s xs p 0)
 |.any,p|.sl _ _,p|.ptr _,p|.tup _,p=>.same s p
def cpF(s:Nat):List T→List Nat→Nat→List T
 | [],_,_=>[]
 |x::xs,p,j=>cpT s x (j::p)::cpF s xs p (j+1)
end
mutual
theorem qL(s:Nat):(t:T)→ ∀p,Top (cpT s t p)
 |.agg xs,p=>by simp only[cpT,Top];exact zOy s xs p 0
 |.lit _,_|.ro _,_|.same _ _,_|.addr _ _,_|.sub _ _ _ _ _,_|.any,_|.sl _ _,_|.ptr _,_|.tup _,_=>by simp only[cpT,Top]
theorem zOy(s:Nat):(xs:List T)→ ∀p j,uI (cpF s xs p j)
 | [],_,_=>by simp only[cpF,uI]
 |x::xs,p,j=>by simp only[cpF,uI];exact⟨qL s x _,zOy s xs p _⟩
end
section
variable {St:Stb}{G G':Gh}{w w':World}{s d:Nat}
mutual
theorem zEh(hs:∀p,G'.hd s p=G.hd s p):(t:T)→ ∀(p p':List Nat),(∀z,G'.hd d (z++p')=G.hd s (z++p))→(∀xs,t≠.tup xs)→yN (zAK G G') (cpT s t p)→R St G w s t p→R St G' w' d (cpT s t p) p'
 |.lit _,p,p',hd,_,_,h=>by simp only[cpT,R]at h ⊢;rw[show G'.hd d p'=_ from by simpa using hd []];exact h
 |.ro _,p,p',hd,_,_,h=>by simp only[cpT,R]at h ⊢;rw[show G'.hd d p'=_ from by simpa using hd []];exact h
 |.same r q,p,p',hd,_,hk,h=>by simp only[cpT,R,yN]at h hk ⊢;rw[show G'.hd d p'=_ from by simpa using hd [],hk.1];exact h
 |.addr r q,p,p',hd,_,hk,h=>by simp only[cpT,R,yN]at h hk ⊢;rw[show G'.hd d p'=_ from by simpa using hd [],hk.2];exact h
 |.sub r q k lo hi,p,p',hd,_,hk,h=>by simp only[cpT,R,yN]at h hk ⊢;rw[show G'.hd d p'=_ from by simpa using hd [],hk.1];exact h
 |.any,p,p',hd,_,_,_|.sl _ _,p,p',hd,_,_,_|.ptr _,p,p',hd,_,_,_=>by simp only[cpT,R];rw[show G'.hd d p'=_ from by simpa using hd [],hs]
 |.tup xs,_,_,_,h,_,_=>absurd rfl (h xs)
 |.agg xs,p,p',hd,_,hk,h=>by simp only[cpT,R,yN]at h hk ⊢;exact zJL hs xs p p' 0 hd hk h
theorem zJL(hs:∀p,G'.hd s p=G.hd s p):(xs:List T)→ ∀(p p':List Nat)(j:Nat),(∀z,G'.hd d (z++p')=G.hd s (z++p))→xH (zAK G G') (cpF s xs p j)→RF St G w s xs p j→RF St G' w' d (cpF s xs p j) p' j
 | [],_,_,_,_,_,_=>by simp only[cpF,RF]
 |x::xs,p,p',j,hd,hk,h=>by
  simp only[cpF,RF,xH]at h hk ⊢
  refine⟨?_,zJL hs xs p p' (j+1) hd hk.2 h.2⟩
  by_cases hx:∃ys,x=.tup ys
  ·obtain⟨ys,rfl⟩:=hx
   simp only[cpT,R];rw[show G'.hd d (j::p')=_ from by simpa using hd [j],hs]
  ·exact zEh hs x (j::p) (j::p') (fun z=>by have:=hd (z++[j]);simpa using this) (fun ys e=>hx ⟨ys,e⟩) hk.1 h.1
end
mutual
theorem zPS:(t:T)→ ∀(p p':List Nat),(∀z,G'.hd d (z++p')=G.hd s (z++p))→vals G' d (cpT s t p) p'=vals G s t p
 |.agg xs,p,p',h=>by simp only[cpT,vals];exact zEi xs p p' 0 h
 |.any,p,p',h|.lit _,p,p',h|.ro _,p,p',h|.same _ _,p,p',h|.addr _ _,p,p',h|.sub _ _ _ _ _,p,p',h|.sl _ _,p,p',h|.ptr _,p,p',h|.tup _,p,p',h=>by simp only[cpT,vals];rw[show G'.hd d p'=G.hd s p from by simpa using h []]
theorem zEi:(xs:List T)→ ∀(p p':List Nat)(j:Nat),(∀z,G'.hd d (z++p')=G.hd s (z++p))→yF G' d (cpF s xs p j) p' j=yF G s xs p j
 | [],_,_,_,_=>by rfl
 |x::xs,p,p',j,h=>by simp only[cpF,yF];rw[zPS x (j::p) (j::p') (fun z=>by have:=h (z++[j]);grind),zEi xs p p' (j+1) h]
end
theorem zBh(t:T)(p p':List Nat)(ht:∀xs,t≠.tup xs)(h:∀z,G'.hd d (z++p')=G.hd s (z++p)):mkV G' d (cpT s t p) p'=sK G s t p:=by
 cases t with
 |agg xs=>grind[cpT,mkV,sK,zEi]
 |tup xs=>grind
 |_=>simpa[cpT,mkV,sK]using h []
end
theorem zAy(G:Gh)(s:Nat)(t:T)(p:List Nat)(ht:∀xs,t≠.tup xs):mkV G s t p=sK G s t p:=by
 cases t with
 |tup xs=>grind
 |_=>rfl
def Gh.put(G:Gh)(d:Nat)(f:List Nat→Value):Gh:={ G with hd:=fun s z=>if s=d then f z else G.hd s z }
theorem Gh.put_other(G:Gh){d s:Nat}(f:List Nat→Value)(p:List Nat)(h:s≠d):(G.put d f).hd s p=G.hd s p:=by simp[Gh.put,h]
theorem Gh.put_self(G:Gh)(d:Nat)(f:List Nat→Value)(p:List Nat):(G.put d f).hd d p=f p:=by simp[Gh.put]
theorem zYs{d s:Nat}{p:List Nat}(h:Off [(d,0)] s p):s≠d:=by
 rintro rfl
 exact absurd (h 0 (by simp)) (by simp)
theorem Gh.put_keep(G:Gh){w w':World}(hw:w'.heap=w.heap)(d:Nat)(f:List Nat→Value):jS [(d,0)] G w (G.put d f) w' where
 hd s p h:=G.put_other f p (zYs h)
 ad _ _ _:=rfl
 lb b o f' s p _ h _:=⟨h,by grind[yJ,World.cell?]⟩
 ow b s p h _:=h
 blk b cs e h:=by grind
theorem Mem.put{Γ:Ctx}{G:Gh}{w w':World}(h:Mem Γ G w)(hw:w'.heap=w.heap)(d:Nat)(f:List Nat→Value)(hf:∀z,(f z).oneCell'=iB)(ho:w'.os=w.os:=by rfl)(hq:w'.output=w.output:=by rfl):Mem Γ (G.put d f) w' where
 one s p:=by unfold Gh.put;dsimp only;split;exact hf p;exact h.one s p
 lb b o l hl:=by have:=h.lb b o l hl;exact⟨by rw[hw];exact this.1,this.2⟩
 ow b l hl:=by have:=h.ow b l hl;exact⟨by rw[hw];exact this.1,this.2⟩
 st b x hx:=by rw[hw];exact h.st b x hx
 fr b h1 h2:=by rw[hw];exact h.fr b h1 h2
 sz:=by rw[hw];exact h.sz
 bk:=h.bk.trans (fun b cs e hb=>by grind) ho hq
theorem tU(d:Nat)(x:Option T)(s:Nat):Wr.find [(d,x)] s=if d=s then iz x else iA:=by rfl
theorem vB{Γ:Ctx}{E:Env}{G:Gh}{tmps:Array Value}{w w':World}(h:Rep Γ E G tmps w)(hw:w'.heap=w.heap){d:Nat}(hd:d<Γ.N)
  (f:List Nat→Value)(hf:∀z,(f z).oneCell'=iB)(t:T)(v:Value)(hv:v=mkV (G.put d f) d t [])(hr:R Γ.St (G.put d f) w' d t [])(ht:Top t)(ho:w'.os=w.os:=by rfl)(hq:w'.output=w.output:=by rfl):
  Rep Γ (E.app [(d,iz t)] [(d,0)]) (G.put d f) (tmps.setIfInBounds d v) w':=by
 refine vJ h (by simp) (G.put_keep hw d f) (h.mem.put hw d f hf ho hq) ?_ ?_
 ·grind[tU]
 ·intro s t' hs
  rw[tU]at hs;split at hs
  ·rename_i he
   subst he;simp at hs;subst hs;refine⟨?_,hr,ht⟩;rw[Jc];simp[h.size,hd,hv]
  ·cases hs
def xW(P:Program)(Γ:Ctx)(o:Oper)(E E':Env):Prop:=
 ∀(a:Act)(w:World)(K:Act→World→Prop)(Q:Exit→Act→World→Prop),Sim Γ E a w→(∀a' w',kQ Γ E' a' w'→K a' w')→o.wp P a w K Q
def opT(E:Env):Operand→Option T
 |.tmp s=>E s
 |.const v=>if v.oneCell' then iz (.lit v)else iA
 |.func f=>iz (.lit (.func (.func f) #[] #[]))
 |.global _=>iA
def uU(x:Operand)(t:T):T:=match x with
 |.tmp s=>cpT s t []
 |_=>t
section
variable {P:Program}{Γ:Ctx}{E E':Env}{o:Oper}{d:Nat}
theorem xP{a:Act}{s:Nat}{v:Value}(h:a.tmps[s]? =iz v):a.eval (.tmp s)=v:=by simp[Act.eval,Kd,h]
theorem xW.value(ho:o.dst=iz d)
  (h:∀(a:Act)(w:World)(G:Gh),Rep Γ E G a.tmps w→ ∃v w',(execOp a.eval o).run P w=.ok (.value v) w'∧ ∃G',Rep Γ E' G' (a.tmps.setIfInBounds d v) w'):xW P Γ o E E':=by
 intro a w K Q ⟨gZ,G,gc⟩ hK;obtain⟨v,w',gz,G',fe⟩:=h a w G gc;unfold Oper.wp;rw[gz,Oper.upon_value];refine hK _ _ ?_;rw[ho];exact .of ⟨gZ,G',fe⟩
theorem xW.skip(ho:o.dst=iA)
  (h:∀(a:Act)(w:World)(G:Gh),Rep Γ E G a.tmps w→ ∃w',(execOp a.eval o).run P w=.ok .skip w'∧ ∃G',Rep Γ E' G' a.tmps w'):xW P Γ o E E':=by
 intro a w K Q ⟨gZ,G,gc⟩ hK;obtain⟨w',gz,G',fe⟩:=h a w G gc;unfold Oper.wp;rw[gz,Oper.upon_skip];refine hK _ _ ?_;rw[ho];exact .of ⟨gZ,G',fe⟩
theorem opd{G:Gh}{a:Act}{w:World}(gc:Rep Γ E G a.tmps w){x:Operand}{t:T}(hx:opT E x=iz t)(ht:∀xs,t≠.tup xs):
  ∃f:List Nat→Value,(∀z,(f z).oneCell'=iB)∧(∀d,(∀s,x=.tmp s→s≠d)→T.okB [(d,0)] (uU x t)=iB→
   a.eval x=mkV (G.put d f) d (uU x t) []∧R Γ.St (G.put d f) w d (uU x t) [])∧Top (uU x t):=by
 cases x with
 |tmp s=>
  obtain⟨h1,h2,h3⟩:=gc.ent s t hx;refine⟨fun z=>G.hd s z,fun z=>gc.mem.one s z,?_,qL s t []⟩;intro d gf gB;have eM:=gf s rfl;have hk:=G.put_keep (w:=w) (w':=w) rfl d (fun z=>G.hd s z);have hz:∀z,(G.put d (fun z=>G.hd s z)).hd d (z++[])=G.hd s (z++[]):=by grind[Gh.put_self]
  refine⟨?_,?_⟩
  ·grind[xP,uU,zBh,zAy]
  ·exact zEh (fun p=>G.put_other _ p eM) t [] [] hz ht (hk.keepR (zAR _ (qL s t []) gB)) h2
 |const v=>
  simp only[opT]at hx;split at hx
  ·rename_i gn
   simp at hx;subst hx;exact⟨fun _=>v,fun _=>gn,fun d _ _=>⟨by simp[Act.eval,uU,mkV,Gh.put],by simp[uU,R,Gh.put]⟩,by simp[uU,Top]⟩
  ·cases hx
 |func f=>
  simp only[opT]at hx;simp at hx;subst hx;exact⟨fun _=>.func (.func f) #[] #[],fun _=>rfl,fun d _ _=>⟨by simp[Act.eval,uU,mkV,Gh.put],by simp[uU,R,Gh.put]⟩,by simp[uU,Top]⟩
 |global g=>cases hx
theorem zOz(x:Operand)(t:T)(ho:o.op=.move x∨o.op=.assign x)(gj:o.dst=iz d)(hd:d<Γ.N)(hx:opT E x=iz t)(ht:∀xs,t≠.tup xs)
  (gf:∀s,x=.tmp s→s≠d)(gB:T.okB [(d,0)] (uU x t)=iB):xW P Γ o E (E.app [(d,iz (uU x t))] [(d,0)]):=by
 refine xW.value gj fun a w G gc=>?_
 obtain⟨f,hf,h1,h2⟩:=opd gc hx ht;obtain⟨h3,h4⟩:=h1 d gf gB;refine⟨a.eval x,w,?_,_,vB gc rfl hd f hf _ _ h3 h4 h2⟩;rcases ho with ho|ho<;>simp[execOp,ho]
theorem yT{G:Gh}{a:Act}{w:World}(gc:Rep Γ E G a.tmps w){x:Operand}{v:Value}(hx:opT E x=iz (.lit v)):a.eval x=v∧v.oneCell'=iB:=by
 cases x with
 |tmp s=>
  obtain⟨h1,h2,_⟩:=gc.ent s _ hx;simp only[R]at h2;refine⟨?_,by rw[←h2];exact gc.mem.one s []⟩
  grind[xP,mkV]
 |const u=>
  simp only[opT]at hx;split at hx
  ·simp at hx;subst hx;exact⟨rfl,by assumption⟩
  ·cases hx
 |func f=>simp only[opT]at hx;simp at hx;subst hx;exact⟨rfl,rfl⟩
 |global g=>cases hx
theorem tO(v:Value)(hv:v.oneCell'=iB)(gj:o.dst=iz d)(hd:d<Γ.N)
  (h:∀(a:Act)(w:World)(G:Gh),Rep Γ E G a.tmps w→(execOp a.eval o).run P w=.ok (.value v) w):xW P Γ o E (E.app [(d,iz (.lit v))] [(d,0)]):=by
 refine xW.value gj fun a w G gc=>?_
 exact⟨v,w,h a w G gc,_,vB gc rfl hd (fun _=>v) (fun _=>hv) (.lit v) v (by simp[mkV,Gh.put]) (by simp[R,Gh.put]) (by simp[Top])⟩
def zJM(op:BinOp)(k:IntKind)(a b:Int):Option Value:=
 match op with
 |.add=>iz (.int k (k.wrap (a+b)))
 |.sub=>iz (.int k (k.wrap (a-b)))
 |.mul=>iz (.int k (k.wrap (a*b)))
 |.quo=>if b=0 then iA else iz (.int k (k.wrap (a.tdiv b)))
 |.rem=>if b=0 then iA else iz (.int k (a.tmod b))
 |.eql=>iz (.bool (a==b))
 |.neq=>iz (.bool (a != b))
 |.lss=>iz (.bool (decide (a<b)))
 |.leq=>iz (.bool (decide (a≤b)))
 |.gtr=>iz (.bool (decide (a> b)))
 |.geq=>iz (.bool (decide (a≥b)))
 |_=>iA
theorem zRj{op:BinOp}{k:IntKind}{a b:Int}{v:Value}(h:zJM op k a b=iz v):v.oneCell'=iB:=by cases op<;>simp[zJM]at h<;>first|(subst h;rfl)|(obtain⟨_,rfl⟩:=h;rfl)
theorem uE(op:BinOp)(xt yt:TypeId)(x y:Operand)(k:IntKind)(m n:Int)(v:Value)(ho:o.op=.binOp op xt x y yt)(gj:o.dst=iz d)(hd:d<Γ.N)
  (hx:opT E x=iz (.lit (.int k m)))(hy:opT E y=iz (.lit (.int k n)))(hv:zJM op k m n=iz v):xW P Γ o E (E.app [(d,iz (.lit v))] [(d,0)]):=by
 refine tO v (zRj hv) gj hd fun a w G gc=>?_
 have h1:=(yT gc hx).1;have h2:=(yT gc hy).1;cases op<;>simp[zJM]at hv<;>
  first
   |(subst hv;simp[execOp,ho,h1,h2,eqGuard,binOp,Op.intArith,Op.intCmp];done)
   |(obtain⟨h0,rfl⟩:=hv;simp[execOp,ho,h1,h2,eqGuard,binOp,Op.intDiv,h0])
theorem zYt(xt:TypeId)(x:Operand)(b:Bool)(ho:o.op=.unOp .not xt x)(gj:o.dst=iz d)(hd:d<Γ.N)
  (hx:opT E x=iz (.lit (.bool b))):xW P Γ o E (E.app [(d,iz (.lit (.bool !b)))] [(d,0)]):=by
 refine tO _ rfl gj hd fun a w G gc=>?_
 have h1:=(yT gc hx).1;simp[execOp,ho,h1,Op.unary]
theorem zYu(xt:TypeId)(x:Operand)(k:IntKind)(n:Int)(ho:o.op=.unOp .neg xt x)(gj:o.dst=iz d)(hd:d<Γ.N)
  (hx:opT E x=iz (.lit (.int k n))):xW P Γ o E (E.app [(d,iz (.lit (.int k (k.wrap (0-n)))))] [(d,0)]):=by
 refine tO _ rfl gj hd fun a w G gc=>?_
 have h1:=(yT gc hx).1;simp[execOp,ho,h1,Op.unary,Op.intArith]
theorem zVf(src dst:TypeId)(ds:TypeDesc)(x:Operand)(k k':IntKind)(n:Int)(ho:o.op=.convert src dst x)(gj:o.dst=iz d)(hd:d<Γ.N)
  (hs:P.underlying src=iz ds)(ht:P.underlying dst=iz (.int k'))(hx:opT E x=iz (.lit (.int k n))):
  xW P Γ o E (E.app [(d,iz (.lit (.int k' (k'.wrap n))))] [(d,0)]):=by
 refine tO _ rfl gj hd fun a w G gc=>?_
 have h1:=(yT gc hx).1;simp[execOp,ho,h1,convert,run_underlying hs,run_underlying ht,Conv.intToInt]
theorem zVg(c x y:Operand)(b:Bool)(t:T)(ho:o.op=.pick c x y)(gj:o.dst=iz d)(hd:d<Γ.N)
  (hc:opT E c=iz (.lit (.bool b)))(hx:opT E (if b then x else y)=iz t)(ht:∀xs,t≠.tup xs)
  (gf:∀s,(if b then x else y)=.tmp s→s≠d)(gB:T.okB [(d,0)] (uU (if b then x else y) t)=iB):xW P Γ o E (E.app [(d,iz (uU (if b then x else y) t))] [(d,0)]):=by
 refine xW.value gj fun a w G gc=>?_
 obtain⟨f,hf,h1,h2⟩:=opd gc hx ht;obtain⟨h3,h4⟩:=h1 d gf gB;refine⟨a.eval (if b then x else y),w,?_,_,vB gc rfl hd f hf _ _ h3 h4 h2⟩;have h5:=(yT gc hc).1;cases b<;>simp[execOp,ho,h5,asBool]
end
end Go.Ab

namespace Go.Ab
open Go
def qP(E:Env):Nat→Nat→List Nat→Option (Nat×List Nat×T)
 |0,_,_=>iA
 |n+1,r,q=>match E r with
  |some t=>match t.get q.reverse with
   |some (.same r' q')=>qP E n r' q'
   |some u=>iz (r,q,u)
   |none=>iA
  |none=>iA
def tL(E:Env):Operand→Option (Nat×List Nat×T)
 |.tmp s=>qP E 4 s []
 |_=>iA
def T.single:T→Bool
 |.agg _|.tup _=>iC
 |_=>iB
theorem xJ{G:Gh}{s:Nat}{t:T}{p:List Nat}(h:t.single=iB):mkV G s t p=G.hd s p:=by cases t<;>simp[T.single]at h<;>rfl
section
variable {P:Program}{Γ:Ctx}{E:Env}{o:Oper}{d:Nat}
theorem zD2{G:Gh}{a:Act}{w:World}(gc:Rep Γ E G a.tmps w):∀(n s:Nat)(p:List Nat)(r:Nat)(q:List Nat)(u:T),qP E n s p=iz (r,q,u)→
  R Γ.St G w r u q∧G.hd s p=G.hd r q∧(∃t,E r=iz t∧t.get q.reverse=iz u)
 |0,_,_,_,_,_,h=>by simp[qP]at h
 |n+1,s,p,r,q,u,h=>by
  simp only[qP]at h;split at h
  ·rename_i t ht
   obtain⟨_,h4,_⟩:=gc.ent _ _ ht;split at h
   ·rename_i r' q' hg
    obtain⟨h1,h2,h3⟩:=zD2 gc n r' q' r q u h;have h5:=(zAL p.reverse t _ [] h4 hg).1;simp only[rp,K0,J9,R]at h5;exact⟨h1,h5.trans h2,h3⟩
   ·rename_i u' hns hg
    simp at h;obtain⟨rfl,rfl,rfl⟩:=h;have h5:=(zAL p.reverse t _ [] h4 hg).1;simp only[rp,K0,J9]at h5;exact⟨h5,rfl,t,ht,hg⟩
   ·cases h
  ·cases h
theorem qQ{G:Gh}{a:Act}{w:World}(gc:Rep Γ E G a.tmps w){x:Operand}{r:Nat}{q:List Nat}{u:T}(h:tL E x=iz (r,q,u))(hu:u.single=iB):
  R Γ.St G w r u q∧a.eval x=G.hd r q:=by
 cases x with
 |tmp s=>
  obtain⟨h1,h2,_⟩:=zD2 gc 4 s [] r q u h;refine⟨h1,?_⟩;rw[←h2];simp only[tL,qP]at h;split at h
  ·rename_i t ht
   obtain⟨h3,_,_⟩:=gc.ent s _ ht;rw[xP h3];simp only[Ha,T.get]at h;have:t.single=iB:=by cases t<;>first|rfl|(simp at h;obtain⟨_,_,rfl⟩:=h;simp[T.single]at hu)
   exact xJ this
  ·cases h
 |_=>simp[tL]at h
theorem zGC{St:Stb}{G:Gh}{w:World}{s:Nat}{k:Nat}{xs:List T}{p:List Nat}(h:R St G w s (.sl k xs) p):∃a c,G.hd s p=.slice a xs.length c:=by
 simp only[R]at h;rcases h with⟨rfl,a,h⟩|⟨b,_,cap,_,_,h,_⟩
 ·exact⟨a,0,h⟩
 ·exact⟨_,_,h⟩
theorem zD3{St:Stb}{G:Gh}{w:World}{s:Nat}{k:Nat}{xs:List T}{p:List Nat}(h:R St G w s (.ro (.sl k xs)) p):∃a c,G.hd s p=.slice a xs.length c∧xs.length≤c∧c≤maxLen∧
   (xs≠[]→ ∃b o' cs' e fr,a=iz ⟨b,o',iA⟩∧St b=iz (.cells cs' e fr)∧RoL St xs cs' o' k):=by
 simp only[R,RoC]at h;obtain⟨a,c,h1,h2,h3,h4⟩:=h;exact⟨a,c,by simpa using h1,h2,h3,h4⟩
def zKI:T→Option Nat
 |.sl _ xs|.ro (.sl _ xs)=>iz xs.length
 |.lit (.slice _ n _)=>iz n
 |.lit (.string s)=>iz s.size
 |_=>iA
def zVh:T→TypeDesc→Bool
 |.lit (.string _),.string=>iB
 |.sl _ _,.slice _|.ro (.sl _ _),.slice _|.lit (.slice _ _ _),.slice _=>iB
 |_,_=>iC
theorem zRk(x:Operand)(t:TypeId)(ds:TypeDesc)(r:Nat)(q:List Nat)(u:T)(n:Nat)(ho:o.op=.call { callee:=.builtin .len,args:=#[x],argTypes:=#[t] })(gj:o.dst=iz d)(hd:d<Γ.N)
  (ht:P.underlying t=iz ds)(hx:tL E x=iz (r,q,u))(hl:zKI u=iz n)(py:zVh u ds=iB):
  xW P Γ o E (E.app [(d,iz (.lit (.int .i64 n)))] [(d,0)]):=by
 refine tO (.int .i64 n) rfl gj hd fun a w G gc=>?_
 have hu:u.single=iB:=by cases u<;>simp[zKI]at hl<;>rfl
 obtain⟨h1,h2⟩:=qQ gc hx hu;have h3:(Builtin.len_ #[t] o.type #[G.hd r q]).run P w=.ok (.int .i64 n) w:=by
  cases u with
  |sl k xs=>
   obtain⟨a',c,h4⟩:=zGC h1;simp[zKI]at hl;subst hl;cases ds<;>simp[zVh]at py
   simp[Builtin.len_,run_underlying ht,h4,goInt]
  |ro t'=>
   cases t'<;>simp[zKI]at hl
   obtain⟨a',c,h4,_⟩:=zD3 h1;subst hl;cases ds<;>simp[zVh]at py
   simp[Builtin.len_,run_underlying ht,h4,goInt]
  |lit v=>
   simp only[R]at h1;cases v<;>simp[zKI]at hl<;>(subst hl;cases ds<;>simp[zVh]at py;simp[Builtin.len_,run_underlying ht,h1,goInt])
  |_=>simp[zKI]at hl
 simp[execOp,ho,resolve,invoke,builtin,h2,h3]
theorem zCo{G:Gh}{w:World}{s:Nat}{t:T}{p:List Nat}{b o:Nat}(h:Loc G w s t p b o):G.ad s p=⟨b,o,iA⟩:=by cases t<;>simp only[Loc]at h<;>first|exact h.1|exact h.elim
theorem vW(b o n:Nat):(⟨b,o,iA⟩:Addr).add n=⟨b,o+n,iA⟩:=by
 unfold Addr.add;split
 ·rename_i h;subst h;rfl
 ·rfl
theorem zO0{St:Stb}{G:Gh}{w:World}{s:Nat}{k:Nat}{xs:List T}{p:List Nat}(h:R St G w s (.sl k xs) p){i:Nat}(hi:i<xs.length):
  ∃b o0 cap,G.hd s p=.slice (iz ⟨b,o0,iA⟩) xs.length cap∧G.ad s (i::p)=⟨b,o0+i*k,iA⟩:=by
 simp only[R]at h;rcases h with⟨rfl,_⟩|⟨b,o0,cap,cs,e,h1,h2,h3,h4,h5,h6,h7,h8⟩
 ·simp at hi
 ·have:=(kN xs p 0 b o0 k i xs[i] h8 (by simp[hi])).1
  simp only[J8]at this;exact⟨b,o0,cap,h1,zCo this⟩
theorem zX3(x y:Operand)(t e:TypeId)(ti:TypeInfo)(r:Nat)(q:List Nat)(k:Nat)(xs:List T)(kd:IntKind)(i:Int)(ho:o.op=.indexAddr t x y)(gj:o.dst=iz d)(hd:d<Γ.N)
  (ht:P.underlying t=iz (.slice e))(he:P.info? e=iz ti)(hk:ti.size=k)(hx:tL E x=iz (r,q,.sl k xs))(hy:opT E y=iz (.lit (.int kd i)))(h0:0≤i)(h1:i.toNat<xs.length):
  xW P Γ o E (E.app [(d,iz (.addr r (i.toNat::q)))] [(d,0)]):=by
 refine xW.value gj fun a w G gc=>?_
 obtain⟨g1,g2⟩:=qQ gc hx rfl;have g3:=(yT gc hy).1;obtain⟨b,o0,cap,g4,g5⟩:=zO0 g1 h1;refine⟨.pointer (iz (G.ad r (i.toNat::q))),w,?_,_,vB gc rfl hd (fun _=>.pointer (iz (G.ad r (i.toNat::q)))) (fun _=>rfl) _ _ (by simp[mkV,Gh.put]) (by simp[R,Gh.put]) (by simp[Top])⟩;have gH:i<(xs.length:Int):=by omega
 simp[execOp,ho,Instr.indexAt,g3,g2,g4,asIntOf,run_underlying ht,h0,gH,sizeOf,typeInfo,he,hk,vW,g5]
theorem zGD{St:Stb}:(xs:List T)→ ∀(cs:Array Value)(o k i:Nat)(x:T),RoL St xs cs o k→xs[i]? =iz x→RoC St x cs (o+i*k)
 | [],_,_,_,_,_,_,h=>by simp at h
 |y::ys,cs,o,k,i,x,hr,h=>by
  simp only[RoL]at hr;cases i with
  |zero=>simp at h;subst h;simpa using hr.1
  |succ i=>
   have:=zGD ys cs (o+k) k i x hr.2 (by simpa using h)
   rwa [show o+(i+1)*k=o+k+i*k from by rw[L5];omega]
theorem zO1{St:Stb}:(xs:List T)→ ∀(cs:Array Value)(o i:Nat)(x:T),RoF St xs cs o→xs[i]? =iz x→RoC St x cs (o+T.sizes (xs.take i))
 | [],_,_,_,_,_,h=>by simp at h
 |y::ys,cs,o,i,x,hr,h=>by
  simp only[RoF]at hr;cases i with
  |zero=>simp at h;subst h;simpa[T.sizes]using hr.1
  |succ i=>
   have:=zO1 ys cs (o+y.size) i x hr.2 (by simpa using h)
   rwa [Ky,T.sizes,←Lx]
theorem zRl(x y:Operand)(t e:TypeId)(ti:TypeInfo)(r:Nat)(q:List Nat)(k:Nat)(xs:List T)(kd:IntKind)(i:Int)(u:T)(ho:o.op=.indexAddr t x y)(gj:o.dst=iz d)(hd:d<Γ.N)
  (ht:P.underlying t=iz (.slice e))(he:P.info? e=iz ti)(hk:ti.size=k)(hx:tL E x=iz (r,q,.ro (.sl k xs)))(hy:opT E y=iz (.lit (.int kd i)))(h0:0≤i)(h1:xs[i.toNat]? =iz u):
  xW P Γ o E (E.app [(d,iz (.ro (.ptr u)))] [(d,0)]):=by
 refine xW.value gj fun a w G gc=>?_
 obtain⟨g1,g2⟩:=qQ gc hx rfl;have g3:=(yT gc hy).1;have uc:i.toNat<xs.length:=(Je.1 h1).1;obtain⟨a',c,g4,_,_,g5⟩:=zD3 g1;obtain⟨b,o',cs',e',fr,rfl,g6,g7⟩:=g5 (by rintro rfl;simp at uc);have g8:=zGD xs cs' o' k i.toNat u g7 h1;refine⟨.pointer (iz ⟨b,o'+i.toNat*k,iA⟩),w,?_,_,vB gc rfl hd (fun _=>.pointer (iz ⟨b,o'+i.toNat*k,iA⟩)) (fun _=>rfl) _ _ (by simp[mkV,Gh.put]) ?_ (by simp[Top])⟩
 ·have gH:i<(xs.length:Int):=by omega
  simp[execOp,ho,Instr.indexAt,g3,g2,g4,asIntOf,run_underlying ht,h0,gH,sizeOf,typeInfo,he,hk,vW]
 ·simp only[R,Gh.put_self,RoC]
  exact⟨b,_,cs',e',fr,by simp,g6,g8⟩
theorem zCM:(xs:List T)→ ∀{G:Gh}{w:World}{s:Nat}(p:List Nat)(j b o i:Nat)(x:T),vD G w s xs p j b o→xs[i]? =iz x→
  Loc G w s x ((j+i)::p) b (o+T.sizes (xs.take i))
 | [],_,_,_,_,_,_,_,_,_,_,h=>by simp at h
 |y::ys,G,w,s,p,j,b,o,i,x,hr,h=>by
  simp only[vD]at hr;cases i with
  |zero=>simp at h;subst h;simpa[T.sizes]using hr.1
  |succ i=>
   have:=zCM ys p (j+1) b (o+y.size) i x hr.2 (by simpa using h)
   rwa [show j+(i+1)=j+1+i from by omega,Ky,T.sizes,←Lx]
theorem tY{P:Program}{w:World}(a:Addr):(Instr.sureAddr (.pointer (iz a))).run P w=.ok a w:=rfl
theorem zCN{P:Program}{w:World}{S:TypeId}{fs:Array Field}{f:Field}{fi:TypeInfo}{j:Nat}{b o':Nat}(hS:P.underlying S=iz (.struct fs))(hf:fs[j]? =iz f)(hi:P.info? f.type=iz fi)(hz:fi.size≠0):
  (Instr.fieldAt S (.pointer (iz ⟨b,o',iA⟩)) j).run P w=.ok (.pointer (iz ⟨b,o'+f.offset,iA⟩)) w:=by
 simp[Instr.fieldAt,run_underlying hS,hf,tY,fieldPlace,sizeOf,typeInfo,hi,hz,vW]
theorem yAq(x:Operand)(S:TypeId)(fs:Array Field)(f:Field)(fi:TypeInfo)(j:Nat)(r:Nat)(q:List Nat)(xs:List T)(u:T)(ho:o.op=.fieldAddr S x j)(gj:o.dst=iz d)(hd:d<Γ.N)
  (hS:P.underlying S=iz (.struct fs))(hf:fs[j]? =iz f)(hi:P.info? f.type=iz fi)(hz:fi.size≠0)(hx:tL E x=iz (r,q,.ptr (.agg xs)))(hu:xs[j]? =iz u)(gG:T.sizes (xs.take j)=f.offset):
  xW P Γ o E (E.app [(d,iz (.addr r (j::0::q)))] [(d,0)]):=by
 refine xW.value gj fun a w G gc=>?_
 obtain⟨g1,g2⟩:=qQ gc hx rfl;simp only[R]at g1;obtain⟨b,cs,e,g4,_,_,_,g5,_⟩:=g1;simp only[Loc]at g5;have g6:=zCM xs (0::q) 0 b 0 j u g5.2 hu;simp only[J8]at g6;refine⟨.pointer (iz (G.ad r (j::0::q))),w,?_,_,vB gc rfl hd (fun _=>.pointer (iz (G.ad r (j::0::q)))) (fun _=>rfl) _ _ (by simp[mkV,Gh.put]) (by simp[R,Gh.put]) (by simp[Top])⟩;have g7:=zCN (w:=w) (b:=b) (o':=0) hS hf hi hz;simp[execOp,ho,g2,g4,g7,zCo g6,gG]
theorem zMN(x:Operand)(S:TypeId)(fs:Array Field)(f:Field)(fi:TypeInfo)(j:Nat)(r:Nat)(q:List Nat)(t:T)(xs:List T)(u:T)(ho:o.op=.fieldAddr S x j)(gj:o.dst=iz d)(hd:d<Γ.N)
  (hS:P.underlying S=iz (.struct fs))(hf:fs[j]? =iz f)(hi:P.info? f.type=iz fi)(hz:fi.size≠0)(hx:opT E x=iz (.addr r q))(hr:E r=iz t)(hg:t.get q.reverse=iz (.agg xs))(hl:t.locd q.reverse=iB)
  (hu:xs[j]? =iz u)(gG:T.sizes (xs.take j)=f.offset):
  xW P Γ o E (E.app [(d,iz (.addr r (j::q)))] [(d,0)]):=by
 refine xW.value gj fun a w G gc=>?_
 cases x with
 |tmp s=>
  obtain⟨h1,h2,_⟩:=gc.ent s _ hx;obtain⟨_,h4,_⟩:=gc.ent r _ hr;simp only[R]at h2;obtain⟨b,o',cs,e,h6,_,_⟩:=(zAL q.reverse t _ [] h4 hg).2 hl;simp only[rp,K0,J9]at h6;have h7:=zCo h6;simp only[Loc]at h6;have g6:=zCM xs q 0 b o' j u h6.2 hu;simp only[J8]at g6;refine⟨.pointer (iz (G.ad r (j::q))),w,?_,_,vB gc rfl hd (fun _=>.pointer (iz (G.ad r (j::q)))) (fun _=>rfl) _ _ (by simp[mkV,Gh.put]) (by simp[R,Gh.put]) (by simp[Top])⟩;have g7:=zCN (w:=w) (b:=b) (o':=o') hS hf hi hz;simp[execOp,ho,xP h1,mkV,h2,h7,g7,zCo g6,gG]
 |const v=>simp only[opT]at hx;split at hx<;>simp at hx
 |func f=>simp[opT]at hx
 |global g=>simp[opT]at hx
theorem zMO{G:Gh}{a:Act}{w:World}(gc:Rep Γ E G a.tmps w){x:Operand}{u:T}(hx:opT E x=iz (.ro u)):RoC Γ.St u #[a.eval x] 0:=by
 cases x with
 |tmp s=>
  obtain⟨h1,h2,_⟩:=gc.ent s _ hx;simp only[R]at h2;rw[xP h1,xJ rfl];exact h2
 |const v=>simp only[opT]at hx;split at hx<;>simp at hx
 |func f=>simp[opT]at hx
 |global g=>simp[opT]at hx
theorem zRm(x:Operand)(S:TypeId)(fs:Array Field)(f:Field)(fi:TypeInfo)(j:Nat)(xs:List T)(u:T)(ho:o.op=.fieldAddr S x j)(gj:o.dst=iz d)(hd:d<Γ.N)
  (hS:P.underlying S=iz (.struct fs))(hf:fs[j]? =iz f)(hi:P.info? f.type=iz fi)(hz:fi.size≠0)(hx:opT E x=iz (.ro (.ptr (.agg xs))))(hu:xs[j]? =iz u)(gG:T.sizes (xs.take j)=f.offset):
  xW P Γ o E (E.app [(d,iz (.ro (.ptr u)))] [(d,0)]):=by
 refine xW.value gj fun a w G gc=>?_
 have h1:=zMO gc hx;simp only[RoC]at h1;obtain⟨b,o',cs',e,fr,h2,h3,h4⟩:=h1;have h5:=zO1 xs cs' o' j u h4 hu;refine⟨.pointer (iz ⟨b,o'+f.offset,iA⟩),w,?_,_,vB gc rfl hd (fun _=>.pointer (iz ⟨b,o'+f.offset,iA⟩)) (fun _=>rfl) _ _ (by simp[mkV,Gh.put]) ?_ (by simp[Top])⟩
 ·have g7:=zCN (w:=w) (b:=b) (o':=o') hS hf hi hz
  have h6:a.eval x=.pointer (iz ⟨b,o',iA⟩):=by simpa using h2
  simp[execOp,ho,h6,g7]
 ·simp only[R,Gh.put_self,RoC]
  exact⟨b,o'+f.offset,cs',e,fr,by simp,h3,by rw[←gG];exact h5⟩
def zF0:TypeDesc→Bool
 |.struct _|.array _ _=>iB
 |_=>iC
theorem kR{P:Program}{w:World}{t:TypeId}{ds:TypeDesc}(ht:P.underlying t=iz ds):(isAgg t).run P w=.ok (zF0 ds) w:=by cases ds<;>simp[isAgg,run_underlying ht,zF0]
theorem wS{G:Gh}{w:World}{s:Nat}{t:T}{p:List Nat}{b o:Nat}(ht:t.single=iB)(h:Loc G w s t p b o):G.ad s p=⟨b,o,iA⟩∧G.lb b o=iz (iC,s,p)∧yJ w b o=iz (G.hd s p):=by cases t<;>simp[T.single]at ht<;>simpa only[Loc]using h
mutual
theorem zRn{G:Gh}{w:World}{s:Nat}:(t:T)→ ∀(p:List Nat)(b o:Nat),Loc G w s t p b o→ ∀(i:Nat)(v:Value),(vals G s t p)[i]? =iz v→yJ w b (o+i)=iz v
 |.agg xs,p,b,o,h,i,v,hv=>by simp only[Loc,vals]at h hv;exact zBb xs p 0 b o h.2 i v hv
 |.any,p,b,o,h,i,v,hv|.lit _,p,b,o,h,i,v,hv|.ro _,p,b,o,h,i,v,hv|.same _ _,p,b,o,h,i,v,hv|.addr _ _,p,b,o,h,i,v,hv|.sub _ _ _ _ _,p,b,o,h,i,v,hv|.sl _ _,p,b,o,h,i,v,hv|.ptr _,p,b,o,h,i,v,hv=>by
  simp only[Loc,vals]at h hv;cases i with
  |zero=>simp at hv;rw[←hv];exact h.2.2
  |succ i=>simp at hv
 |.tup _,_,_,_,h,_,_,_=>by simp only[Loc]at h
theorem zBb{G:Gh}{w:World}{s:Nat}:(xs:List T)→ ∀(p:List Nat)(j b o:Nat),vD G w s xs p j b o→ ∀(i:Nat)(v:Value),(yF G s xs p j)[i]? =iz v→yJ w b (o+i)=iz v
 | [],_,_,_,_,_,i,v,hv=>by simp[yF]at hv
 |x::xs,p,j,b,o,h,i,v,hv=>by
  simp only[vD,yF]at h hv;rw[Kf]at hv;split at hv
  ·exact zRn x (j::p) b o h.1 i v hv
  ·rename_i hge
   have gm:=wX (G:=G) (s:=s) x (j::p) (fun ys e=>by subst e;simp only[Loc]at h;exact h.1);have:=zBb xs p (j+1) b (o+x.size) h.2 _ v hv
   rwa [show o+x.size+(i-(vals G s x (j::p)).length)=o+i from by omega]at this
theorem wX{G:Gh}{s:Nat}:(t:T)→ ∀(p:List Nat),(∀xs,t≠.tup xs)→(vals G s t p).length=t.size
 |.agg xs,p,_=>by simp only[vals,T.size];exact wI xs p 0
 |.any,_,_|.lit _,_,_|.ro _,_,_|.same _ _,_,_|.addr _ _,_,_|.sub _ _ _ _ _,_,_|.sl _ _,_,_|.ptr _,_,_|.tup _,_,_=>by simp[vals,T.size]
theorem wI{G:Gh}{s:Nat}:(xs:List T)→ ∀(p:List Nat)(j:Nat),(yF G s xs p j).length=T.sizes xs
 | [],_,_=>by simp[yF,T.sizes]
 |x::xs,p,j=>by
  simp only[yF,Ja,T.sizes,wI xs p (j+1)]
  by_cases hx:∃ys,x=.tup ys
  ·obtain⟨ys,rfl⟩:=hx;simp[vals,T.size]
  ·rw[wX x (j::p) (fun ys e=>hx ⟨ys,e⟩)]
end
theorem zGh{P:Program}{G:Gh}{w:World}{s:Nat}{t:T}{p:List Nat}{b o':Nat}{T':TypeId}{ds:TypeDesc}{ti:TypeInfo}(hT:P.underlying T'=iz ds)(hi:P.info? T'=iz ti)(hl:Loc G w s t p b o')
  (fd:zF0 ds= !t.single)(gC:ti.size=t.size):(loadVar T' ⟨b,o',iA⟩).run P w=.ok (sK G s t p) w:=by
 cases t with
 |agg xs=>
  have h1:=run_loadCells_list (P:=P) (w:=w) ⟨b,o',iA⟩ (yF G s xs p 0) (fun j v hv=>by rw[vW];simp only[Loc]at hl;exact zBb xs p 0 b o' hl.2 j v hv)
  rw[wI]at h1;simp only[T.size]at gC;simp[T.single]at fd;simp[loadVar,kR hT,fd,sizeOf,typeInfo,hi,gC,h1,sK]
 |tup xs=>simp only[Loc]at hl
 |_=>
  have h1:=(wS rfl hl).2.2;simp[T.single]at fd;simp only[yJ]at h1;simp[loadVar,kR hT,fd,load,Sem.run,h1,sK]
def zCB(Γ:Ctx)(E:Env)(x:Operand)(r:Nat)(q:List Nat):Prop:=∀(a:Act)(w:World)(G:Gh),Rep Γ E G a.tmps w→a.eval x=.pointer (iz (G.ad r q))
theorem zCB.addr{x:Operand}{r:Nat}{q:List Nat}(hx:opT E x=iz (.addr r q)):zCB Γ E x r q:=fun a w G gc=>by
 cases x with
 |tmp s=>
  obtain⟨h1,h2,_⟩:=gc.ent s _ hx;simp only[R]at h2;rw[xP h1];exact h2
 |const v=>simp only[opT]at hx;split at hx<;>simp at hx
 |func f=>simp[opT]at hx
 |global g=>simp[opT]at hx
theorem zCB.ptr{x:Operand}{r:Nat}{q:List Nat}{t:T}(hx:tL E x=iz (r,q,.ptr t)):zCB Γ E x r (0::q):=fun a w G gc=>by obtain⟨g1,g2⟩:=qQ gc hx rfl;simp only[R]at g1;obtain⟨b,cs,e,g4,_,_,_,g5,_⟩:=g1;rw[g2,g4,zCo g5]
theorem zKJ(x:Operand)(T':TypeId)(ds:TypeDesc)(ti:TypeInfo)(r:Nat)(q:List Nat)(t u:T)(ho:o.op=.load T' x)(gj:o.dst=iz d)(hd:d<Γ.N)
  (hT:P.underlying T'=iz ds)(hi:P.info? T'=iz ti)(fd:zF0 ds= !u.single)(gC:ti.size=u.size)
  (hx:zCB Γ E x r q)(hr:E r=iz t)(hg:t.get q.reverse=iz u)(hl:t.locd q.reverse=iB)(gM:r≠d)(gB:T.okB [(d,0)] (cpT r u q)=iB):
  xW P Γ o E (E.app [(d,iz (cpT r u q))] [(d,0)]):=by
 refine xW.value gj fun a w G gc=>?_
 have mM:=hx a w G gc;obtain⟨_,h4,_⟩:=gc.ent r _ hr;obtain⟨h5,h6⟩:=zAL q.reverse t u [] h4 hg;obtain⟨b,o',cs,e,h6,_,_⟩:=h6 hl;simp only[rp,K0,J9]at h5 h6;have ee:∀xs,u≠.tup xs:=by rintro xs rfl;simp only[Loc]at h6
 have h7:=zCo h6;have hz:∀z,(G.put d (fun z=>G.hd r (z++q))).hd d (z++[])=G.hd r (z++q):=fun z=>by rw[Gh.put_self,J9]
 have hk:=G.put_keep (w:=w) (w':=w) rfl d (fun z=>G.hd r (z++q));refine⟨sK G r u q,w,?_,_,vB gc rfl hd (fun z=>G.hd r (z++q)) (fun z=>gc.mem.one _ _) _ _ (zBh u q [] ee hz).symm
  (zEh (fun p=>G.put_other _ p gM) u q [] hz ee (hk.keepR (zAR _ (qL r u q) gB)) h5) (qL r u q)⟩
 have h8:=zGh (T':=T') hT hi h6 fd gC;simp[execOp,ho,mM,h7,Instr.loadAt,tY,h8]
theorem zVi(x:Operand)(T':TypeId)(ds:TypeDesc)(ti:TypeInfo)(r:Nat)(q:List Nat)(t u:T)(ho:o.op=.load T' x)(gj:o.dst=iz d)(hd:d<Γ.N)
  (hT:P.underlying T'=iz ds)(hi:P.info? T'=iz ti)(fd:zF0 ds= !u.single)(gC:ti.size=u.size)
  (hx:opT E x=iz (.addr r q))(hr:E r=iz t)(hg:t.get q.reverse=iz u)(hl:t.locd q.reverse=iB)(gM:r≠d)(gB:T.okB [(d,0)] (cpT r u q)=iB):
  xW P Γ o E (E.app [(d,iz (cpT r u q))] [(d,0)]):=zKJ x T' ds ti r q t u ho gj hd hT hi fd gC (zCB.addr hx) hr hg hl gM gB
def roT:T→T
 |.lit v=>.lit v
 |.agg xs=>.agg (roTs xs)
 |.ro t=>.ro (.ro t)
 |.any=>.any
 |.same r q=>.ro (.same r q)
 |.addr r q=>.ro (.addr r q)
 |.sub r q k lo hi=>.ro (.sub r q k lo hi)
 |.sl k xs=>.ro (.sl k xs)
 |.ptr t=>.ro (.ptr t)
 |.tup xs=>.ro (.tup xs)
where roTs:List T→List T
 | []=>[]
 |x::xs=>roT x::roTs xs
end
end Go.Ab

namespace Go.Ab
open Go
def kS(v:Value):Value:=if v.oneCell' then v else .bool iC
theorem zBN(v:Value):(kS v).oneCell'=iB:=by
 unfold kS;split
 ·assumption
 ·rfl
theorem zAS{v:Value}(h:v.oneCell'=iB):kS v=v:=by simp[kS,h]
def zEj:T→Array Value→Nat→List Nat→Value
 |.agg xs,cs,o,i::f=>match xs[i]? with
  |some x=>zEj x cs (o+T.sizes (xs.take i)) f
  |none=>.bool iC
 |_,cs,o,_=>cs.getD o (.bool iC)
termination_by structural _ _ _ f=>f
theorem zB4{t:T}(h:t.single=iB)(cs:Array Value)(o:Nat)(f:List Nat):zEj t cs o f=cs.getD o (.bool iC):=by cases t<;>simp[T.single]at h<;>cases f<;>rfl
mutual
theorem zEG:(u:T)→(∀xs,u≠.tup xs)→(roT u).size=u.size
 |.agg xs,_=>by simp only[roT,T.size];exact zF1 xs
 |.lit _,_|.any,_|.sl _ _,_|.ptr _,_|.ro _,_|.same _ _,_|.addr _ _,_|.sub _ _ _ _ _,_|.tup _,_=>by simp[roT,T.size]
theorem zF1:(xs:List T)→T.sizes (roT.roTs xs)=T.sizes xs
 | []=>by simp only[roT.roTs]
 |x::xs=>by
  simp only[roT.roTs,T.sizes,zF1 xs]
  by_cases hx:∃ys,x=.tup ys
  ·obtain⟨ys,rfl⟩:=hx;simp[roT,T.size]
  ·rw[zEG x (fun ys e=>hx ⟨ys,e⟩)]
end
section
variable {St:Stb}{G:Gh}{w:World}{d:Nat}
theorem zHa{u:T}{cs:Array Value}{o:Nat}(hu:u.single=iB)(h:RoC St u cs o):∃v,cs[o]? =iz v∧v.oneCell'=iB∧RoC St u #[v] 0:=by
 cases u<;>simp[T.single]at hu<;>simp only[RoC]at h ⊢
 ·obtain⟨v,h1,h2⟩:=h;exact⟨v,h1,h2,v,by simp,h2⟩
 ·exact⟨_,h.1,h.2,by simp,h.2⟩
 ·obtain⟨f,vs,h1,h2⟩:=h;exact⟨_,h1,rfl,f,vs,by simp,h2⟩
 ·obtain⟨a,c,h1,h2⟩:=h;exact⟨_,h1,rfl,a,c,by simp,h2⟩
 ·obtain⟨b,o',cs',e,fr,h1,h2⟩:=h;exact⟨_,h1,rfl,b,o',cs',e,fr,by simp,h2⟩
mutual
theorem zRo:(u:T)→ ∀(cs:Array Value)(o:Nat)(p:List Nat),(∀z,G.hd d (z++p)=kS (zEj u cs o z.reverse))→RoC St u cs o→R St G w d (roT u) p
 |.agg xs,cs,o,p,hd,h=>by
  simp only[roT,R,RoC]at h ⊢
  exact zRp xs cs o p 0 o (by simp) (fun z j x hx=>by have:=hd (z++[j]);simp only[Jh,K9,Ju,Uy,Hb,Ha,zEj]at this;rw[J8,this];simp[hx]) h
 |.lit v,cs,o,p,hd,h=>by
  simp only[roT,R,RoC]at h ⊢
  have:=hd [];rw[Ju,zB4 rfl]at this;rw[this];simp[Kd,h.1,zAS h.2]
 |.any,_,_,_,_,_=>by simp only[roT,R]
 |.ro _,cs,o,p,hd,h|.sl _ _,cs,o,p,hd,h|.ptr _,cs,o,p,hd,h=>by obtain⟨v,h1,h2,h3⟩:=zHa rfl h;have:=hd [];rw[Ju,zB4 rfl]at this;simp only[roT,R];rw[this];simpa[Kd,h1,zAS h2]using h3
 |.same _ _,_,_,_,_,h|.addr _ _,_,_,_,_,h|.sub _ _ _ _ _,_,_,_,_,h|.tup _,_,_,_,_,h=>by simp only[RoC]at h
theorem zRp:(xs:List T)→ ∀(cs:Array Value)(o0:Nat)(p:List Nat)(j o:Nat),o0≤o→(∀z i x,xs[i]? =iz x→G.hd d (z++((j+i)::p))=kS (zEj x cs (o+T.sizes (xs.take i)) z.reverse))→RoF St xs cs o→RF St G w d (roT.roTs xs) p j
 | [],_,_,_,_,_,_,_,_=>by simp only[roT.roTs,RF]
 |x::xs,cs,o0,p,j,o,ho,hd,h=>by
  simp only[roT.roTs,RF,RoF]at h ⊢
  refine⟨zRo x cs o (j::p) (fun z=>by simpa[T.sizes]using hd z 0 x (by simp)) h.1,zRp xs cs o0 p (j+1) (o+x.size) (by omega) (fun z i y hy=>?_) h.2⟩;have:=hd z (i+1) y (by simpa using hy);simp only[Ky,T.sizes]at this;rw[show j+1+i=j+(i+1)from by omega,show o+x.size+T.sizes (xs.take i)=o+(x.size+T.sizes (xs.take i))from Lx ..];exact this
end
mutual
theorem zHb:(u:T)→ ∀(cs:Array Value)(o:Nat)(p:List Nat),(∀z,G.hd d (z++p)=kS (zEj u cs o z.reverse))→RoC St u cs o→ ∀(i:Nat)(v:Value),(vals G d (roT u) p)[i]? =iz v→cs[o+i]? =iz v
 |.agg xs,cs,o,p,hd,h,i,v,hv=>by
  simp only[roT,vals,RoC]at h hv;exact zIQ xs cs p 0 o (fun z j x hx=>by have:=hd (z++[j]);simp only[Jh,K9,Ju,Uy,Hb,Ha,zEj]at this;rw[J8,this];simp[hx]) h i v hv
 |.lit _,cs,o,p,hd,h,i,v,hv|.ro _,cs,o,p,hd,h,i,v,hv|.any,cs,o,p,hd,h,i,v,hv|.sl _ _,cs,o,p,hd,h,i,v,hv|.ptr _,cs,o,p,hd,h,i,v,hv=>by
  obtain⟨v',h1,h2,h3⟩:=zHa rfl h;have:=hd [];rw[Ju,zB4 rfl]at this;simp only[roT,vals]at hv;cases i with
  |zero=>
   simp at hv;rw[←hv,this];simp[Kd,h1,zAS h2]
  |succ i=>simp at hv
 |.same _ _,_,_,_,_,h,_,_,_|.addr _ _,_,_,_,_,h,_,_,_|.sub _ _ _ _ _,_,_,_,_,h,_,_,_|.tup _,_,_,_,_,h,_,_,_=>by simp only[RoC]at h
theorem zIQ:(xs:List T)→ ∀(cs:Array Value)(p:List Nat)(j o:Nat),(∀z i x,xs[i]? =iz x→G.hd d (z++((j+i)::p))=kS (zEj x cs (o+T.sizes (xs.take i)) z.reverse))→RoF St xs cs o→ ∀(i:Nat)(v:Value),(yF G d (roT.roTs xs) p j)[i]? =iz v→cs[o+i]? =iz v
 | [],_,_,_,_,_,_,i,v,hv=>by simp[roT.roTs,yF]at hv
 |x::xs,cs,p,j,o,hd,h,i,v,hv=>by
  simp only[roT.roTs,yF,RoF]at h hv;have hx:∀z,G.hd d (z++(j::p))=kS (zEj x cs o z.reverse):=fun z=>by simpa[T.sizes]using hd z 0 x (by simp)
  have gm:(vals G d (roT x) (j::p)).length=x.size:=by have hs:(roT x).size=x.size:=zEG x (fun ys e=>by subst e;simp only[RoC]at h;exact h.1);rw[wX (roT x) (j::p) (fun ys e=>by cases x<;>simp[roT]at e),hs]
  rw[Kf]at hv;split at hv
  ·exact zHb x cs o (j::p) hx h.1 i v hv
  ·have:=zIQ xs cs p (j+1) (o+x.size) (fun z i y hy=>by
    have:=hd z (i+1) y (by simpa using hy);simp only[Ky,T.sizes]at this;rw[show j+1+i=j+(i+1)from by omega,show o+x.size+T.sizes (xs.take i)=o+(x.size+T.sizes (xs.take i))from Lx ..];exact this) h.2 _ v hv
   rwa [gm,show o+x.size+(i-x.size)=o+i from by omega]at this
end
mutual
theorem zO2:(u:T)→Top (roT u)
 |.agg xs=>by simp only[roT,Top];exact zKK xs
 |.lit _|.any|.sl _ _|.ptr _|.ro _|.same _ _|.addr _ _|.sub _ _ _ _ _|.tup _=>by simp[roT,Top]
theorem zKK:(xs:List T)→uI (roT.roTs xs)
 | []=>by simp only[roT.roTs,uI]
 |x::xs=>by simp only[roT.roTs,uI];exact⟨zO2 x,zKK xs⟩
end
end
section
variable {P:Program}{Γ:Ctx}{E:Env}{o:Oper}{d:Nat}
theorem zO3{G:Gh}{w:World}(hm:Mem Γ G w){b:Nat}{cs:Array Value}{e:TypeId}{fr:Nat×Nat}(h:Γ.St b=iz (.cells cs e fr))(i:Nat):w.cell? ⟨b,i,iA⟩=cs[i]?:=by simp[World.cell?,hm.st b _ h]
theorem zMP(x:Operand)(T':TypeId)(ds:TypeDesc)(ti:TypeInfo)(u:T)(ho:o.op=.load T' x)(gj:o.dst=iz d)(hd:d<Γ.N)
  (hT:P.underlying T'=iz ds)(hi:P.info? T'=iz ti)(fd:zF0 ds= !u.single)(gC:ti.size=u.size)
  (hx:opT E x=iz (.ro (.ptr u))):xW P Γ o E (E.app [(d,iz (roT u))] [(d,0)]):=by
 refine xW.value gj fun a w G gc=>?_
 have h1:=zMO gc hx;simp only[RoC]at h1;obtain⟨b,o',cs',e,fr,h2,h3,h4⟩:=h1;have fS:a.eval x=.pointer (iz ⟨b,o',iA⟩):=by simpa using h2
 have ee:∀xs,u≠.tup xs:=by rintro xs rfl;simp only[RoC]at h4
 let f:List Nat→Value:=fun z=>kS (zEj u cs' o' z.reverse)
 have hz:∀z,(G.put d f).hd d (z++[])=kS (zEj u cs' o' z.reverse):=fun z=>by rw[Gh.put_self,J9]
 refine⟨mkV (G.put d f) d (roT u) [],w,?_,_,vB gc rfl hd f (fun z=>zBN _) _ _ rfl (zRo u cs' o' [] hz h4) (zO2 u)⟩;cases u with
 |agg xs=>
  have h5:∀j v,(yF (G.put d f) d (roT.roTs xs) [] 0)[j]? =iz v→w.cell? ((⟨b,o',iA⟩:Addr).add j)=iz v:=by intro j v hv;rw[vW,zO3 gc.mem h3];exact zHb (.agg xs) cs' o' [] hz h4 j v (by simpa only[roT,vals]using hv)
  have h6:=run_loadCells_list (P:=P) (w:=w) ⟨b,o',iA⟩ _ h5;rw[wI,zF1]at h6;simp only[T.size]at gC;simp[T.single]at fd;simp[execOp,ho,fS,Instr.loadAt,tY,loadVar,kR hT,fd,sizeOf,typeInfo,hi,gC,h6,mkV,roT]
 |tup xs=>exact absurd rfl (ee xs)
 |_=>
  obtain⟨v,h5,h6,h7⟩:=zHa rfl h4;have h8:w.cell? ⟨b,o',iA⟩=iz v:=by rw[zO3 gc.mem h3];exact h5
  simp[T.single]at fd;have h9:f []=v:=by show kS (zEj _ cs' o' _)=v;rw[zB4 rfl];simp[Kd,h5,zAS h6]
  simp[execOp,ho,fS,Instr.loadAt,tY,loadVar,kR hT,fd,load,Sem.run,h8,mkV,roT,Gh.put_self,h9]
def zGi(E:Env)(x:Operand):Bool:=
 match opT E x with
 |some (.addr _ _)|some (.ro (.ptr _))=>iB
 |_=>match tL E x with
  |some (_,_,.ptr _)=>iB
  |some (_,_,.ro (.ptr _))=>iB
  |_=>iC
theorem zRq{G:Gh}{a:Act}{w:World}(gc:Rep Γ E G a.tmps w){x:Operand}(h:zGi E x=iB):∃ad,a.eval x=.pointer (iz ad):=by
 unfold zGi at h;split at h
 ·rename_i r q hx
  cases x with
  |tmp s=>
   obtain⟨h1,h2,_⟩:=gc.ent s _ hx;simp only[R]at h2;exact⟨_,by rw[xP h1,xJ rfl,h2]⟩
  |const v=>simp only[opT]at hx;split at hx<;>simp at hx
  |func f=>simp[opT]at hx
  |global g=>simp[opT]at hx
 ·rename_i u hx
  have:=zMO gc hx;simp only[RoC]at this;obtain⟨b,o',_,_,_,h1,_⟩:=this;exact⟨_,by simpa using h1⟩
 ·split at h
  ·rename_i hl
   obtain⟨h1,h2⟩:=qQ gc hl rfl;simp only[R]at h1;obtain⟨b,cs,e,h3,_⟩:=h1;exact⟨_,by rw[h2,h3]⟩
  ·rename_i hl
   obtain⟨h1,h2⟩:=qQ gc hl rfl;simp only[R,RoC]at h1;obtain⟨b,o',_,_,_,h3,_⟩:=h1;exact⟨_,by rw[h2];simpa using h3⟩
  ·cases h
theorem zYv(x:Operand)(t:T)(ho:o.op=.nilCheck x)(gj:o.dst=iz d)(hd:d<Γ.N)(hx:opT E x=iz t)(hp:zGi E x=iB)(ht:∀xs,t≠.tup xs)
  (gf:∀s,x=.tmp s→s≠d)(gB:T.okB [(d,0)] (uU x t)=iB):xW P Γ o E (E.app [(d,iz (uU x t))] [(d,0)]):=by
 refine xW.value gj fun a w G gc=>?_
 obtain⟨f,hf,h1,h2⟩:=opd gc hx ht;obtain⟨h3,h4⟩:=h1 d gf gB;obtain⟨ad,h5⟩:=zRq gc hp;refine⟨a.eval x,w,?_,_,vB gc rfl hd f hf _ _ h3 h4 h2⟩;simp[execOp,ho,h5]
theorem zKL{G:Gh}{s:Nat}:(xs:List T)→ ∀(p:List Nat)(j i:Nat)(x:T),xs[i]? =iz x→(zAx G s xs p j)[i]? =iz (sK G s x ((j+i)::p))
 | [],_,_,_,_,h=>by simp at h
 |y::ys,p,j,i,x,h=>by
  cases i with
  |zero=>simp at h;subst h;simp[zAx]
  |succ i=>
   have:=zKL (G:=G) (s:=s) ys p (j+1) i x (by simpa using h);rw[show j+(i+1)=j+1+i from by omega];simpa[zAx]using this
theorem zMQ(s i:Nat)(ts:List T)(t:T)(ho:o.op=.extract (.tmp s) i)(gj:o.dst=iz d)(hd:d<Γ.N)(hs:E s=iz (.tup ts))(hi:ts[i]? =iz t)(ht:∀xs,t≠.tup xs)
  (gf:s≠d)(gB:T.okB [(d,0)] (cpT s t [i])=iB):xW P Γ o E (E.app [(d,iz (cpT s t [i]))] [(d,0)]):=by
 refine xW.value gj fun a w G gc=>?_
 obtain⟨h1,h2,_⟩:=gc.ent s _ hs;simp only[R]at h2;have h3:=zBF ts [] 0 i t h2 hi;simp only[J8]at h3;have h4:=zKL (G:=G) (s:=s) ts [] 0 i t hi;simp only[J8]at h4;have hk:=G.put_keep (w:=w) (w':=w) rfl d (fun z=>G.hd s (z++[i]));have hz:∀z,(G.put d (fun z=>G.hd s (z++[i]))).hd d (z++[])=G.hd s (z++[i]):=fun z=>by rw[Gh.put_self,J9]
 refine⟨sK G s t [i],w,?_,_,vB gc rfl hd (fun z=>G.hd s (z++[i])) (fun z=>gc.mem.one _ _) _ _ (zBh t [i] [] ht hz).symm
  (zEh (fun p=>G.put_other _ p gf) t [i] [] hz ht (hk.keepR (zAR _ (qL s t [i]) gB)) h3) (qL s t [i])⟩
 simp[execOp,ho,xP h1,mkV,Instr.extract,h4]
def zAz(E:Env)(x:Option Operand)(dflt n:Nat):Prop:=
 match x with
 |none=>n=dflt
 |some y=> ∃kd,opT E y=iz (.lit (.int kd n))
theorem zHc{St:Stb}:(xs:List T)→ ∀(cs:Array Value)(o k l:Nat),RoL St xs cs o k→RoL St (xs.drop l) cs (o+l*k) k
 | [],_,_,_,_,_=>by simp[RoL]
 |x::xs,cs,o,k,l,h=>by
  cases l with
  |zero=>simpa using h
  |succ l=>
   simp only[RoL]at h;have:=zHc xs cs (o+k) k l h.2
   rwa [List.drop_succ_cons,show o+(l+1)*k=o+k+l*k from by rw[L5];omega]
theorem zHd{St:Stb}:(xs:List T)→ ∀(cs:Array Value)(o k l:Nat),RoL St xs cs o k→RoL St (xs.take l) cs o k
 | [],_,_,_,_,_=>by simp[RoL]
 |x::xs,cs,o,k,l,h=>by
  cases l with
  |zero=>simp[RoL]
  |succ l=>simp only[RoL,Ky]at h ⊢;exact⟨h.1,zHd xs cs _ k l h.2⟩
theorem jO{P:Program}{G:Gh}{a:Act}{w:World}(gc:Rep Γ E G a.tmps w){x:Operand}{kd:IntKind}{n y:Nat}{c:BoundsCode}(hx:opT E x=iz (.lit (.int kd n)))(h:n≤y):
  (Instr.sliceBound (a.eval x) y c).run P w=.ok n w:=by
 rw[(yT gc hx).1];have:(n:Int)≤(y:Int):=by omega
 simp[Instr.sliceBound,asIntOf,this]
theorem zHe{P:Program}{G:Gh}{a:Act}{w:World}(gc:Rep Γ E G a.tmps w){lo hi:Option Operand}{l h n c:Nat}(gW:zAz E lo 0 l)(ej:zAz E hi n h)(h1:l≤h)(h2:h≤c):
  (Instr.sliceBounds iB n c (lo.map a.eval) (hi.map a.eval) iA).run P w=.ok (l,h,c) w:=by
 cases lo with
 |none=>
  cases hi with
  |none=>simp only[zAz]at gW ej;subst gW;subst ej;simp[Instr.sliceBounds]
  |some y=>simp only[zAz]at gW ej;obtain⟨kd,hy⟩:=ej;subst gW;simp[Instr.sliceBounds,jO gc hy h2]
 |some x=>
  obtain⟨kd,hx⟩:=gW;cases hi with
  |none=>simp only[zAz]at ej;subst ej;simp[Instr.sliceBounds,jO gc hx h1]
  |some y=>obtain⟨kd',hy⟩:=ej;simp[Instr.sliceBounds,jO gc hy h2,jO gc hx h1]
theorem zKM(x:Operand)(lo hi:Option Operand)(t e:TypeId)(ti:TypeInfo)(r:Nat)(q:List Nat)(k:Nat)(xs:List T)(l h:Nat)(ho:o.op=.slice t x lo hi iA)(gj:o.dst=iz d)(hd:d<Γ.N)
  (ht:P.underlying t=iz (.slice e))(he:P.info? e=iz ti)(hk:ti.size=k)(hx:tL E x=iz (r,q,.ro (.sl k xs)))(gW:zAz E lo 0 l)(ej:zAz E hi xs.length h)(h1:l≤h)(h2:h≤xs.length):
  xW P Γ o E (E.app [(d,iz (.ro (.sl k ((xs.drop l).take (h-l)))))] [(d,0)]):=by
 refine xW.value gj fun a w G gc=>?_
 obtain⟨g1,g2⟩:=qQ gc hx rfl;obtain⟨a',c,g4,g5,g6,g7⟩:=zD3 g1;have g8:=zHe (P:=P) gc gW ej h1 (Hf h2 g5);have gm:((xs.drop l).take (h-l)).length=h-l:=by simp;omega
 refine⟨.slice (if c=l then a' else a'.map (·.add (l*k))) (h-l) (c-l),w,?_,_,vB gc rfl hd (fun _=>.slice (if c=l then a' else a'.map (·.add (l*k))) (h-l) (c-l)) (fun _=>rfl) _ _ (by simp[mkV,Gh.put]) ?_ (by simp[Top])⟩
 ·simp only[execOp,ho,Qq]
  simp[Instr.sliceAt,Instr.slice,run_underlying ht,g2,g4,g8,sizeOf,typeInfo,he,hk]
 ·simp only[R,Gh.put_self,RoC]
  refine⟨_,_,by rw[gm];rfl,by omega,by omega,?_⟩;intro gf;have eF:xs≠[]:=by rintro rfl;simp at gf
  obtain⟨b,o',cs',e',fr,rfl,h3,h4⟩:=g7 eF;have gD:c≠l:=by rintro rfl;apply gf;apply Jy;omega
  exact⟨b,o'+l*k,cs',e',fr,by simp[gD,vW],h3,zHd _ _ _ _ _ (zHc _ _ _ _ _ h4)⟩
theorem zJN(x:Operand)(lo hi:Option Operand)(t e:TypeId)(ti:TypeInfo)(r:Nat)(q:List Nat)(k:Nat)(xs:List T)(l h:Nat)(ho:o.op=.slice t x lo hi iA)(gj:o.dst=iz d)(hd:d<Γ.N)
  (ht:P.underlying t=iz (.slice e))(he:P.info? e=iz ti)(hk:ti.size=k)(hx:tL E x=iz (r,q,.sl k xs))(gW:zAz E lo 0 l)(ej:zAz E hi xs.length h)(h1:l≤h)(h2:h≤xs.length)(gM:r≠d):
  xW P Γ o E (E.app [(d,iz (.sub r q k l h))] [(d,0)]):=by
 refine xW.value gj fun a w G gc=>?_
 obtain⟨g1,g2⟩:=qQ gc hx rfl;obtain⟨a',c,g4⟩:=zGC g1;have g5:xs.length≤c:=by
  simp only[R]at g1;rcases g1 with⟨rfl,_⟩|⟨b,o0,cap,cs,e,g,_,g',_⟩
  ·simp
  ·rw[g4]at g;simp at g;omega
 have g8:=zHe (P:=P) gc gW ej h1 (Hf h2 g5);refine⟨zBf (G.hd r q) k l h,w,?_,_,vB gc rfl hd (fun _=>zBf (G.hd r q) k l h) (fun _=>by rw[g4];rfl) _ _ (by simp[mkV,Gh.put]) ?_ (by simp[Top])⟩
 ·simp only[execOp,ho,Qq]
  simp[Instr.sliceAt,Instr.slice,run_underlying ht,g2,g4,g8,sizeOf,typeInfo,he,hk,zBf]
 ·simp only[R,Gh.put_self]
  rw[Gh.put_other _ _ _ gM]
end
end Go.Ab

namespace Go.Ab
open Go
def T.inT:T→List Nat→Bool
 |_,[]=>iB
 |.agg xs,i::f=>match xs[i]? with
  |some x=>x.inT f
  |none=>iC
 |.any,_::_|.lit _,_::_|.ro _,_::_|.same _ _,_::_|.addr _ _,_::_|.sub _ _ _ _ _,_::_|.sl _ _,_::_|.ptr _,_::_|.tup _,_::_=>iC
termination_by structural _ f=>f
def T.offT:T→List Nat→Nat
 |_,[]=>0
 |.agg xs,i::f=>match xs[i]? with
  |some x=>T.sizes (xs.take i)+x.offT f
  |none=>0
 |.any,_::_|.lit _,_::_|.ro _,_::_|.same _ _,_::_|.addr _ _,_::_|.sub _ _ _ _ _,_::_|.sl _ _,_::_|.ptr _,_::_|.tup _,_::_=>0
termination_by structural _ f=>f
theorem zHf{t:T}(h:t.single=iB){f:List Nat}(hf:f≠[]):t.inT f=iC:=by
 cases f with
 |nil=>grind
 |cons i f=>cases t<;>simp[T.single]at h<;>rfl
mutual
def zRr:T→List Nat→Nat→Option (List Nat)
 |.agg xs,p,o=>zCO xs p 0 o
 |.any,p,o|.lit _,p,o|.ro _,p,o|.same _ _,p,o|.addr _ _,p,o|.sub _ _ _ _ _,p,o|.sl _ _,p,o|.ptr _,p,o|.tup _,p,o=>if o=0 then iz p else iA
def zCO:List T→List Nat→Nat→Nat→Option (List Nat)
 | [],_,_,_=>iA
 |x::xs,p,j,o=>if o<x.size then zRr x (j::p) o else zCO xs p (j+1) (o-x.size)
end
mutual
def T.okTup:T→Bool
 |.tup _=>iC
 |.agg xs=>yK xs
 |.any|.lit _|.ro _|.same _ _|.addr _ _|.sub _ _ _ _ _|.sl _ _|.ptr _=>iB
def yK:List T→Bool
 | []=>iB
 |x::xs=>x.okTup&&yK xs
end
theorem zEk:(xs:List T)→ ∀(p:List Nat)(j o:Nat),T.sizes xs≤o→zCO xs p j o=iA
 | [],_,_,_,_=>by rfl
 |x::xs,p,j,o,h=>by simp only[T.sizes]at h;simp only[zCO];rw[if_neg (by omega)];exact zEk xs p (j+1) _ (by omega)
section
variable {G:Gh}{w:World}{d:Nat}
mutual
theorem zYw:(x:T)→ ∀(p:List Nat)(B o:Nat),(∀xs,x≠.tup xs)→x.okTup=iB→
  (∀f,x.inT f=iB→G.ad d (f.reverse++p)=⟨B,o+x.offT f,iA⟩)→(∀j p',j<x.size→zRr x p j=iz p'→G.lb B (o+j)=iz (iC,d,p'))→
  (∀j v,(vals G d x p)[j]? =iz v→yJ w B (o+j)=iz v)→Loc G w d x p B o
 |.agg xs,p,B,o,_,hn,ha,hl,hc=>by
  simp only[Loc];refine⟨by simpa[T.offT]using ha [] rfl,zGE xs p 0 B o (by grind[T.okTup]) (fun i x hx f hf=>?_) (fun j p' hj hp=>?_) (by grind[vals])⟩
  ·have:=ha (i::f) (by grind[T.inT])
   grind[T.offT]
  grind[T.size,zRr]
 |.any,p,B,o,_,_,ha,hl,hc|.lit _,p,B,o,_,_,ha,hl,hc|.ro _,p,B,o,_,_,ha,hl,hc|.same _ _,p,B,o,_,_,ha,hl,hc|.addr _ _,p,B,o,_,_,ha,hl,hc|.sub _ _ _ _ _,p,B,o,_,_,ha,hl,hc|.sl _ _,p,B,o,_,_,ha,hl,hc|.ptr _,p,B,o,_,_,ha,hl,hc=>by simp only[Loc];exact⟨by simpa[T.offT]using ha [] rfl,by simpa using hl 0 p (by simp[T.size]) (by rfl),by simpa using hc 0 (G.hd d p) (by simp[vals])⟩
 |.tup xs,_,_,_,h,_,_,_,_=>absurd rfl (h xs)
theorem zGE:(xs:List T)→ ∀(p:List Nat)(j B o:Nat),yK xs=iB→
  (∀i x,xs[i]? =iz x→ ∀f,x.inT f=iB→G.ad d (f.reverse++((j+i)::p))=⟨B,o+(T.sizes (xs.take i)+x.offT f),iA⟩)→
  (∀i p',i<T.sizes xs→zCO xs p j i=iz p'→G.lb B (o+i)=iz (iC,d,p'))→
  (∀i v,(yF G d xs p j)[i]? =iz v→yJ w B (o+i)=iz v)→vD G w d xs p j B o
 | [],_,_,_,_,_,_,_,_=>by simp only[vD]
 |x::xs,p,j,B,o,hn,ha,hl,hc=>by
  simp only[yK,J3]at hn;have ee:∀ys,x≠.tup ys:=by rintro ys rfl;grind[T.okTup]
  simp only[vD];refine⟨zYw x (j::p) B o ee hn.1 (fun f hf=>by simpa[T.sizes]using ha 0 x (by simp) f hf) (fun i p' hi hp=>hl i p' (by grind[T.sizes]) (by simp only[zCO,hi,if_true];exact hp)) (fun i v hv=>hc i v ?_),
   zGE xs p (j+1) B (o+x.size) hn.2 (fun i y hy f hf=>?_) (fun i p' hi hp=>?_) (fun i v hv=>?_)⟩
  ·grind[yF]
  ·have:=ha (i+1) y (by grind) f hf
   grind[T.sizes]
  ·have:=hl (x.size+i) p' (by grind[T.sizes]) (by simp only[zCO];grind)
   grind
  ·have:=hc (x.size+i) v (by
    grind[yF,wX])
   grind
end
end
structure MvC (G:Gh) (w:World) (G':Gh) (w':World) (s:Nat) (p:List Nat) (s':Nat) (p':List Nat) (t:T):Prop where
 hd:∀z,G'.hd s' (z++p')=G.hd s (z++p)
 ad:∀z,t.inT z.reverse=iC→G'.ad s' (z++p')=G.ad s (z++p)
 lb:∀b o f z,(f=iB∨t.inT z.reverse=iC)→G.lb b o=iz (f,s,z++p)→G'.lb b o=iz (f,s',z++p')∧yJ w' b o=yJ w b o
 ow:∀b z,G.ow b=iz (s,z++p)→G'.ow b=iz (s',z++p')
 blk:Blk w w'
section
variable {St:Stb}{G:Gh}{w:World}{G':Gh}{w':World}{s:Nat}{s':Nat}
theorem MvC.moves{p p':List Nat}{t:T}(h:MvC G w G' w' s p s' p' t)(ht:t.single=iB):zIN G w G' w' s p s' p' where
 hd:=h.hd
 ad z hz:=h.ad z (zHf ht (by simp_all))
 lb b o f z hz _ hl:=h.lb b o f z (.inr (zHf ht (by simp_all))) hl
 ow b z _ hl:=h.ow b z hl
 blk:=h.blk
 sp b o _ hl:=by simpa using h.lb b o iB [] (.inl rfl) (by grind)
 ow0 b hl:=by simpa using h.ow b [] (by grind)
theorem MvC.field{p p':List Nat}{xs:List T}(h:MvC G w G' w' s p s' p' (.agg xs)){j:Nat}{x:T}(hx:xs[j]? =iz x):MvC G w G' w' s (j::p) s' (j::p') x where
 hd z:=by have:=h.hd (z++[j]);grind
 ad z hz:=by
  have:=h.ad (z++[j]) (by grind[T.inT])
  grind
 lb b o f z hf hl:=by
  have:=h.lb b o f (z++[j]) (by grind[T.inT]) (by grind)
  grind
 ow b z hl:=by
  have:=h.ow b (z++[j]) (by grind)
  grind
 blk:=h.blk
mutual
theorem zKN:(t:T)→ ∀(p p':List Nat),t.okTup=iB→MvC G w G' w' s p s' p' t→yN (zAK G G') t→R St G w s t p→R St G' w' s' t p'
 |.agg xs,p,p',hn,h,hk,hr=>by
  simp only[R,yN,T.okTup]at hr hk hn ⊢
  exact zRs xs p p' 0 hn (fun j x hx=>by rw[J8];exact h.field hx) hk hr
 |.any,p,p',_,h,hk,hr|.lit _,p,p',_,h,hk,hr|.ro _,p,p',_,h,hk,hr|.same _ _,p,p',_,h,hk,hr|.addr _ _,p,p',_,h,hk,hr|.sub _ _ _ _ _,p,p',_,h,hk,hr|.sl _ _,p,p',_,h,hk,hr|.ptr _,p,p',_,h,hk,hr=>
  zAQ (h.moves rfl) _ hk hr
 |.tup _,_,_,hn,_,_,_=>by grind[T.okTup]
theorem zRs:(xs:List T)→ ∀(p p':List Nat)(j:Nat),yK xs=iB→(∀i x,xs[i]? =iz x→MvC G w G' w' s ((j+i)::p) s' ((j+i)::p') x)→xH (zAK G G') xs→RF St G w s xs p j→RF St G' w' s' xs p' j
 | [],_,_,_,_,_,_,_=>by simp only[RF]
 |x::xs,p,p',j,hn,h,hk,hr=>by
  simp only[RF,xH,yK,J3]at hr hk hn ⊢
  exact⟨zKN x (j::p) (j::p') hn.1 (by simpa using h 0 x (by simp)) hk.1 hr.1,zRs xs p p' (j+1) hn.2 (fun i y hy=>by
   have:=h (i+1) y (by grind)
   grind) hk.2 hr.2⟩
end
end
theorem zO4{St:Stb}{G:Gh}{w:World}{s:Nat}:(xs:List T)→ ∀(p:List Nat)(j:Nat),(∀i x,xs[i]? =iz x→R St G w s x ((j+i)::p))→RF St G w s xs p j
 | [],_,_,_=>by simp only[RF]
 |x::xs,p,j,h=>by
  simp only[RF];exact⟨by simpa using h 0 x (by simp),zO4 xs p (j+1) (fun i y hy=>by
   have:=h (i+1) y (by grind)
   grind)⟩
theorem zRt{St:Stb}{G:Gh}{w:World}{s:Nat}{k:Nat}:(xs:List T)→ ∀(p:List Nat)(j b o:Nat),(∀x∈xs,x.size=k)→vD G w s xs p j b o→RF St G w s xs p j→RL St G w s xs p j b o k
 | [],_,_,_,_,_,_,_=>by simp only[RL]
 |x::xs,p,j,b,o,hk,hl,hr=>by
  simp only[RL,vD,RF]at hl hr ⊢
  have h1:=hk x (by simp);exact⟨⟨hl.1,h1⟩,hr.1,zRt xs p (j+1) b (o+k) (by grind) (by grind) hr.2⟩
theorem wN{k:Nat}:(xs:List T)→(∀x∈xs,x.size=k)→T.sizes xs=xs.length*k
 | [],_=>by simp[T.sizes]
 |x::xs,h=>by simp[T.sizes,wN xs (fun y hy=>h y (by simp[hy])),h x (by simp),L5];omega
def Gh.nb(G:Gh)(d B:Nat)(xs:List T)(src:Nat→Option (Nat×List Nat))(φ:Nat→List Nat→Option (List Nat))(f:Nat→List Nat→Value)(gY:Value):Gh where
 hd s z:=if s=d then(match z.getLast? with
  |some i=>f i z.dropLast
  |none=>gY)else G.hd s z
 ad s z:=if s=d then(if(T.agg xs).inT z.reverse then⟨B,(T.agg xs).offT z.reverse,iA⟩else match z.getLast? with
  |some i=>(match src i with
   |some (x,q)=>G.ad x (z.dropLast++q)
   |none=>default)
  |none=>default)else G.ad s z
 lb b o:=if b=B then iz (match zCO xs [] 0 o with
  |some p=>(iC,d,p)
  |none=>(iB,d,[]))else match G.lb b o with
  |some (fl,s,z)=>(match φ s z with
   |some z'=>iz (fl,d,z')
   |none=>iz (fl,s,z))
  |none=>iA
 ow b:=if b=B then iz (d,[])else match G.ow b with
  |some (s,z)=>(match φ s z with
   |some z'=>iz (d,z')
   |none=>iz (s,z))
  |none=>iA
theorem zD4{Γ:Ctx}{G:Gh}{w w':World}(hm:Mem Γ G w){cells:Array Value}{e:TypeId}(hw:w'.heap=w.heap.push (.cells cells e))(d:Nat)(xs:List T)
  (src:Nat→Option (Nat×List Nat))(φ:Nat→List Nat→Option (List Nat))(f:Nat→List Nat→Value)(gY:Value)(chg:Chg)
  (gB:yK xs=iB)(hf:∀(i:Nat)(z:List Nat),(f i z).oneCell'=iB)(hh:gY.oneCell'=iB)
  (hφ:∀(i:Nat) u x q(z:List Nat),xs[i]? =iz u→src i=iz (x,q)→φ x (z++q)=iz (z++[i]))
  (dj:∀(i:Nat) u x q,xs[i]? =iz u→src i=iz (x,q)→(∀z,f i z=G.hd x (z++q))∧R Γ.St G w x u q∧zW u∧x≠d)
  (tg:∀(i:Nat) u,xs[i]? =iz u→src i=iA→ ∀(G2:Gh)(w2:World),(∀z,G2.hd d (z++[i])=f i z)→R Γ.St G2 w2 d u [i])
  (fI:∀(G2:Gh),(∀i z,G2.hd d (z++[i])=f i z)→ ∀(o:Nat)(v:Value),(yF G2 d xs [] 0)[o]? =iz v→cells[o]? =iz v)
  (ap:∀s p,(∀n,(s,n)∉(d,0)::chg)→φ s p=iA)(ho:w'.os=w.os:=by rfl)(hq:w'.output=w.output:=by rfl):
  jS ((d,0)::chg) G w (G.nb d w.heap.size xs src φ f gY) w'∧Mem Γ (G.nb d w.heap.size xs src φ f gY) w'∧
  vD (G.nb d w.heap.size xs src φ f gY) w' d xs [] 0 w.heap.size 0∧RF Γ.St (G.nb d w.heap.size xs src φ f gY) w' d xs [] 0∧
  w'.heap[w.heap.size]? =iz (.cells cells e):=by
 have ey:w'.heap[w.heap.size]? =iz (.cells cells e):=by grind
 have gJ:∀b,b<w.heap.size→w'.heap[b]? =w.heap[b]?:=fun b hb=>by rw[hw,Array.getElem?_push];grind
 have gC:w'.heap.size=w.heap.size+1:=by grind
 have eV:∀b o,b<w.heap.size→yJ w' b o=yJ w b o:=fun b o hb=>by simp[yJ,World.cell?,gJ b hb]
 have gO:Blk w w':=fun b cs e' h=>⟨cs,by rw[gJ b (by grind)];exact h,rfl⟩
 have gn:=hm.one
 generalize gp:G.nb d w.heap.size xs src φ f gY=G'
 have ghd:∀i z,G'.hd d (z++[i])=f i z:=fun i z=>by rw[←gp];simp[Gh.nb]
 have gad:∀g,(T.agg xs).inT g=iB→G'.ad d g.reverse=⟨w.heap.size,(T.agg xs).offT g,iA⟩:=fun g hg=>by rw[←gp];simp[Gh.nb,hg]
 have gadm:∀i x q z,src i=iz (x,q)→(T.agg xs).inT (i::z.reverse)=iC→G'.ad d (z++[i])=G.ad x (z++q):=fun i x q z hs gU=>by rw[←gp];simp[Gh.nb,gU,hs]
 have glb:∀o p,zCO xs [] 0 o=iz p→G'.lb w.heap.size o=iz (iC,d,p):=fun o p h=>by rw[←gp];simp[Gh.nb,h]
 have glbm:∀b o fl x z z',G.lb b o=iz (fl,x,z)→φ x z=iz z'→G'.lb b o=iz (fl,d,z'):=fun b o fl x z z' h1 h2=>by have:=(hm.lb b o _ h1).1;rw[←gp];simp[Gh.nb,h1,h2,show b≠w.heap.size from by omega]
 have gowm:∀b x z z',G.ow b=iz (x,z)→φ x z=iz z'→G'.ow b=iz (d,z'):=fun b x z z' h1 h2=>by have:=(hm.ow b _ h1).1;rw[←gp];simp[Gh.nb,h1,h2,show b≠w.heap.size from by omega]
 have gf:∀s p,Off ((d,0)::chg) s p→s≠d:=fun s p h e=>absurd (h 0 (by simp[e])) (by simp)
 have gx:jS ((d,0)::chg) G w G' w':=by
  refine⟨fun s p h=>?_,fun s p h=>?_,fun b o fl s p _ hl h=>⟨?_,eV b o (hm.lb b o _ hl).1⟩,fun b s p hl h=>?_,gO⟩
  ·rw[←gp];simp[Gh.nb,gf s p h]
  ·rw[←gp];simp[Gh.nb,gf s p h]
  ·have:=(hm.lb b o _ hl).1
   rw[←gp];simp[Gh.nb,hl,ap s p h,show b≠w.heap.size from by omega]
  ·have:=(hm.ow b _ hl).1
   rw[←gp];simp[Gh.nb,hl,ap s p h,show b≠w.heap.size from by omega]
 refine⟨gx,?_,?_,?_,ey⟩
 ·
  have hB:zCL Γ w' w.heap.size:=⟨by omega,.inl hm.sz,by
   cases gN:Γ.St w.heap.size with
   |none=>rfl
   |some x=>have:=hm.st _ x gN;simp at this⟩
  have fb:∀b,zCL Γ w b→zCL Γ w' b:=fun b h=>⟨by have:=h.1;omega,h.2⟩
  refine⟨fun s p=>?_,fun b o l hl=>?_,fun b l hl=>?_,fun b x hx=>?_,fun b h1 h2=>?_,by have:=hm.sz;omega,hm.bk.trans gO ho hq⟩
  ·rw[←gp]
   simp only[Gh.nb];split
   ·split
    ·exact hf _ _
    ·exact hh
   ·exact gn s p
  ·rw[←gp]at hl
   simp only[Gh.nb]at hl;split at hl
   ·grind
   ·split at hl
    ·rename_i hg;exact fb b (hm.lb b o _ hg)
    ·cases hl
  ·rw[←gp]at hl
   simp only[Gh.nb]at hl;split at hl
   ·grind
   ·split at hl
    ·rename_i hg;exact fb b (hm.ow b _ hg)
    ·cases hl
  ·have:=hm.st b x hx
   rw[gJ b (Hn.1 this).1];exact this
  ·rw[gJ b (Qd h1 hm.sz)]
   exact hm.fr b h1 h2
 ·
  refine zGE xs [] 0 w.heap.size 0 gB (fun i x hx g hg=>?_) (fun i p' _ hp=>by simpa using glb i p' hp) (fun i v hv=>?_)
  ·have:=gad (i::g) (by simp only[T.inT,hx];exact hg)
   simpa[T.offT,hx]using this
  ·have:=fI G' ghd i v hv
   rw[J8];simp[yJ,World.cell?,ey,this]
 ·
  refine zO4 xs [] 0 (fun i u hu=>?_);rw[J8];cases hs:src i with
  |none=>exact tg i u hu hs G' w' (fun z=>ghd i z)
  |some xq=>
   obtain⟨x,q⟩:=xq;obtain⟨h1,h2,h3,h4⟩:=dj i u x q hu hs;have gU:∀g,(T.agg xs).inT (i::g)=u.inT g:=fun g=>by simp only[T.inT,hu]
   refine zKN u q [i] (okTups_get xs gB i u hu) ⟨fun z=>by rw[ghd,h1],fun z hz=>gadm i x q z hs (by rw[gU];exact hz),fun b o fl z hz hl=>⟨glbm b o fl x _ _ hl (hφ i u x q z hu hs),eV b o (hm.lb b o _ hl).1⟩,
    fun b z hl=>gowm b x _ _ hl (hφ i u x q z hu hs),gO⟩ (yN.mono (by simp) u h3) h2
where okTups_get:(xs:List T)→yK xs=iB→ ∀(i:Nat)(x:T),xs[i]? =iz x→x.okTup=iB
 | [],_,_,_,h=>by simp at h
 |y::ys,hk,i,x,h=>by
  simp only[yK,J3]at hk;cases i with
  |zero=>grind
  |succ i=>exact okTups_get ys hk.2 i x (by grind)
end Go.Ab

namespace Go.Ab
open Go
inductive yL where
 |slot (s:Nat) (t:T)
 |zero (u:T)
def yL.tree:yL→T
 |.slot _ t=>t
 |.zero u=>u
def qA:T→Bool
 |.lit _|.ro _=>iC
 |_=>iB
mutual
def T.zOk:T→Bool
 |.lit v=>v.oneCell'
 |.sl _ xs=>xs.isEmpty
 |.agg xs=>zAT xs
 |.any|.ro _|.same _ _|.addr _ _|.sub _ _ _ _ _|.ptr _|.tup _=>iC
def zAT:List T→Bool
 | []=>iB
 |x::xs=>x.zOk&&zAT xs
end
def zhd:T→List Nat→Value
 |.agg xs,i::f=>match xs[i]? with
  |some x=>zhd x f
  |none=>.bool iC
 |.lit v,_=>v
 |.sl _ _,_=>.slice iA 0 0
 |.agg _,[] |.any,_|.ro _,_|.same _ _,_|.addr _ _,_|.sub _ _ _ _ _,_|.ptr _,_|.tup _,_=>.bool iC
termination_by structural _ f=>f
mutual
def sE:T→List Value
 |.lit v=>[v]
 |.sl _ _=>[.slice iA 0 0]
 |.agg xs=>qB xs
 |.any|.ro _|.same _ _|.addr _ _|.sub _ _ _ _ _|.ptr _|.tup _=>[]
def qB:List T→List Value
 | []=>[]
 |x::xs=>sE x++qB xs
end
section
variable {St:Stb}{G:Gh}{w:World}{d:Nat}
mutual
theorem zJO:(u:T)→ ∀(p:List Nat),u.zOk=iB→(∀z,G.hd d (z++p)=kS (zhd u z.reverse))→R St G w d u p
 |.lit v,p,h,hd=>by
  simp only[T.zOk,R]at h ⊢
  have:=hd [];rw[Ju]at this;rw[this];exact zAS h
 |.sl k xs,p,h,hd=>by simp only[T.zOk,Qp]at h;subst h;have:=hd [];rw[Ju]at this;simp only[R];exact .inl ⟨trivial,iA,by rw[this];rfl⟩
 |.agg xs,p,h,hd=>by
  simp only[T.zOk,R]at h ⊢
  exact zO5 xs p 0 h (fun i x hx z=>by
   rw[J8];have:=hd (z++[i])
   grind[zhd])
 |.any,_,h,_|.ro _,_,h,_|.same _ _,_,h,_|.addr _ _,_,h,_|.sub _ _ _ _ _,_,h,_|.ptr _,_,h,_|.tup _,_,h,_=>by grind[T.zOk]
theorem zO5:(xs:List T)→ ∀(p:List Nat)(j:Nat),zAT xs=iB→(∀i x,xs[i]? =iz x→ ∀z,G.hd d (z++((j+i)::p))=kS (zhd x z.reverse))→RF St G w d xs p j
 | [],_,_,_,_=>by simp only[RF]
 |x::xs,p,j,h,hd=>by
  simp only[zAT,J3,RF]at h ⊢
  exact⟨zJO x (j::p) h.1 (by simpa using hd 0 x (by simp)),zO5 xs p (j+1) h.2 (fun i y hy z=>by
   have:=hd (i+1) y (by grind) z
   grind)⟩
end
end
section
variable {G:Gh}{d:Nat}
mutual
theorem zF2:(u:T)→ ∀(p:List Nat),u.zOk=iB→(∀z,G.hd d (z++p)=kS (zhd u z.reverse))→vals G d u p=sE u
 |.lit v,p,h,hd=>by
  simp only[T.zOk,vals,sE]at h ⊢
  have:=hd []
  grind[zhd,zAS]
 |.sl k xs,p,h,hd=>by
  have:=hd []
  grind[vals,sE,zhd,kS,Value.oneCell']
 |.agg xs,p,h,hd=>by
  simp only[T.zOk,vals,sE]at h ⊢
  exact zEl xs p 0 h (fun i x hx z=>by
   rw[J8];have:=hd (z++[i])
   grind[zhd])
 |.any,_,h,_|.ro _,_,h,_|.same _ _,_,h,_|.addr _ _,_,h,_|.sub _ _ _ _ _,_,h,_|.ptr _,_,h,_|.tup _,_,h,_=>by grind[T.zOk]
theorem zEl:(xs:List T)→ ∀(p:List Nat)(j:Nat),zAT xs=iB→(∀i x,xs[i]? =iz x→ ∀z,G.hd d (z++((j+i)::p))=kS (zhd x z.reverse))→yF G d xs p j=qB xs
 | [],_,_,_,_=>by rfl
 |x::xs,p,j,h,hd=>by
  simp only[zAT,J3,yF,qB]at h ⊢
  rw[zF2 x (j::p) h.1 (by simpa using hd 0 x (by simp)),zEl xs p (j+1) h.2 (fun i y hy z=>by
   have:=hd (i+1) y (by grind) z
   grind)]
end
end
mutual
theorem zBO:(u:T)→u.zOk=iB→zW u∧u.okTup=iB
 |.lit _,_=>by simp[zW,yN,T.okTup]
 |.sl _ xs,h=>by simp only[T.zOk,Qp]at h;subst h;simp[zW,yN,xH,T.okTup]
 |.agg xs,h=>by simp only[T.zOk]at h;simpa only[zW,yN,T.okTup]using zCp xs h
 |.any,h|.ro _,h|.same _ _,h|.addr _ _,h|.sub _ _ _ _ _,h|.ptr _,h|.tup _,h=>by grind[T.zOk]
theorem zCp:(xs:List T)→zAT xs=iB→yU xs∧yK xs=iB
 | [],_=>by simp[yU,xH,yK]
 |x::xs,h=>by simp only[zAT,J3]at h;simp only[yU,xH,yK,J3];exact⟨⟨(zBO x h.1).1,(zCp xs h.2).1⟩,(zBO x h.1).2,(zCp xs h.2).2⟩
end
mutual
theorem vH:(u:T)→u.zOk=iB→(sE u).length=u.size
 |.lit _,_|.sl _ _,_=>by rfl
 |.agg xs,h=>by simp only[T.zOk]at h;simp only[sE,T.size];exact zBG xs h
 |.any,h|.ro _,h|.same _ _,h|.addr _ _,h|.sub _ _ _ _ _,h|.ptr _,h|.tup _,h=>by grind[T.zOk]
theorem zBG:(xs:List T)→zAT xs=iB→(qB xs).length=T.sizes xs
 | [],_=>by rfl
 |x::xs,h=>by simp only[zAT,J3]at h;simp only[qB,Ja,T.sizes,vH x h.1,zBG xs h.2]
end
def zHg(ps:List yL)(i:Nat):Option (Nat×List Nat):=
 match ps[i]? with
 |some (.slot s t)=>if qA t then iz (s,[])else iA
 |_=>iA
def zI5:List yL→Nat→Nat→Option Nat
 | [],_,_=>iA
 |.slot x t::r,i,s=>if qA t&&x==s then iz i else zI5 r (i+1) s
 |.zero _::r,i,s=>zI5 r (i+1) s
def zI6(ps:List yL)(s:Nat)(z:List Nat):Option (List Nat):=
 match zI5 ps 0 s with
 |some i=>iz (z++[i])
 |none=>iA
def pWr(d:Nat):List yL→Nat→Wr
 | [],_=>[]
 |.slot s t::r,i=>if qA t then(s,iz (cpT d t [i]))::pWr d r (i+1)else pWr d r (i+1)
 |.zero _::r,i=>pWr d r (i+1)
def xI:List yL→List Nat
 | []=>[]
 |.slot s t::r=>if qA t then s::xI r else xI r
 |.zero _::r=>xI r
def sL(ps:List yL):Chg:=(xI ps).map fun s=>(s,1)
def sW(G:Gh):yL→List Value
 |.slot s t=>vals G s t []
 |.zero u=>sE u
def pHd(G:Gh)(ps:List yL)(i:Nat)(z:List Nat):Value:=
 match ps[i]? with
 |some (.slot s _)=>G.hd s z
 |some (.zero u)=>kS (zhd u z.reverse)
 |none=>.bool iC
structure tP (E:Env) (d:Nat) (ps:List yL):Prop where
 slot:∀s t,yL.slot s t∈ps→E s=iz t∧zW t∧t.okTup=iB
 zero:∀u,yL.zero u∈ps→u.zOk=iB
 dist:(d::xI ps).Nodup
theorem zBP:(ps:List yL)→ ∀(i0 i s:Nat)(t:T),ps[i]? =iz (.slot s t)→qA t=iB→(xI ps).Nodup→zI5 ps i0 s=iz (i0+i)
 | [],_,_,_,_,h,_,_=>by simp at h
 |.slot x u::r,i0,i,s,t,h,hm,hn=>by
  cases i with
  |zero=>simp at h;obtain⟨rfl,rfl⟩:=h;simp[zI5,hm]
  |succ i=>
   simp only[Ja6]at h;have gU:s∈xI r:=pSlots_mem r i s t h hm;simp only[zI5]
   by_cases hu:qA u=iB
   ·simp only[xI,hu,if_true,Kr]at hn
    have:x≠s:=by grind
    simp only[hu,Bool.true_and,beq_iff_eq,this,if_false];rw[zBP r (i0+1) i s t h hm hn.2]
    grind
   ·simp only[xI,hu]at hn
    simp only[hu,Qv,H2,if_false];rw[zBP r (i0+1) i s t h hm (by grind)]
    grind
 |.zero u::r,i0,i,s,t,h,hm,hn=>by
  cases i with
  |zero=>simp at h
  |succ i=>
   simp only[Ja6]at h;simp only[zI5];rw[zBP r (i0+1) i s t h hm (by grind[xI])]
   grind
where pSlots_mem:(ps:List yL)→ ∀(i s:Nat)(t:T),ps[i]? =iz (.slot s t)→qA t=iB→s∈xI ps
 | [],_,_,_,h,_=>by simp at h
 |.slot x u::r,i,s,t,h,hm=>by
  cases i with
  |zero=>simp at h;obtain⟨rfl,rfl⟩:=h;simp[xI,hm]
  |succ i=>
   have:=pSlots_mem r i s t (by grind) hm
   grind[xI]
 |.zero u::r,i,s,t,h,hm=>by
  cases i with
  |zero=>simp at h
  |succ i=>simpa only[xI]using pSlots_mem r i s t (by grind) hm
theorem zD5:(ps:List yL)→ ∀(i0 s:Nat),s∉xI ps→zI5 ps i0 s=iA
 | [],_,_,_=>by rfl
 |.slot x u::r,i0,s,h=>by
  simp only[zI5]
  by_cases hu:qA u=iB
  ·simp only[xI,hu,if_true,Jp,not_or]at h
   simp only[hu,Bool.true_and,beq_iff_eq,Ne.symm h.1,if_false];exact zD5 r _ s h.2
  ·simp only[xI,hu]at h
   simp only[hu,Qv,H2,if_false];exact zD5 r _ s (by grind)
 |.zero u::r,i0,s,h=>by simp only[zI5];exact zD5 r _ s (by grind[xI])
theorem zCP:(ps:List yL)→ ∀(d i0 s:Nat)(x:Option T),(pWr d ps i0).find s=iz x→ ∃i t,ps[i]? =iz (.slot s t)∧qA t=iB∧x=iz (cpT d t [i0+i])
 | [],_,_,_,_,h=>by grind[pWr,Wr.find]
 |.slot y u::r,d,i0,s,x,h=>by
  simp only[pWr]at h;split at h
  ·rename_i hu
   simp only[Wr.find]at h;split at h
   ·rename_i he;subst he;simp at h;exact⟨0,u,by simp,hu,by grind⟩
   ·obtain⟨i,t,h1,h2,h3⟩:=zCP r d (i0+1) s x h
    exact⟨i+1,t,by grind,h2,by grind⟩
  ·obtain⟨i,t,h1,h2,h3⟩:=zCP r d (i0+1) s x h
   exact⟨i+1,t,by grind,h2,by grind⟩
 |.zero u::r,d,i0,s,x,h=>by simp only[pWr]at h;obtain⟨i,t,h1,h2,h3⟩:=zCP r d (i0+1) s x h;exact⟨i+1,t,by grind,h2,by grind⟩
theorem zCQ:(ps:List yL)→ ∀(d i0 s:Nat),(pWr d ps i0).find s=iA→s∉xI ps
 | [],_,_,_,_=>by simp[xI]
 |.slot y u::r,d,i0,s,h=>by
  simp only[pWr]at h;simp only[xI];split at h
  ·rename_i hu
   simp only[Wr.find]at h;split at h
   ·cases h
   ·rename_i gf
    simp only[hu,if_true,Jp,not_or];exact⟨fun e=>gf e.symm,zCQ r d _ s h⟩
  ·rename_i hu
   simp only[hu];simpa using zCQ r d _ s h
 |.zero u::r,d,i0,s,h=>by simp only[pWr]at h;simpa only[xI]using zCQ r d _ s h
section
variable {Γ:Ctx}{E:Env}{G:Gh}{tmps:Array Value}{w:World}{d:Nat}{ps:List yL}
theorem zGj(gc:Rep Γ E G tmps w)(h:tP E d ps):
  yK (ps.map yL.tree)=iB∧yU (ps.map yL.tree)∧(∀i z,(pHd G ps i z).oneCell'=iB)∧
  (∀(i:Nat) u x q(z:List Nat),(ps.map yL.tree)[i]? =iz u→zHg ps i=iz (x,q)→zI6 ps x (z++q)=iz (z++[i]))∧
  (∀(i:Nat) u x q,(ps.map yL.tree)[i]? =iz u→zHg ps i=iz (x,q)→(∀z,pHd G ps i z=G.hd x (z++q))∧R Γ.St G w x u q∧zW u∧x≠d)∧
  (∀(i:Nat) u,(ps.map yL.tree)[i]? =iz u→zHg ps i=iA→ ∀(G2:Gh)(w2:World),(∀z,G2.hd d (z++[i])=pHd G ps i z)→R Γ.St G2 w2 d u [i])∧
  (∀s p,(∀n,(s,n)∉(d,0)::sL ps)→zI6 ps s p=iA):=by
 have pz:=Kr.1 h.dist;refine⟨?_,?_,?_,?_,?_,?_,?_⟩
 ·have:∀qs:List yL,(∀p∈qs,p∈ps)→yK (qs.map yL.tree)=iB:=by
   intro qs
   induction qs with
   |nil=>intro _;rfl
   |cons q qs ih=>
    intro hq;simp only[Jl,yK,J3];refine⟨?_,by grind⟩;cases q with
    |slot s t=>exact(h.slot s t (hq _ (by simp))).2.2
    |zero u=>exact(zBO u (h.zero u (hq _ (by simp)))).2
  grind
 ·have:∀qs:List yL,(∀p∈qs,p∈ps)→yU (qs.map yL.tree):=by
   intro qs
   induction qs with
   |nil=>intro _;trivial
   |cons q qs ih=>
    intro hq;simp only[Jl,yU,xH];refine⟨?_,by grind⟩;cases q with
    |slot s t=>exact(h.slot s t (hq _ (by simp))).2.1
    |zero u=>exact(zBO u (h.zero u (hq _ (by simp)))).1
  grind
 ·intro i z
  unfold pHd;split
  ·exact gc.mem.one _ _
  ·exact zBN _
  ·rfl
 ·intro i u x q z hu hs
  rw[Jn]at hu;unfold zHg at hs;cases hp:ps[i]? with
  |none=>grind
  |some p=>
   cases p with
   |zero v=>grind
   |slot s t=>
    simp only[hp]at hs;split at hs
    ·rename_i hm
     simp at hs;obtain⟨rfl,rfl⟩:=hs;simp[zI6,zBP ps 0 i s t hp hm pz.2]
    ·cases hs
 ·intro i u x q hu hs
  rw[Jn]at hu;unfold zHg at hs;cases hp:ps[i]? with
  |none=>grind
  |some p=>
   cases p with
   |zero v=>grind
   |slot s t=>
    simp only[hp]at hs;split at hs
    ·rename_i hm
     simp at hs;obtain⟨rfl,rfl⟩:=hs;simp[hp,yL.tree]at hu;subst hu;obtain⟨h1,h2,h3⟩:=h.slot s t (by grind);refine⟨by grind[pHd],(gc.ent s t h1).2.1,h2,fun e=>pz.1 ?_⟩
     grind[zBP.pSlots_mem]
    ·cases hs
 ·intro i u hu hs G2 w2 eH
  rw[Jn]at hu;unfold zHg at hs;cases hp:ps[i]? with
  |none=>grind
  |some p=>
   cases p with
   |zero v=>
    simp[hp,yL.tree]at hu;subst hu;exact zJO v [i] (h.zero v (by grind)) (by grind[pHd])
   |slot s t=>
    simp only[hp]at hs;split at hs
    ·cases hs
    ·rename_i hm
     simp[hp,yL.tree]at hu;subst hu;have h1:=(gc.ent s t (h.slot s t (by grind)).1).2.1;have h2:G2.hd d [i]=G.hd s []:=by have:=eH [];grind[pHd]
     cases t<;>simp[qA]at hm<;>simp only[R]at h1 ⊢ <;>rw[h2]<;>exact h1
 ·intro s p gG
  have:s∉xI ps:=fun gU=>gG 1 (by grind[sL])
  grind[zI6,zD5]
theorem zEm(gc:Rep Γ E G tmps w)(h:tP E d ps)(G2:Gh):∀(qs:List yL)(i0:Nat),(∀i q,qs[i]? =iz q→ps[i0+i]? =iz q)→(∀i z,G2.hd d (z++[i])=pHd G ps i z)→
  yF G2 d (qs.map yL.tree) [] i0=qs.flatMap (sW G)
 | [],_,_,_=>by rfl
 |q::qs,i0,hq,eH=>by
  have h0:ps[i0]? =iz q:=by simpa using hq 0 q (by simp)
  have ih:=zEm gc h G2 qs (i0+1) (fun i p hp=>by rw[show i0+1+i=i0+(i+1)from by omega];simp_all) eH;simp only[Jl,yF,Lg,ih]
  congr 1
  cases q with
  |slot s t=>exact zB3 t [] [i0] (by grind[pHd])
  |zero u=>exact zF2 u [i0] (h.zero u (by grind)) (by grind[pHd])
end
end Go.Ab

namespace Go.Ab
open Go
section
variable {P:Program}{Γ:Ctx}{E:Env}{o:Oper}{d:Nat}
theorem zIR{G G':Gh}{w':World}{s i:Nat}{t:T}{v:Option Value}(hv:v=iz (mkV G s t []))(ee:∀xs,t≠.tup xs)(hs:∀p,G'.hd s p=G.hd s p)(pW:∀z,G'.hd d (z++[i])=G.hd s z)
  (hr:R Γ.St G' w' d t [i]):Ent Γ G' w' v s (cpT d t [i]):=by
 have hz:∀z,G'.hd s (z++[])=G'.hd d (z++[i]):=fun z=>by rw[J9,hs,pW]
 refine⟨?_,?_,qL d t [i]⟩
 ·rw[hv,zBh (G:=G') (G':=G') t [i] [] ee hz,zAy G s t [] ee,zCn t [] [i] (fun z=>by rw[pW,J9])]
 ·exact zEh (G:=G') (G':=G') (fun _=>rfl) t [i] [] hz ee (yN.triv (fun _ _=>⟨rfl,rfl⟩) _) hr
theorem zBQ{G:Gh}{a:Act}{w w':World}{ps:List yL}(gc:Rep Γ E G a.tmps w)(h:tP E d ps)(hd:d<Γ.N){cells:Array Value}{e:TypeId}(hw:w'.heap=w.heap.push (.cells cells e))
  (fI:∀(o:Nat)(v:Value),(ps.flatMap (sW G))[o]? =iz v→cells[o]? =iz v)
  (rt:T)(gY:Value)
  (eU:(∃k cap,rt=.sl k (ps.map yL.tree)∧(∀p∈ps,p.tree.size=k)∧gY=.slice (iz ⟨w.heap.size,0,iA⟩) ps.length cap∧ps.length≤cap∧cap≤maxLen∧cells.size=cap*k)∨
   ∃p,ps=[p]∧rt=.ptr p.tree∧gY=.pointer (iz ⟨w.heap.size,0,iA⟩)∧cells.size=p.tree.size)
  (ho:w'.os=w.os:=by rfl)(hq:w'.output=w.output:=by rfl):
  ∃G',Rep Γ (E.app ((d,iz rt)::pWr d ps 0) ((d,0)::sL ps)) G' (a.tmps.setIfInBounds d gY) w':=by
 obtain⟨f1,f0,f2,f3,f4,f5,f6⟩:=zGj gc h;have hh:gY.oneCell'=iB:=by rcases eU with⟨k,cap,_,_,rfl,_⟩|⟨p,_,_,rfl,_⟩<;>rfl
 have pz:=Kr.1 h.dist;obtain⟨g1,g2,g3,g4,g5⟩:=zD4 gc.mem hw d (ps.map yL.tree) (zHg ps) (zI6 ps) (pHd G ps) gY (sL ps) f1 f2 hh f3 f4 f5
  (fun G2 eH o v hv=>fI o v (by rw[zEm gc h G2 ps 0 (fun i q hq=>by simpa using hq) eH]at hv;exact hv)) f6 (ho:=ho) (hq:=hq)
 refine⟨_,vJ gc (by simp) g1 g2 ?_ ?_⟩
 ·intro s hs
  simp only[Wr.find]at hs;split at hs
  ·cases hs
  ·rename_i gf
   have hns:=zCQ ps d 0 s hs;refine⟨fun n hn=>?_,by rw[Jc];simp[gf]⟩;simp only[Jp,Uq.injEq,sL,Jj]at hn;rcases hn with⟨e1,_⟩|⟨y,hy,e1,_⟩
   ·exact gf e1.symm
   ·exact hns (e1▸hy)
 ·intro s t hs
  simp only[Wr.find]at hs;split at hs
  ·rename_i he
   subst he;simp at hs;subst hs;have cz:(G.nb d w.heap.size (ps.map yL.tree) (zHg ps) (zI6 ps) (pHd G ps) gY).hd d []=gY:=by simp[Gh.nb]
   have how:(G.nb d w.heap.size (ps.map yL.tree) (zHg ps) (zI6 ps) (pHd G ps) gY).ow w.heap.size=iz (d,[]):=by simp[Gh.nb]
   refine⟨?_,?_,?_⟩
   ·rw[Jc]
    rcases eU with⟨k,cap,rfl,_⟩|⟨p,_,rfl,_⟩<;>simp[gc.size,hd,mkV,cz]
   ·rcases eU with⟨k,cap,rfl,hk,h1,h2,h3,h4⟩|⟨p,rfl,rfl,h1,h4⟩
    ·simp only[R]
     rw[cz];refine .inr ⟨w.heap.size,0,cap,cells,e,by simpa using h1,g5,by simpa using h2,h3,by omega,how,?_,zRt _ _ _ _ _ (fun x hx=>?_) g3 g4⟩
     ·intro o ho _
      have gC:T.sizes (ps.map yL.tree)=(ps.map yL.tree).length*k:=wN _ (fun x hx=>by obtain⟨p,hp,rfl⟩:=Jj.1 hx;exact hk p hp)
      simp[Gh.nb,zEk (ps.map yL.tree) [] 0 o (by omega)]
     ·obtain⟨p,hp,rfl⟩:=Jj.1 hx
      exact hk p hp
    ·simp only[R]
     rw[cz];simp only[Jl,U2,vD,RF]at g3 g4;exact⟨w.heap.size,cells,e,h1,g5,h4,how,g3.1,g4.1⟩
   ·rcases eU with⟨k,cap,rfl,_⟩|⟨p,rfl,rfl,_⟩
    ·simp only[Top];exact f0
    ·simp only[Top];exact f0.1
  ·rename_i gf
   obtain⟨i,u,h1,h2,h3⟩:=zCP ps d 0 s _ hs;simp only[J8]at h3;simp at h3;subst h3;obtain⟨h4,h5,h6⟩:=h.slot s u (Ld h1);have ee:∀xs,u≠.tup xs:=by rintro xs rfl;simp[T.okTup]at h6
   have hi:(ps.map yL.tree)[i]? =iz u:=by simp[h1,yL.tree]
   have hr:=zBF _ [] 0 i u g4 hi;simp only[J8]at hr;refine zIR (G:=G) (by rw[Jc];simp only[gf,if_false];exact(gc.ent s u h4).1) ee (fun p=>?_) (fun z=>?_) hr
   ·simp[Gh.nb,show s≠d from fun e=>gf e.symm]
   ·simp[Gh.nb,pHd,h1]
inductive zAC (E:Env):Operand→yL→Prop where
 |slot (s:Nat) (t:T):zAC E (.tmp s) (.slot s t)
 |zero (v:Value) (u:T) (h:sE u=v.cells.toList):zAC E (.const v) (.zero u)
theorem zBi{G:Gh}{a:Act}{w:World}{ps:List yL}(gc:Rep Γ E G a.tmps w)(h:tP E d ps){x:Operand}{p:yL}(hp:p∈ps)(hx:zAC E x p):
  (a.eval x).cells.toList=sW G p:=by
 cases hx with
 |slot s t=>
  obtain⟨h1,h2,h3⟩:=h.slot s t hp;obtain⟨h4,_,_⟩:=gc.ent s t h1;rw[xP h4];cases t with
  |agg xs=>simp[mkV,Value.cells,vals,sW]
  |tup xs=>simp[T.okTup]at h3
  |_=>
   have:=gc.mem.one s [];simp only[mkV,vals,sW]
   generalize G.hd s []=v at this
   cases v<;>simp[Value.oneCell',Value.cells]at this ⊢
 |zero v u h=>simp[Act.eval,h,sW]
def uF(E:Env):List Operand→List yL→Prop
 | [],[]=>True
 |x::xs,p::ps=>zAC E x p∧uF E xs ps
 |_,_=>False
theorem uF.length:(xs:List Operand)→(ps:List yL)→uF E xs ps→xs.length=ps.length
 | [],[],_=>rfl
 |_::xs,_::ps,h=>by simp[uF.length xs ps h.2]
 | [],_::_,h=>by simp[uF]at h
 |_::_,[],h=>by simp[uF]at h
theorem uF.mem:(xs:List Operand)→(ps:List yL)→uF E xs ps→ ∀x∈xs,∃p,p∈ps∧zAC E x p
 | [],_,_,x,hx=>by simp at hx
 |y::xs,p::ps,h,x,hx=>by
  rcases Jp.1 hx with rfl|hx
  ·exact⟨p,by simp,h.1⟩
  ·obtain⟨q,hq,hxq⟩:=uF.mem xs ps h.2 x hx;exact⟨q,by simp[hq],hxq⟩
 |_::_,[],h,_,_=>by simp[uF]at h
theorem zHh{G:Gh}{a:Act}{w:World}{ps:List yL}(gc:Rep Γ E G a.tmps w)(h:tP E d ps):∀(xs:List Operand)(qs:List yL),(∀q∈qs,q∈ps)→uF E xs qs→
  ((xs.map a.eval).flatMap fun v=>v.cells.toList)=qs.flatMap (sW G)
 | [],[],_,_=>rfl
 |x::xs,q::qs,hq,hx=>by simp only[Jl,Lg,zBi gc h (hq q (by simp)) hx.1,zHh gc h xs qs (fun p hp=>hq p (by simp[hp])) hx.2]
 | [],_::_,_,hx=>by simp[uF]at hx
 |_::_,[],_,hx=>by simp[uF]at hx
theorem zRu(T':TypeId)(ti:TypeInfo)(z:Value)(u:T)(ho:o.op=.alloc T')(gj:o.dst=iz d)(hd:d<Γ.N)
  (hi:P.info? T'=iz ti)(hz:ti.zero=iz z)(hu:u.zOk=iB)(hv:sE u=z.cells.toList)(gC:z.cells.size=u.size):
  xW P Γ o E (E.app [(d,iz (.ptr u))] [(d,0)]):=by
 refine xW.value gj fun a w G gc=>?_
 have gI:tP E d [.zero u]:=⟨fun s t h=>by simp at h,fun v h=>by simp at h;subst h;exact hu,by simp[xI]⟩;obtain⟨G',gp⟩:=zBQ (w':=w.alloc (.cells z.cells T')) gc gI hd (cells:=z.cells) (e:=T') rfl (fun o v h=>by simpa[hv,sW]using h) (.ptr u) (.pointer (iz ⟨w.heap.size,0,iA⟩)) (.inr ⟨.zero u,rfl,rfl,rfl,gC⟩);refine⟨_,_,?_,G',by simpa[pWr,sL,xI]using gp⟩;simp[execOp,ho,Instr.alloc,zeroValue,typeInfo,hi,hz,newVar,newRow]
theorem zYx(T':TypeId)(x:Operand)(p:yL)(ho:o.op=.box T' x)(gj:o.dst=iz d)(hd:d<Γ.N)(hx:zAC E x p)(gI:tP E d [p]):
  xW P Γ o E (E.app ((d,iz (.ptr p.tree))::pWr d [p] 0) ((d,0)::sL [p])):=by
 refine xW.value gj fun a w G gc=>?_
 have hc:=zBi gc gI (by simp) hx;have gC:(a.eval x).cells.size=p.tree.size:=by
  rw[←Ka,hc];cases p with
  |slot s t=>
   obtain⟨_,_,h3⟩:=gI.slot s t (by simp);show(vals G s t []).length=t.size;exact wX t [] (by rintro xs rfl;simp[T.okTup]at h3)
  |zero u=>exact vH u (gI.zero u (by simp))
 obtain⟨G',gp⟩:=zBQ (w':=w.alloc (.cells (a.eval x).cells T')) gc gI hd (cells:=(a.eval x).cells) (e:=T') rfl (fun o v h=>by rw[←Ki,hc];simpa using h) (.ptr p.tree) (.pointer (iz ⟨w.heap.size,0,iA⟩)) (.inr ⟨p,rfl,rfl,rfl,gC⟩)
 refine⟨_,_,?_,G',gp⟩;simp[execOp,ho,Instr.box,newVar,newRow]
theorem zI7(t e:TypeId)(ti:TypeInfo)(z:Value)(k n:Nat)(xs:List Operand)(ps:List yL)(ho:o.op=.buildSlice t n ((xs.zipIdx 0).map fun x=>(x.2,x.1)).toArray)(gj:o.dst=iz d)(hd:d<Γ.N)
  (ht:P.underlying t=iz (.slice e))(hi:P.info? e=iz ti)(hz:ti.zero=iz z)(hk:ti.size=k)(eD:0<k)(hn:xs.length=n)(tk:0<n)(hsm:n*k≤2 ^ 24)
  (hx:uF E xs ps)(gI:tP E d ps)(gC:∀p∈ps,p.tree.size=k):
  xW P Γ o E (E.app ((d,iz (.sl k (ps.map yL.tree)))::pWr d ps 0) ((d,0)::sL ps)):=by
 refine xW.value gj fun a w G gc=>?_
 subst hk;have gm:xs.length=ps.length:=uF.length xs ps hx;have hc:=zHh gc gI xs ps (fun _ h=>h) hx;have pe:∀v∈xs.map a.eval,v.cells.size=ti.size:=by
  intro v hv;obtain⟨x,mT,rfl⟩:=Jj.1 hv;obtain⟨p,hp,hxp⟩:=uF.mem xs ps hx x mT;rw[←Ka,zBi gc gI hp hxp,←gC p hp];cases p with
  |slot s t=>
   obtain⟨_,_,h3⟩:=gI.slot s t hp;show(vals G s t []).length=t.size;exact wX t [] (by rintro xs rfl;simp[T.okTup]at h3)
  |zero u=>exact vH u (gI.zero u hp)
 have ag:=Great.fill_whole eD (xs.map a.eval) ((Ja4 (n*ti.size)).map (z.cells[· %z.cells.size]!)) pe (by simp[hn]);have mo:((((xs.zipIdx 0).map fun x=>(x.2,x.1)).toArray).map fun(i,x)=>(i,a.eval x)).toList=((xs.map a.eval).zipIdx 0).map fun x=>(x.2,x.1):=by simp[List.zipIdx_map,Function.comp_def]
 have gz:=run_buildSlice (P:=P) w t e n _ _ ti z ht hi hz (by omega) (by have:=Nat.mul_pos tk eD;omega) (by rw[mo];exact ag);have gQ:((xs.map a.eval).flatMap fun v=>v.cells.toList).toArray.size=n*ti.size:=by rw[Qg,zFi (k:=ti.size) _ (fun v hv=>by rw[Ka];exact pe v hv)];simp[hn]
 obtain⟨G',gp⟩:=zBQ (w':=w.alloc (.cells ((xs.map a.eval).flatMap fun v=>v.cells.toList).toArray e)) gc gI hd rfl (fun o v h=>by rw[hc];simpa using h) (.sl ti.size (ps.map yL.tree)) (.slice (iz ⟨w.heap.size,0,iA⟩) n n) (.inl ⟨ti.size,n,rfl,gC,by rw[←gm,hn],by omega,by have:n≤n*ti.size:=Qe n eD;simp only[maxLen];omega,gQ⟩)
 refine⟨_,_,?_,G',gp⟩;simp only[execOp,ho,Sem.run_bind,gz,Result.andThen_ok];rfl
where
 zFi {k:Nat} (vs:List Value) (h:∀v∈vs,v.cells.toList.length=k):(vs.flatMap fun v=>v.cells.toList).length=vs.length*k:=by
  induction vs with
  |nil=>simp
  |cons v vs ih=>simp[Lg,ih (fun u hu=>h u (by simp[hu])),L5];have:=h v (by simp);simp at this;omega
end
end Go.Ab

namespace Go.Ab
open Go
theorem zJP{α β:Type}(f:α→List β)(x:α)(k:Nat)(hk:(f x).length=k)(eD:0<k):∀(n o:Nat)(v:β),((J1 n x).flatMap f)[o]? =iz v→o<n*k∧(f x)[o%k]? =iz v
 |0,o,v,h=>by simp at h
 |n+1,o,v,h=>by
  rw[Jv,Lg,Kf]at h;split at h
  ·grind[Nat.mod_eq_of_lt]
  ·rename_i hge
   rw[hk]at h hge;obtain⟨h1,h2⟩:=zJP f x k hk eD n (o-k) v h
   grind[Nat.mod_eq_sub_mod]
section
variable {P:Program}{Γ:Ctx}{E:Env}{o:Oper}{d:Nat}
theorem zVj(t e:TypeId)(ti:TypeInfo)(z:Value)(u:T)(k:Nat)(x y:Operand)(n c:Nat)(kl kc:IntKind)(ho:o.op=.makeSlice t x y)(gj:o.dst=iz d)(hd:d<Γ.N)
  (ht:P.underlying t=iz (.slice e))(hi:P.info? e=iz ti)(hz:ti.zero=iz z)(hk:ti.size=k)(eD:0<k)(hu:u.zOk=iB)(hv:sE u=z.cells.toList)(ft:u.size=k)(hb:ti.bytes≤4096)
  (hx:opT E x=iz (.lit (.int kl n)))(hy:opT E y=iz (.lit (.int kc c)))(cP:n≤c)(hc:c≤68719476736):
  xW P Γ o E (E.app [(d,iz (.sl k (J1 n u)))] [(d,0)]):=by
 refine xW.value gj fun a w G gc=>?_
 have h1:=(yT gc hx).1;have h2:=(yT gc hy).1;subst hk;have gI:tP E d (J1 n (.zero u)):=⟨by simp,by grind,by
  have:∀m,xI (J1 m (.zero u))=[]:=by intro m;induction m with|zero=>rfl|succ m ih=>grind[xI]
  simp[this]⟩
 have hzs:z.cells.size=ti.size:=by grind[vH]
 have mJ:(ti.bytes:Int)*(c:Int)≤281474976710656:=by have:ti.bytes*c≤4096*68719476736:=K6 hb hc;omega
 have gz:=run_make (P:=P) w t e ti z ht hi hz kl kc n c (by omega) (by omega) mJ (by omega);simp only[J6]at gz;obtain⟨G',gp⟩:=zBQ (w':=w.alloc (.cells (madeCells z.cells (c*ti.size)) e)) gc gI hd rfl (fun i v h=>by
  obtain⟨h3,h4⟩:=zJP (sW G) (.zero u) ti.size (by grind[sW]) eD n i v h
  grind[Qd,Kj,sW,madeCells]) (.sl ti.size (J1 n u)) (.slice (iz ⟨w.heap.size,0,iA⟩) n c)
  (.inl ⟨ti.size,c,by simp[yL.tree],fun p hp=>by simp at hp;obtain⟨_,rfl⟩:=hp;exact ft,by simp,by grind,by grind[maxLen],by simp[madeCells]⟩)
 refine⟨.slice (iz ⟨w.heap.size,0,iA⟩) n c,w.alloc (.cells (madeCells z.cells (c*ti.size)) e),?_,G',?_⟩
 ·simp only[execOp,ho,h1,h2,Sem.run_bind,gz,Result.andThen_ok]
  rfl
 ·have h6:∀m i,pWr d (J1 m (.zero u)) i=[]:=by intro m;induction m with|zero=>intro i;rfl|succ m ih=>grind[pWr]
  have h7:sL (J1 n (.zero u))=[]:=by
   have:∀m,xI (J1 m (.zero u))=[]:=by intro m;induction m with|zero=>rfl|succ m ih=>grind[xI]
   grind[sL]
  grind
theorem zHi(t e:TypeId)(ti:TypeInfo)(k:Nat)(ho:o.op=.buildSlice t 0 #[])(gj:o.dst=iz d)(hd:d<Γ.N)
  (ht:P.underlying t=iz (.slice e))(hi:P.info? e=iz ti):xW P Γ o E (E.app [(d,iz (.sl k []))] [(d,0)]):=by
 refine xW.value gj fun a w G gc=>?_
 have gI:tP E d []:=⟨by simp,by simp,by simp[xI]⟩;obtain⟨G',gp⟩:=zBQ (w':=w.alloc (.cells #[] e)) gc gI hd (cells:=#[]) rfl (by simp) (.sl k []) (.slice (iz ⟨w.heap.size,0,iA⟩) 0 0)
  (by simp)
 refine⟨_,_,?_,G',gp⟩;have h0:(Ja4 0:Array Nat)= #[]:=by rfl
 simp[execOp,ho,Instr.buildSlice,run_underlying ht,sizeOf,typeInfo,hi,Instr.fill,newRow,h0]
theorem zKO(k:Nat)(x:Operand)(ho:o.op=.move x∨o.op=.assign x)(hx:x=.const (.slice iA 0 0))(gj:o.dst=iz d)(hd:d<Γ.N):xW P Γ o E (E.app [(d,iz (.sl k []))] [(d,0)]):=by
 refine xW.value gj fun a w G gc=>?_
 refine⟨.slice iA 0 0,w,?_,_,vB gc rfl hd (fun _=>.slice iA 0 0) (fun _=>rfl) (.sl k []) (.slice iA 0 0) (by simp[mkV,Gh.put]) (by simp[R,Gh.put]) (by simp[Top,yU,xH])⟩;subst hx;rcases ho with ho|ho<;>simp[execOp,ho,Act.eval]
def Gh.nv(G:Gh)(d:Nat)(src:Nat→Option (Nat×List Nat))(φ:Nat→List Nat→Option (List Nat))(f:Nat→List Nat→Value):Gh where
 hd s z:=if s=d then(match z.getLast? with
  |some i=>f i z.dropLast
  |none=>.bool iC)else G.hd s z
 ad s z:=if s=d then(match z.getLast? with
  |some i=>(match src i with
   |some (x,q)=>G.ad x (z.dropLast++q)
   |none=>default)
  |none=>default)else G.ad s z
 lb b o:=match G.lb b o with
  |some (fl,s,z)=>(match φ s z with
   |some z'=>iz (fl,d,z')
   |none=>iz (fl,s,z))
  |none=>iA
 ow b:=match G.ow b with
  |some (s,z)=>(match φ s z with
   |some z'=>iz (d,z')
   |none=>iz (s,z))
  |none=>iA
theorem zVk{G:Gh}{a:Act}{w:World}{ps:List yL}(gc:Rep Γ E G a.tmps w)(h:tP E d ps)(hd:d<Γ.N):
  ∃G',Rep Γ (E.app ((d,iz (.agg (ps.map yL.tree)))::pWr d ps 0) ((d,0)::sL ps)) G' (a.tmps.setIfInBounds d (.agg (ps.flatMap (sW G)).toArray)) w:=by
 obtain⟨f1,f0,f2,f3,f4,f5,f6⟩:=zGj gc h;have hm:=gc.mem;have gO:Blk w w:=fun b cs e' h=>⟨cs,h,rfl⟩
 generalize gp:G.nv d (zHg ps) (zI6 ps) (pHd G ps)=G'
 have ghd:∀i z,G'.hd d (z++[i])=pHd G ps i z:=by grind[Gh.nv]
 have ghd':∀s z,s≠d→G'.hd s z=G.hd s z:=by grind[Gh.nv]
 have glbm:∀b o fl x z z',G.lb b o=iz (fl,x,z)→zI6 ps x z=iz z'→G'.lb b o=iz (fl,d,z'):=by grind[Gh.nv]
 have gowm:∀b x z z',G.ow b=iz (x,z)→zI6 ps x z=iz z'→G'.ow b=iz (d,z'):=by grind[Gh.nv]
 have gf:∀s p,Off ((d,0)::sL ps) s p→s≠d:=fun s p h e=>absurd (h 0 (by simp[e])) (by simp)
 have gx:jS ((d,0)::sL ps) G w G' w:=by
  refine⟨by grind,fun s p h=>?_,fun b o fl s p _ hl h=>⟨?_,rfl⟩,fun b s p hl h=>?_,gO⟩
  ·grind[Gh.nv]
  all_goals grind[Gh.nv]
 have gu:Mem Γ G' w:=by
  refine⟨fun s p=>?_,fun b o l hl=>?_,fun b l hl=>?_,hm.st,hm.fr,hm.sz,hm.bk⟩
  ·rw[←gp]
   simp only[Gh.nv];split
   ·split
    ·grind
    ·rfl
   ·exact hm.one s p
  ·rw[←gp]at hl
   simp only[Gh.nv]at hl;split at hl
   ·rename_i hg;exact hm.lb b o _ hg
   ·cases hl
  ·rw[←gp]at hl
   simp only[Gh.nv]at hl;split at hl
   ·rename_i hg;exact hm.ow b _ hg
   ·cases hl
 have g4:RF Γ.St G' w d (ps.map yL.tree) [] 0:=by
  refine zO4 _ [] 0 (fun i u hu=>?_);rw[J8];cases hs:zHg ps i with
  |none=>grind
  |some xq=>
   obtain⟨x,q⟩:=xq;obtain⟨h1,h2,h3,h4⟩:=f4 i u x q hu hs;refine zKN u q [i] (zD4.okTups_get _ f1 i u hu) ⟨by grind,by grind[Gh.nv],by grind,
    by grind,gO⟩ (by grind[yN.mono]) h2
 refine⟨G',vJ gc (by simp) gx gu ?_ ?_⟩
 ·grind[Wr.find,zCQ,sL]
 ·intro s t hs
  simp only[Wr.find]at hs;split at hs
  ·rename_i he
   subst he;simp at hs;subst hs;refine⟨?_,by simpa only[R]using g4,by simp only[Top];exact uI.of_clean _ f0⟩;rw[Jc];simp only[gc.size,hd,mkV,if_true];rw[zEm gc h G' ps 0 (by simp) ghd]
  ·rename_i gf
   obtain⟨i,u,h1,h2,h3⟩:=zCP ps d 0 s _ hs;simp only[J8]at h3;simp at h3;subst h3;obtain⟨h4,h5,h6⟩:=h.slot s u (by grind);have ee:∀xs,u≠.tup xs:=by rintro xs rfl;grind[T.okTup]
   have hi:(ps.map yL.tree)[i]? =iz u:=by simp[h1,yL.tree]
   have hr:=zBF _ [] 0 i u g4 hi;simp only[J8]at hr;refine zIR (G:=G) (by rw[Jc];simp only[gf,if_false];exact(gc.ent s u h4).1) ee (by grind) (fun z=>?_) hr
   grind[pHd]
theorem zO6(off:Nat):∀(vs:List Value)(i:Nat)(cs:Array Value)(k:Nat),off+i+vs.length≤cs.size→
  ((vs.zipIdx i).foldl (fun cs(x:Value×Nat)=>cs.setIfInBounds (off+x.2) x.1) cs)[k]? =if off+i≤k∧k<off+i+vs.length then vs[k-(off+i)]? else cs[k]?
 | [],i,cs,k,_=>by simp;omega
 |v::vs,i,cs,k,h=>by
  simp only[K2]at h;simp only[List.zipIdx_cons,Hv];rw[zO6 off vs (i+1) _ k (by simp;omega)]
  grind
theorem zHj{pv:yL→List Value}(place:Nat→Option (Nat×Nat)):∀(vs:List (Nat×Value))(qs:List (Nat×yL))(ps:List yL)(cs:Array Value),cs.toList=ps.flatMap pv→
  (∀i p,ps[i]? =iz p→place i=iz (((ps.take i).flatMap pv).length,(pv p).length))→
  vs.map (·.1)=qs.map (·.1)→(∀(j:Nat)(v:Nat×Value)(q:Nat×yL),vs[j]? =iz v→qs[j]? =iz q→v.2.cells.toList=pv q.2∧ ∃p,ps[q.1]? =iz p∧(pv p).length=(pv q.2).length)→
  ∃cs',Instr.fill place cs vs=iz cs'∧cs'.toList=(qs.foldl (fun ps q=>ps.set q.1 q.2) ps).flatMap pv
 | [],[],ps,cs,gR,_,_,_=>⟨cs,rfl,gR⟩
 | [],_::_,_,_,_,_,h,_=>by simp at h
 |_::_,[],_,_,_,_,h,_=>by simp at h
 |(i,v)::vs,(i',q)::qs,ps,cs,gR,fE,hi,hq=>by
  simp only[Jl,Qt.injEq]at hi;obtain⟨uh,hi⟩:=hi;subst uh;obtain⟨h1,p,h2,h3⟩:=hq 0 (i,v) (i,q) rfl rfl;dsimp only at h1 h2 h3;have dO:=fE i p h2;have gH:=(Je.1 h2).1;have mj:ps=ps.take i++p::ps.drop (i+1):=by grind[G8,List.take_append_drop]
  have gy:ps.set i q=ps.take i++q::ps.drop (i+1):=by grind
  have fT:v.cells.size=(pv p).length:=by grind
  have gD:cs.size=((ps.take i).flatMap pv).length+((pv p).length+((ps.drop (i+1)).flatMap pv).length):=by grind[Ka]
  have ey:(v.cells.zipIdx.foldl (fun cs(x:Value×Nat)=>cs.setIfInBounds (((ps.take i).flatMap pv).length+x.2) x.1) cs).toList=(ps.set i q).flatMap pv:=by
   rw[gy];simp only[Ue,Lg,←h1];apply Kk;intro k;rw[←Array.foldl_toList,Ki,show v.cells.zipIdx.toList=v.cells.toList.zipIdx 0 from by simp,zO6 _ _ 0 cs k (by grind)];have uy:cs.toList=((ps.take i).flatMap pv)++(pv p++(ps.drop (i+1)).flatMap pv):=by grind
   have hvl2:v.cells.toList.length=(pv p).length:=by rw[h1,h3]
   rw[←Ki,uy]
   grind
  have dP:∀j p',(ps.set i q)[j]? =iz p'→place j=iz ((((ps.set i q).take j).flatMap pv).length,(pv p').length):=by
   intro j p' fY;have eB:(((ps.set i q).take j).flatMap pv).length=((ps.take j).flatMap pv).length:=by
    rw[gy]
    conv=>rhs;rw[mj]
    by_cases hj:j≤i
    ·grind
    ·rw[Qn,Qn]
     simp only[Ue,Ja]
     congr 1
     have:j-(ps.take i).length=(j-(ps.take i).length-1)+1:=by simp;omega
     grind
   grind
  have hq':∀(j:Nat)(x:Nat×Value)(y:Nat×yL),vs[j]? =iz x→qs[j]? =iz y→x.2.cells.toList=pv y.2∧ ∃p,(ps.set i q)[y.1]? =iz p∧(pv p).length=(pv y.2).length:=by
   intro j x y hx hy;obtain⟨h6,p',h7,h8⟩:=hq (j+1) x y (by grind) (by grind)
   grind
  obtain⟨cs',h4,h5⟩:=zHj place vs qs (ps.set i q) _ ey dP hi hq'
  grind[Instr.fill]
theorem vX{t:TypeId}{it:TypeInfo}{fields:Array Field}{z:Value}{places:List (Nat×Nat)}(hi:P.info? t=iz it)(hu:P.underlying t=iz (.struct fields))(hz:it.zero=iz z)
  (hp:fields.toList.mapM (fun f=>(P.info? f.type).map fun i=>(f.offset,i.size))=iz places)(parts:List (Nat×Value)):P.built t parts=Instr.fill (places.toArray[·]?) z.cells parts:=by
 grind[Program.built]
theorem zKP{t e:TypeId}{n:Nat}{it ie:TypeInfo}{z:Value}(hi:P.info? t=iz it)(hu:P.underlying t=iz (.array n e))(hz:it.zero=iz z)
  (he:P.info? e=iz ie)(parts:List (Nat×Value)):P.built t parts=Instr.fill (fun i=>iz (i*ie.size,ie.size)) z.cells parts:=by
 grind[Program.built]
theorem zF3{G:Gh}:(zs:List T)→(zs.map yL.zero).flatMap (sW G)=qB zs
 | []=>rfl
 |z::zs=>by simp[sW,qB,←zF3 (G:=G) zs]
theorem zRv(t:TypeId)(place:Nat→Option (Nat×Nat))(z:Value)(zs:List T)(pl:List (Nat×Operand))(qs:List (Nat×yL))(ps:List yL)(ho:o.op=.build t pl.toArray)(gj:o.dst=iz d)(hd:d<Γ.N)
  (hb:∀parts,P.built t parts=Instr.fill place z.cells parts)(hzv:qB zs=z.cells.toList)(hz:zAT zs=iB)(fE:∀i u,zs[i]? =iz u→place i=iz (T.sizes (zs.take i),u.size))
  (gI:qs.foldl (fun ps q=>ps.set q.1 q.2) (zs.map yL.zero)=ps)(gB:tP E d ps)(hix:pl.map (·.1)=qs.map (·.1))
  (hq:∀(j:Nat)(x:Nat×Operand)(q:Nat×yL),pl[j]? =iz x→qs[j]? =iz q→zAC E x.2 q.2∧q.2∈ps∧ ∃u,zs[q.1]? =iz u∧u.size=q.2.tree.size):
  xW P Γ o E (E.app ((d,iz (.agg (ps.map yL.tree)))::pWr d ps 0) ((d,0)::sL ps)):=by
 refine xW.value gj fun a w G gc=>?_
 obtain⟨G',gp⟩:=zVk gc gB hd;have gC:∀(us:List T),zAT us=iB→((us.map yL.zero).flatMap (sW G)).length=T.sizes us:=by grind[zF3,zBG]
 obtain⟨cs',h1,h2⟩:=zHj (pv:=sW G) place (pl.map fun x=>(x.1,a.eval x.2)) qs (zs.map yL.zero) z.cells (by rw[zF3,hzv]) (fun i p hp=>by
   rw[Jn]at hp;cases hu:zs[i]? with
   |none=>grind
   |some u=>
    simp[hu]at hp;subst hp;rw[fE i u hu,←Gx,gC _ (zOks_take zs i hz),sW,vH u (zOks_get zs hz i u hu)])
  (by grind[Function.comp_def]) (fun j v q hv hqj=>by
   rw[Jn]at hv;cases hx:pl[j]? with
   |none=>grind
   |some x=>
    simp[hx]at hv;subst hv;obtain⟨h3,h4,u,h5,h6⟩:=hq j x q hx hqj;refine⟨zBi gc gB h4 h3,.zero u,by simp[h5],?_⟩;rw[sW,vH u (zOks_get zs hz _ u h5),h6];cases bX:q.2 with
    |slot s t=>
     rw[bX]at h4;obtain⟨_,_,h7⟩:=gB.slot s t h4;exact(wX t [] (by rintro xs rfl;grind[T.okTup])).symm
    |zero u'=>
     rw[bX]at h4;exact(vH u' (gB.zero u' h4)).symm)
 rw[gI]at h2;have h3:cs'=(ps.flatMap (sW G)).toArray:=by rw[←h2]
 refine⟨_,w,?_,G',gp⟩;have gz:=run_build (P:=P) w t (pl.map fun x=>(x.1,a.eval x.2)).toArray cs' (by grind);simp only[List.map_toArray,execOp,ho,Sem.run_bind]at gz ⊢
 simp_all
where
 zOks_get:(xs:List T)→zAT xs=iB→ ∀(i:Nat)(x:T),xs[i]? =iz x→x.zOk=iB
  | [],_,_,_,h=>by simp at h
  |y::ys,hk,i,x,h=>by
   simp only[zAT,J3]at hk;cases i with
   |zero=>grind
   |succ i=>exact zOks_get ys hk.2 i x (by grind)
 zOks_take:(xs:List T)→ ∀i,zAT xs=iB→zAT (xs.take i)=iB
  | [],i,_=>by simp[zAT]
  |y::ys,0,_=>by simp[zAT]
  |y::ys,i+1,hk=>by
   simp only[zAT,J3,Ky]at hk ⊢
   exact⟨hk.1,zOks_take ys i hk.2⟩
end
end Go.Ab

namespace Go.Ab
open Go
mutual
def vS:T→T→Bool
 |.agg xs,.agg ys=>zAr xs ys
 |.agg _,_=>iC
 |.tup _,_=>iC
 |_,.agg _=>iC
 |_,.tup _=>iC
 |.any,_|.lit _,_|.ro _,_|.same _ _,_|.addr _ _,_|.sub _ _ _ _ _,_|.sl _ _,_|.ptr _,_=>iB
def zAr:List T→List T→Bool
 | [],[]=>iB
 |x::xs,y::ys=>vS x y&&zAr xs ys
 | [],_::_=>iC
 |_::_,[]=>iC
end
mutual
theorem zCR:(x y:T)→vS x y=iB→x.size=y.size
 |.agg xs,.agg ys,h=>by simp only[vS]at h;simp only[T.size];exact zEH xs ys h
 |.agg _,.any,h|.agg _,.lit _,h|.agg _,.ro _,h|.agg _,.same _ _,h|.agg _,.addr _ _,h|.agg _,.sub _ _ _ _ _,h|.agg _,.sl _ _,h|.agg _,.ptr _,h|.agg _,.tup _,h=>by grind[vS]
 |.tup _,_,h=>by grind[vS]
 |.any,y,h|.lit _,y,h|.ro _,y,h|.same _ _,y,h|.addr _ _,y,h|.sub _ _ _ _ _,y,h|.sl _ _,y,h|.ptr _,y,h=>by cases y<;>simp[vS]at h<;>simp[T.size]
theorem zEH:(xs ys:List T)→zAr xs ys=iB→T.sizes xs=T.sizes ys
 | [],[],_=>rfl
 |x::xs,y::ys,h=>by simp only[zAr,J3]at h;simp only[T.sizes,zCR x y h.1,zEH xs ys h.2]
 | [],_::_,h=>by grind[zAr]
 |_::_,[],h=>by grind[zAr]
end
section
variable {G:Gh}{w:World}{s:Nat}
mutual
theorem zJQ:(t:T)→ ∀(p:List Nat)(b o j:Nat),Loc G w s t p b o→j<t.size→ ∃y,G.lb b (o+j)=iz (iC,s,y++p)
 |.agg xs,p,b,o,j,h,hj=>by simp only[Loc,T.size]at h hj;exact zO7 xs p 0 b o j h.2 hj
 |.any,p,b,o,j,h,hj|.lit _,p,b,o,j,h,hj|.ro _,p,b,o,j,h,hj|.same _ _,p,b,o,j,h,hj|.addr _ _,p,b,o,j,h,hj|.sub _ _ _ _ _,p,b,o,j,h,hj|.sl _ _,p,b,o,j,h,hj|.ptr _,p,b,o,j,h,hj=>by
  simp only[Loc,T.size]at h hj
  simp_all
 |.tup _,_,_,_,_,h,_=>by simp only[Loc]at h
theorem zO7:(xs:List T)→ ∀(p:List Nat)(i b o j:Nat),vD G w s xs p i b o→j<T.sizes xs→ ∃y,G.lb b (o+j)=iz (iC,s,y++p)
 | [],_,_,_,_,_,_,hj=>by grind[T.sizes]
 |x::xs,p,i,b,o,j,h,hj=>by
  simp only[vD,T.sizes]at h hj
  by_cases gH:j<x.size
  ·obtain⟨y,hy⟩:=zJQ x (i::p) b o j h.1 gH
   exact⟨y++[i],by grind⟩
  ·obtain⟨y,hy⟩:=zO7 xs p (i+1) b (o+x.size) (j-x.size) h.2 (by omega)
   grind
end
mutual
theorem zRw{G':Gh}{w':World}:(u u0:T)→ ∀(p:List Nat)(b o:Nat),vS u u0=iB→(∀y,u.inT y.reverse=iB→G'.ad s (y++p)=G.ad s (y++p))→
  (∀b o y,G.lb b o=iz (iC,s,y++p)→G'.lb b o=iz (iC,s,y++p))→(∀j v,(vals G' s u p)[j]? =iz v→yJ w' b (o+j)=iz v)→Loc G w s u0 p b o→Loc G' w' s u p b o
 |.agg xs,.agg ys,p,b,o,h,ha,hl,hc,h0=>by
  simp only[Loc,vS]at h h0 ⊢
  refine⟨by have:=ha [] rfl;grind,zO8 xs ys p 0 b o h (fun i x hx y hy=>?_) (by omega) (by grind[vals]) h0.2⟩
  grind[Hb,T.inT]
 |.agg _,.any,_,_,_,h,_,_,_,_|.agg _,.lit _,_,_,_,h,_,_,_,_|.agg _,.ro _,_,_,_,h,_,_,_,_|.agg _,.same _ _,_,_,_,h,_,_,_,_|.agg _,.addr _ _,_,_,_,h,_,_,_,_|.agg _,.sub _ _ _ _ _,_,_,_,h,_,_,_,_|.agg _,.sl _ _,_,_,_,h,_,_,_,_|.agg _,.ptr _,_,_,_,h,_,_,_,_|.agg _,.tup _,_,_,_,h,_,_,_,_=>by grind[vS]
 |.tup _,_,_,_,_,h,_,_,_,_=>by grind[vS]
 |.any,u0,p,b,o,h,ha,hl,hc,h0|.lit _,u0,p,b,o,h,ha,hl,hc,h0|.ro _,u0,p,b,o,h,ha,hl,hc,h0|.same _ _,u0,p,b,o,h,ha,hl,hc,h0|.addr _ _,u0,p,b,o,h,ha,hl,hc,h0|.sub _ _ _ _ _,u0,p,b,o,h,ha,hl,hc,h0|.sl _ _,u0,p,b,o,h,ha,hl,hc,h0|.ptr _,u0,p,b,o,h,ha,hl,hc,h0=>by have h1:=wS (by cases u0<;>simp[vS]at h<;>rfl) h0;have h2:=ha [] rfl;rw[Ju]at h2;simp only[Loc];exact⟨h2.trans h1.1,by simp_all,by simpa using hc 0 (G'.hd s p) (by simp[vals])⟩
theorem zO8{G':Gh}{w':World}:(xs ys:List T)→ ∀(p:List Nat)(j b o:Nat),zAr xs ys=iB→(∀i x,xs[i]? =iz x→ ∀y,x.inT y.reverse=iB→G'.ad s (y++((j+i)::p))=G.ad s (y++((j+i)::p)))→
  (∀b o y,G.lb b o=iz (iC,s,y++p)→G'.lb b o=iz (iC,s,y++p))→(∀i v,(yF G' s xs p j)[i]? =iz v→yJ w' b (o+i)=iz v)→vD G w s ys p j b o→vD G' w' s xs p j b o
 | [],[],_,_,_,_,_,_,_,_,_=>by simp only[vD]
 |x::xs,y::ys,p,j,b,o,h,ha,hl,hc,h0=>by
  simp only[zAr,J3,vD]at h h0 ⊢
  have hs:=zCR x y h.1;have ee:∀zs,x≠.tup zs:=by rintro zs rfl;grind[vS]
  refine⟨zRw x y (j::p) b o h.1 (fun z hz=>by simpa using ha 0 x (by simp) z hz) (fun b o z hz=>by have:=hl b o (z++[j]) (by grind);grind) (fun i v hv=>hc i v ?_) h0.1,
   zO8 xs ys p (j+1) b (o+x.size) h.2 (fun i z hz=>by have:=ha (i+1) z (by grind);grind) hl (fun i v hv=>?_) (by grind)⟩
  ·grind[yF]
  ·have:=hc (x.size+i) v (by
    grind[yF,wX])
   grind
 | [],_::_,_,_,_,_,h,_,_,_,_=>by grind[zAr]
 |_::_,[],_,_,_,_,h,_,_,_,_=>by grind[zAr]
end
end
def zG4(p:yL)(q:List Nat)(s:Nat)(z:List Nat):Option (List Nat):=
 match p with
 |.slot s0 t=>if qA t&&s0==s then iz (z++q)else iA
 |.zero _=>iA
def sHd(G:Gh)(p:yL)(y:List Nat):Value:=
 match p with
 |.slot s _=>G.hd s y
 |.zero u=>kS (zhd u y.reverse)
def sWr(r:Nat)(q:List Nat):yL→Wr
 |.slot s t=>if qA t then[(s,iz (cpT r t q))]else[]
 |.zero _=>[]
def Gh.st(G:Gh)(r:Nat)(q:List Nat)(p:yL):Gh where
 hd s z:=if s=r∧q<:+z then sHd G p (z.take (z.length-q.length))else G.hd s z
 ad s z:=if s=r∧q<:+z∧p.tree.inT (z.take (z.length-q.length)).reverse=iC then(match p with
  |.slot s0 _=>G.ad s0 (z.take (z.length-q.length))
  |.zero _=>default)else G.ad s z
 lb b o:=match G.lb b o with
  |some (fl,s,z)=>(match zG4 p q s z with
   |some z'=>iz (fl,r,z')
   |none=>iz (fl,s,z))
  |none=>iA
 ow b:=match G.ow b with
  |some (s,z)=>(match zG4 p q s z with
   |some z'=>iz (r,z')
   |none=>iz (s,z))
  |none=>iA
mutual
theorem zKQ{Γ:Ctx}{G:Gh}{w:World}(hm:Mem Γ G w){s:Nat}:(t:T)→ ∀(p:List Nat)(v:Value),v∈vals G s t p→v.oneCell'=iB
 |.agg xs,p,v,h=>by simp only[vals]at h;exact zD6 hm xs p 0 v h
 |.any,p,v,h|.lit _,p,v,h|.ro _,p,v,h|.same _ _,p,v,h|.addr _ _,p,v,h|.sub _ _ _ _ _,p,v,h|.sl _ _,p,v,h|.ptr _,p,v,h|.tup _,p,v,h=>by simp only[vals,List.mem_singleton]at h;rw[h];exact hm.one s p
theorem zD6{Γ:Ctx}{G:Gh}{w:World}(hm:Mem Γ G w){s:Nat}:(xs:List T)→ ∀(p:List Nat)(j:Nat)(v:Value),v∈yF G s xs p j→v.oneCell'=iB
 | [],_,_,_,h=>by grind[yF]
 |x::xs,p,j,v,h=>by
  simp only[yF,Jw]at h;rcases h with h|h
  ·exact zKQ hm x _ v h
  ·exact zD6 hm xs p _ v h
end
mutual
theorem zF4:(u:T)→u.zOk=iB→ ∀v∈sE u,v.oneCell'=iB
 |.lit v,h,x,hx=>by simp only[sE,List.mem_singleton]at hx;rw[hx];exact h
 |.sl _ _,_,x,hx=>by simp only[sE,List.mem_singleton]at hx;rw[hx];rfl
 |.agg xs,h,x,hx=>by simp only[T.zOk]at h;simp only[sE]at hx;exact zHk xs h x hx
 |.any,h,_,_|.ro _,h,_,_|.same _ _,h,_,_|.addr _ _,h,_,_|.sub _ _ _ _ _,h,_,_|.ptr _,h,_,_|.tup _,h,_,_=>by grind[T.zOk]
theorem zHk:(xs:List T)→zAT xs=iB→ ∀v∈qB xs,v.oneCell'=iB
 | [],_,_,h=>by grind[qB]
 |x::xs,h,v,hv=>by
  simp only[zAT,J3]at h;simp only[qB,Jw]at hv;rcases hv with hv|hv
  ·exact zF4 x h.1 v hv
  ·exact zHk xs h.2 v hv
end
theorem zKR(y q:List Nat):(y++q).take ((y++q).length-q.length)=y:=by simp
theorem zMR{Γ:Ctx}{G G':Gh}{w':World}{s d:Nat}{q:List Nat}{t:T}{v:Option Value}(hv:v=iz (mkV G s t []))(ee:∀xs,t≠.tup xs)(hs:∀p,G'.hd s p=G.hd s p)(pW:∀z,G'.hd d (z++q)=G.hd s z)
  (hr:R Γ.St G' w' d t q):Ent Γ G' w' v s (cpT d t q):=by
 have hz:∀z,G'.hd s (z++[])=G'.hd d (z++q):=by grind
 refine⟨?_,?_,qL d t q⟩
 ·rw[hv,zBh (G:=G') (G':=G') t q [] ee hz,zAy G s t [] ee,zCn t [] q (fun z=>by rw[pW,J9])]
 ·exact zEh (G:=G') (G':=G') (fun _=>rfl) t q [] hz ee (yN.triv (fun _ _=>⟨rfl,rfl⟩) _) hr
section
variable {P:Program}{Γ:Ctx}{E:Env}{o:Oper}
theorem kU:(f:List Nat)→ ∀(t u:T),zW t→zW u→zW (t.set f u)
 | [],t,u,_,hu=>by grind[T.set]
 |i::f,t,u,ht,hu=>by
  cases t with
  |sl k xs=>
   simp only[T.set];split
   ·rename_i x hx
    simp only[zW,yN]at ht ⊢
    exact sets_clean xs i _ ht (kU f x u (uK xs ht i x hx) hu)
   ·exact ht
  |agg xs=>
   simp only[T.set];split
   ·rename_i x hx
    simp only[zW,yN]at ht ⊢
    exact sets_clean xs i _ ht (kU f x u (uK xs ht i x hx) hu)
   ·exact ht
  |tup xs=>
   simp only[T.set];split
   ·rename_i x hx
    simp only[zW,yN]at ht ⊢
    exact sets_clean xs i _ ht (kU f x u (uK xs ht i x hx) hu)
   ·exact ht
  |ptr t=>
   simp only[T.set];split
   ·simp only[zW,yN]at ht ⊢
    exact kU f t u ht hu
   ·exact ht
  |_=>grind[T.set]
where sets_clean:(xs:List T)→ ∀(i:Nat)(y:T),yU xs→zW y→yU (xs.set i y)
 | [],_,_,_,_=>by grind
 |x::xs,0,y,h,hy=>by simp only[Ll,yU,xH]at h ⊢;grind
 |x::xs,i+1,y,h,hy=>by simp only[Kt,yU,xH]at h ⊢;exact⟨h.1,sets_clean xs i y h.2 hy⟩
theorem zIS(T':TypeId)(ti:TypeInfo)(x y:Operand)(r:Nat)(q:List Nat)(tr u0:T)(p:yL)(ho:o.op=.store T' x y)(gj:o.dst=iA)
  (hi:P.info? T'=iz ti)(gC:ti.size=p.tree.size)(cD:0<ti.size)(hx:zCB Γ E x r q)(hr:E r=iz tr)(aF:tr.single=iB)(hg:tr.get q.reverse=iz u0)(hl:tr.locd q.reverse=iB)
  (fd:vS p.tree u0=iB)(hy:zAC E y p)(gI:tP E r [p]):
  xW P Γ o E (E.app ((r,iz (tr.set q.reverse p.tree))::sWr r q p) ((r,q.length)::sL [p])):=by
 refine xW.skip gj fun a w G gc=>?_
 have hm:=gc.mem;have mM:=hx a w G gc;obtain⟨e3,e4,e5⟩:=gc.ent r _ hr;have be:q≠[]:=by rintro rfl;simp[T.locd]at hl
 obtain⟨i0,f0,dF⟩:∃i f,q.reverse=i::f:=by
  cases h:q.reverse with
  |nil=>exact absurd (by simpa using h) be
  |cons i f=>exact⟨i,f,rfl⟩
 have bK:∀v:T,(tr.set q.reverse v).single=iB∧zW tr:=by
  intro v;rw[dF]at hg ⊢
  cases tr with
  |sl k xs=>exact⟨by simp only[T.set];split<;>rfl,by simpa only[Top,zW,yN]using e5⟩
  |ptr t=>exact⟨by simp only[T.set];split<;>rfl,by simpa only[Top,zW,yN]using e5⟩
  |agg xs=>simp[T.single]at aF
  |tup xs=>simp[T.single]at aF
  |_=>simp[T.get]at hg
 obtain⟨b,ob,cs,et,pq,gO,uq⟩:=(zAL q.reverse tr u0 [] e4 hg).2 hl;simp only[rp,K0,J9]at pq;have hru0:=(zAL q.reverse tr u0 [] e4 hg).1;have eW:=zCo pq;have bO:=zCR _ _ fd;have hc:=zBi gc gI (by simp) hy;have pe:(a.eval y).cells.size=p.tree.size:=by
  rw[←Ka,hc];cases p with
  |slot s t=>obtain⟨_,_,h3⟩:=gI.slot s t (by simp);exact wX t [] (by rintro xs rfl;simp[T.okTup]at h3)
  |zero u=>exact vH u (gI.zero u (by simp))
 have gn:∀v∈(a.eval y).cells.toList,v.oneCell'=iB:=by
  rw[hc];intro v hv;cases p with
  |slot s t=>exact zKQ hm t [] v hv
  |zero u=>exact zF4 u (gI.zero u (by simp)) v hv
 generalize hw':w.setRow b (cs.toList.take ob++(a.eval y).cells.toList++cs.toList.drop (ob+(a.eval y).cells.toList.length)).toArray=w'
 have ey:w'.heap[b]? =iz (.cells (cs.toList.take ob++(a.eval y).cells.toList++cs.toList.drop (ob+(a.eval y).cells.toList.length)).toArray et (0,0)):=by rw[←hw'];exact setRow_heap w b cs _ et _ gO
 have gJ:∀b',b'≠b→w'.heap[b']? =w.heap[b']?:=fun b' h=>by rw[←hw'];exact setRow_other w b b' _ h
 have gQ:w'.heap.size=w.heap.size:=by rw[←hw'];exact size_setRow w b _
 have gD:(a.eval y).cells.toList.length=u0.size:=by rw[Ka,pe,bO]
 have eL:∀k,yJ w' b k=if ob≤k∧k<ob+u0.size then(sW G p)[k-ob]? else yJ w b k:=by
  intro k;simp only[yJ,World.cell?,ey,gO,Ur,H2,if_false];rw[←hc,←gD]at*
  rw[←Ki,←Ki (xs:=cs)];simp only[];have gR:cs.toList.length=cs.size:=Ka ..
  generalize (a.eval y).cells.toList=V at*
  by_cases h1:k<ob
  ·rw[if_neg (by omega),Jh,K5 (by simp;omega),G6 h1]
  ·by_cases h2:k<ob+V.length
   ·rw[if_pos ⟨by omega,h2⟩,Jh,Jb (by simp;omega),K5 (by simp;omega)]
    congr 1;simp;omega
   ·rw[if_neg (by omega),Jh,Jb (by simp;omega),Jb (by simp;omega),Lh]
    congr 1;simp;omega
 have fJ:∀b' o' fl s z,G.lb b' o'=iz (fl,s,z)→ ¬(s=r∧q<:+z)→yJ w' b' o'=yJ w b' o':=by
  intro b' o' fl s z h1 h2
  by_cases hb:b'=b
  ·subst hb
   rw[eL];split
   ·rename_i h3
    obtain⟨y',h4⟩:=zJQ u0 q b' ob (o'-ob) pq (by omega);rw[show ob+(o'-ob)=o' from by omega,h1]at h4;simp at h4;exact absurd ⟨h4.2.1,y',h4.2.2.symm⟩ h2
   ·rfl
  ·simp[yJ,World.cell?,gJ b' hb]
 have eA:Blk w w':=by
  intro b' cs' e' h1
  by_cases hb:b'=b
  ·subst hb
   rw[gO]at h1;simp at h1;obtain⟨rfl,rfl⟩:=h1;exact⟨_,ey,by simp;have:cs.toList.length=cs.size:=Ka ..;omega⟩
  ·exact⟨cs',by rw[gJ b' hb];exact h1,rfl⟩
 generalize gp:G.st r q p=G'
 have ghd:∀y',G'.hd r (y'++q)=sHd G p y':=fun y'=>by rw[←gp];simp[Gh.st]
 have ghd':∀s z,¬(s=r∧q<:+z)→G'.hd s z=G.hd s z:=fun s z h=>by rw[←gp];simp only[Gh.st];rw[if_neg h]
 have gad:∀s z,¬(s=r∧q<:+z)→G'.ad s z=G.ad s z:=fun s z h=>by rw[←gp];simp only[Gh.st];rw[if_neg (fun h2=>h ⟨h2.1,h2.2.1⟩)]
 have gadf:∀y',p.tree.inT y'.reverse=iB→G'.ad r (y'++q)=G.ad r (y'++q):=fun y' h=>by rw[←gp];simp only[Gh.st,zKR];rw[if_neg (by simp[h])]
 have gadm:∀s0 t y',p=.slot s0 t→t.inT y'.reverse=iC→G'.ad r (y'++q)=G.ad s0 y':=fun s0 t y' h1 h2=>by subst h1;rw[←gp];simp only[Gh.st,zKR,yL.tree];rw[if_pos];simp[h2]
 have glb:∀b' o' fl s z,G.lb b' o'=iz (fl,s,z)→zG4 p q s z=iA→G'.lb b' o'=iz (fl,s,z):=fun b' o' fl s z h1 h2=>by rw[←gp];simp[Gh.st,h1,h2]
 have glbm:∀b' o' fl s z z',G.lb b' o'=iz (fl,s,z)→zG4 p q s z=iz z'→G'.lb b' o'=iz (fl,r,z'):=fun b' o' fl s z z' h1 h2=>by rw[←gp];simp[Gh.st,h1,h2]
 have gow:∀b' s z,G.ow b'=iz (s,z)→zG4 p q s z=iA→G'.ow b'=iz (s,z):=fun b' s z h1 h2=>by rw[←gp];simp[Gh.st,h1,h2]
 have gowm:∀b' s z z',G.ow b'=iz (s,z)→zG4 p q s z=iz z'→G'.ow b'=iz (r,z'):=fun b' s z z' h1 h2=>by rw[←gp];simp[Gh.st,h1,h2]
 have ta:∀s z,(∀n,(s,n)∉(r,q.length)::sL [p])→zG4 p q s z=iA:=by
  intro s z h;cases p with
  |zero u=>rfl
  |slot s0 t=>
   simp only[zG4];rw[if_neg];intro h2;simp only[J3,beq_iff_eq]at h2;obtain⟨h3,rfl⟩:=h2;exact h 1 (by simp[sL,xI,h3])
 have cE:∀z,zG4 p q r z=iA:=by
  intro z;cases p with
  |zero u=>rfl
  |slot s0 t=>
   simp only[zG4];rw[if_neg];intro h2;simp only[J3,beq_iff_eq]at h2;obtain⟨h3,rfl⟩:=h2;have:=(Kr.1 gI.dist).1;simp[xI,h3]at this
 have pT:∀s z,Off ((r,q.length)::sL [p]) s z→ ¬(s=r∧q<:+z):=by
  rintro s z h ⟨rfl,h2⟩
  have:=h q.length (by simp);have:=h2.length_le;omega
 have gx:jS ((r,q.length)::sL [p]) G w G' w':=by
  refine⟨fun s z h=>ghd' s z (pT s z h),fun s z h=>gad s z (pT s z h),fun b' o' fl s z _ h1 h2=>⟨glb b' o' fl s z h1 (ta s z h2),fJ b' o' fl s z h1 ?_⟩,fun b' s z h1 h2=>gow b' s z h1 (ta s z h2),eA⟩
  rintro⟨rfl,_⟩
  exact h2 q.length (by simp)
 have bt:zCL Γ w b:=by obtain⟨y',h4⟩:=zJQ u0 q b ob 0 pq (by omega);exact hm.lb _ _ _ h4
 have gu:Mem Γ G' w':=by
  refine⟨fun s z=>?_,fun b' o' l hl=>?_,fun b' l hl=>?_,fun b' x' ew=>?_,fun b' h1 h2=>?_,by rw[gQ];exact hm.sz,hm.bk.trans eA (by rw[←hw'];rfl) (by rw[←hw'];rfl)⟩
  ·by_cases h:s=r∧q<:+z
   ·obtain⟨rfl,y',rfl⟩:=h
    rw[ghd];unfold sHd;split
    ·exact hm.one _ _
    ·exact zBN _
   ·rw[ghd' s z h];exact hm.one s z
  ·have:∃l',G.lb b' o'=iz l':=by
    rw[←gp]at hl;simp only[Gh.st]at hl;split at hl
    ·exact⟨_,by assumption⟩
    ·cases hl
   obtain⟨l',my⟩:=this;have:=hm.lb b' o' l' my;exact⟨by rw[gQ];exact this.1,this.2⟩
  ·have:∃l',G.ow b'=iz l':=by
    rw[←gp]at hl;simp only[Gh.st]at hl;split at hl
    ·exact⟨_,by assumption⟩
    ·cases hl
   obtain⟨l',my⟩:=this;have:=hm.ow b' l' my;exact⟨by rw[gQ];exact this.1,this.2⟩
  ·have hb:b'≠b:=by rintro rfl;rw[bt.2.2]at ew;cases ew
   rw[gJ b' hb];exact hm.st b' x' ew
  ·have hb:b'≠b:=by
    rintro rfl
    rcases bt.2.1 with h3|h3
    ·omega
    ·exact h2 h3
   rw[gJ b' hb];exact hm.fr b' h1 h2
 have de:Upd G w G' w' r q:=by refine⟨fun z h=>ghd' r z (fun h2=>h h2.2),fun z h=>gad r z (fun h2=>h h2.2),fun b' o' fl z h1 h=>⟨glb b' o' fl r z h1 (cE z),fJ b' o' fl r z h1 (fun h2=>h h2.2)⟩,fun b' z h1 _=>gow b' r z h1 (cE z),eA⟩
 have ba:R Γ.St G' w' r p.tree q:=by
  cases hp:p with
  |zero u=>
   refine zJO u q (gI.zero u (by simp[hp])) (fun z=>by rw[ghd];simp[sHd,hp])
  |slot s0 t=>
   obtain⟨h1,h2,h3⟩:=gI.slot s0 t (by simp[hp]);have eU:=(gc.ent s0 t h1).2.1
   by_cases cR:qA t=iB
   ·have dn:s0≠r:=by
     rintro rfl
     have:=(Kr.1 gI.dist).1;simp[hp,xI,cR]at this
    refine zKN t [] q h3 ⟨fun z=>by rw[ghd,J9];simp[sHd,hp],fun z hz=>by rw[J9];exact gadm s0 t z hp hz,fun b' o' fl z _ h4=>?_,fun b' z h4=>?_,eA⟩ (yN.mono (fun _ _=>False.elim) t h2) eU
    ·rw[J9]at h4
     exact⟨glbm b' o' fl s0 z _ h4 (by simp[zG4,hp,cR]),fJ b' o' fl s0 z h4 (fun h5=>dn h5.1)⟩
    ·rw[J9]at h4
     exact gowm b' s0 z _ h4 (by simp[zG4,hp,cR])
   ·have hh:G'.hd r q=G.hd s0 []:=by have:=ghd [];rw[Ju]at this;rw[this];simp[sHd,hp]
    cases t<;>simp[qA]at cR<;>simp only[R,yL.tree]at eU ⊢ <;>rw[hh]<;>exact eU
 have ct:vals G' r p.tree q=sW G p:=by
  cases hp:p with
  |zero u=>exact zF2 u q (gI.zero u (by simp[hp])) (fun z=>by rw[ghd];simp[sHd,hp])
  |slot s0 t=>exact zB3 t [] q (fun z=>by rw[ghd];simp[sHd,hp])
 have tp:∀b' o',Loc G w r u0 q b' o'→Loc G' w' r p.tree q b' o':=by
  intro b' o' h1;have h2:b'=b∧o'=ob:=by have:=(zCo h1).symm.trans eW;simp at this;exact this
  obtain⟨rfl,rfl⟩:=h2;refine zRw p.tree u0 q b' o' fd (fun y' h=>gadf y' h) (fun b2 o2 y' h=>glb b2 o2 iC r _ h (cE _)) (fun j v hv=>?_) h1;rw[ct]at hv;have hj:=(Je.1 hv).1;have fE:(sW G p).length=u0.size:=by rw[←hc,gD]
  rw[eL,if_pos ⟨by omega,by omega⟩,show o'+j-o'=j from by omega];exact hv
 have bR:R Γ.St G' w' r (tr.set q.reverse p.tree) []:=by
  have fW:rp q.reverse []=q:=by simp[rp]
  refine zGg q.reverse tr p.tree u0 [] (by rw[fW];exact de) e4 hg bO (yN.mono (fun _ _=>False.elim) tr (bK .any).2) (by rw[fW];exact tp) (by rw[fW];exact ba)
 have gN:=run_storeCells_at P b ob et (a.eval y).cells.toList 0 cs w gO (by omega) gn;simp only[Qm]at gN;rw[hw']at gN;refine⟨w',?_,G',vJ gc rfl gx gu ?_ ?_⟩
 ·have dh:(a.eval y).cells.size=ti.size:=by rw[pe,gC]
  simp[execOp,ho,mM,eW,Instr.storeAt,tY,storeVar,sizeOf,typeInfo,hi,dh,gN]
 ·intro s hs
  simp only[Wr.find]at hs;split at hs
  ·cases hs
  ·rename_i gf
   refine⟨fun n hn=>?_,rfl⟩;simp only[Jp,Uq.injEq]at hn;rcases hn with⟨h1,_⟩|hn
   ·exact gf h1.symm
   ·cases p with
    |zero u=>simp[sL,xI]at hn
    |slot s0 t=>
     by_cases cR:qA t=iB
     ·simp[sL,xI,cR]at hn
      simp[sWr,cR,Wr.find,hn.1.symm]at hs
     ·simp[sL,xI,cR]at hn
 ·intro s t hs
  simp only[Wr.find]at hs;split at hs
  ·rename_i he
   subst he;simp at hs;subst hs;refine⟨?_,bR,Top.of_clean _ (kU _ _ _ (bK .any).2 ?_)⟩
   ·rw[e3,xJ (bK p.tree).1,xJ aF]
    congr 1
    exact(ghd' r [] (fun h=>be (by simpa using h.2))).symm
   ·cases p with
    |zero u=>exact(zBO u (gI.zero u (by simp))).1
    |slot s0 t=>exact(gI.slot s0 t (by simp)).2.1
  ·rename_i gf
   cases hp:p with
   |zero u=>simp[sWr,hp,Wr.find]at hs
   |slot s0 t0=>
    by_cases cR:qA t0=iB
    ·simp only[sWr,hp,cR,if_true,Wr.find]at hs
     split at hs
     ·rename_i he
      subst he;simp at hs;subst hs;obtain⟨h1,h2,h3⟩:=gI.slot s0 t0 (by simp[hp]);refine zMR (G:=G) (gc.ent s0 t0 h1).1 (by rintro xs rfl;simp[T.okTup]at h3) (fun z=>ghd' s0 z (fun h=>gf h.1.symm)) (fun z=>by rw[ghd];simp[sHd,hp]) (by rw[hp]at ba;exact ba)
     ·cases hs
    ·simp[sWr,hp,cR,Wr.find]at hs
theorem zRx(T':TypeId)(ti:TypeInfo)(x y:Operand)(r:Nat)(q:List Nat)(tr u0:T)(p:yL)(ho:o.op=.store T' x y)(gj:o.dst=iA)
  (hi:P.info? T'=iz ti)(gC:ti.size=p.tree.size)(cD:0<ti.size)(hx:opT E x=iz (.addr r q))(hr:E r=iz tr)(aF:tr.single=iB)(hg:tr.get q.reverse=iz u0)(hl:tr.locd q.reverse=iB)
  (fd:vS p.tree u0=iB)(hy:zAC E y p)(gI:tP E r [p]):
  xW P Γ o E (E.app ((r,iz (tr.set q.reverse p.tree))::sWr r q p) ((r,q.length)::sL [p])):=
 by grind[zIS,zCB.addr]
end
end Go.Ab

namespace Go.Ab
open Go
section
variable {G G':Gh}{s:Nat}
theorem zMS(xs:List T):∀(p:List Nat)(j:Nat),(∀k,j≤k→ ∀z,G'.hd s (z++(k::p))=G.hd s (z++(k::p)))→yF G' s xs p j=yF G s xs p j:=by
 induction xs with
 |nil=>grind[yF]
 |cons z zs ih=>
  intro p j h;simp only[yF];rw[zB3 z (j::p) (j::p) (h j (Jf _)),ih p (j+1) (by grind)]
theorem zPT(xs:List T):∀(p:List Nat)(j i:Nat)(x y:T),xs[i]? =iz x→(∀k,k≠j+i→ ∀z,G'.hd s (z++(k::p))=G.hd s (z++(k::p)))→
  vals G' s y ((j+i)::p)=vals G s x ((j+i)::p)→yF G' s (xs.set i y) p j=yF G s xs p j:=by
 induction xs with
 |nil=>simp
 |cons z zs ih=>
  intro p j i x y h hz hy;cases i with
  |zero=>
   grind[yF,zMS]
  |succ i=>
   simp only[Kt,yF];rw[zB3 z (j::p) (j::p) (hz j (by omega)),ih p (j+1) i x y (by grind) (by grind) (by grind)]
theorem zKS:(f:List Nat)→ ∀(t u u0:T)(p:List Nat),t.get f=iz u0→u0.single=iB→u.single=iB→(∀z,(rp f p<:+z→z=rp f p)→G'.hd s z=G.hd s z)→vals G' s (t.set f u) p=vals G s t p
 | [],t,u,u0,p,hg,h0,h1,hh=>by simp[T.get]at hg;subst hg;have:G'.hd s p=G.hd s p:=hh p (by simp[rp]);simp only[T.set];cases t<;>simp[T.single]at h0<;>cases u<;>simp[T.single]at h1<;>simp[vals,this]
 |i::f,t,u,u0,p,hg,h0,h1,hh=>by
  rw[zB2]at hh;have hp:G'.hd s p=G.hd s p:=by grind[zAq]
  cases t with
  |agg xs=>
   simp only[T.get]at hg;cases hx:xs[i]? with
   |none=>grind
   |some x=>
    rw[hx]at hg;simp only[T.set,hx,vals];refine zPT xs p 0 i x _ hx (by grind[kO]) ?_;rw[J8];exact zKS f x u u0 (i::p) hg h0 h1 hh
  |tup xs=>
   grind[T.set,vals]
  |sl k xs=>grind[T.set,vals]
  |ptr t=>grind[T.set,vals]
  |_=>grind[T.get]
theorem zKT(f:List Nat)(t u u0:T)(p:List Nat)(hg:t.get f=iz u0)(h0:u0.single=iB)(h1:u.single=iB)(hh:∀z,(rp f p<:+z→z=rp f p)→G'.hd s z=G.hd s z)(ee:∀xs,t≠.tup xs):
  sK G' s (t.set f u) p=sK G s t p:=by
 have h:=zKS f t u u0 p hg h0 h1 hh;cases f with
 |nil=>
  simp[T.get]at hg;subst hg;have:G'.hd s p=G.hd s p:=hh p (by simp[rp]);simp only[T.set];cases t<;>simp[T.single]at h0<;>cases u<;>simp[T.single]at h1<;>simp[sK,this]
 |cons i f=>
  rw[zB2]at hh;have hp:G'.hd s p=G.hd s p:=by grind[zAq]
  cases t with
  |agg xs=>
   grind[T.set,vals,sK]
  |tup xs=>grind
  |sl k xs=>grind[T.set,sK]
  |ptr t=>grind[T.set,sK]
  |_=>grind[T.get]
theorem zPU(xs:List T):∀(p:List Nat)(j:Nat),(∀k,j≤k→ ∀z,G'.hd s (z++(k::p))=G.hd s (z++(k::p)))→zAx G' s xs p j=zAx G s xs p j:=by
 induction xs with
 |nil=>grind[zAx]
 |cons z zs ih=>
  intro p j h;simp only[zAx];rw[zCn z (j::p) (j::p) (h j (Jf _)),ih p (j+1) (by grind)]
theorem zRy(xs:List T):∀(p:List Nat)(j i:Nat)(x y:T),xs[i]? =iz x→(∀k,k≠j+i→ ∀z,G'.hd s (z++(k::p))=G.hd s (z++(k::p)))→
  sK G' s y ((j+i)::p)=sK G s x ((j+i)::p)→zAx G' s (xs.set i y) p j=zAx G s xs p j:=by
 induction xs with
 |nil=>simp
 |cons z zs ih=>
  intro p j i x y h hz hy;cases i with
  |zero=>
   grind[zAx,zPU]
  |succ i=>
   simp only[Kt,zAx];rw[zCn z (j::p) (j::p) (hz j (by omega)),ih p (j+1) i x y (by grind) (by grind) (by grind)]
def wC:T→Bool
 |.tup xs=>xs.all fun x=>match x with
  |.tup _=>iC
  |_=>iB
 |_=>iB
theorem zJR(f:List Nat)(t u u0:T)(p:List Nat)(hg:t.get f=iz u0)(h0:u0.single=iB)(h1:u.single=iB)(hh:∀z,(rp f p<:+z→z=rp f p)→G'.hd s z=G.hd s z)(pY:wC t=iB):
  mkV G' s (t.set f u) p=mkV G s t p:=by
 by_cases ht:∃xs,t=.tup xs
 ·obtain⟨xs,rfl⟩:=ht
  cases f with
  |nil=>grind[T.get,T.single]
  |cons i f=>
   rw[zB2]at hh;simp only[T.get]at hg;cases hx:xs[i]? with
   |none=>grind
   |some x=>
    rw[hx]at hg;simp only[T.set,hx,mkV];rw[zRy xs p 0 i x _ hx (fun k hk z=>hh _ (fun h=>absurd h (kO (by omega) z)))];rw[J8];refine zKT f x u u0 (i::p) hg h0 h1 hh ?_
    rintro ys rfl
    simp only[wC]at pY;have:=K4.1 pY _ (Ld hx)
    grind
 ·have ee:∀xs,t≠.tup xs:=by grind
  rw[zAy G s t p ee,←zKT f t u u0 p hg h0 h1 hh ee];refine zAy G' s _ p ?_
  rintro xs eY
  cases f with
  |nil=>grind[T.set,T.single]
  |cons i f=>cases t<;>simp only[T.set]at eY<;>first|grind|grind|cases eY
end
theorem zEI:(f:List Nat)→ ∀(t u:T),Top t→zW u→Top (t.set f u)
 | [],t,u,_,hu=>by grind[T.set,Top.of_clean]
 |i::f,t,u,ht,hu=>by
  cases t with
  |sl k xs=>
   refine Top.of_clean _ (kU (i::f) _ u (by simpa only[Top,zW,yN]using ht) hu)
  |ptr t=>exact Top.of_clean _ (kU (i::f) _ u (by simpa only[Top,zW,yN]using ht) hu)
  |agg xs=>
   simp only[T.set];split
   ·rename_i x hx
    simp only[Top]at ht ⊢
    exact tops_set xs i _ ht (zEI f x u (tops_get xs ht i x hx) hu)
   ·exact ht
  |tup xs=>
   simp only[T.set];split
   ·rename_i x hx
    simp only[Top]at ht ⊢
    exact tops_set xs i _ ht (zEI f x u (tops_get xs ht i x hx) hu)
   ·exact ht
  |_=>grind[T.set]
where
 tops_set:(xs:List T)→ ∀(i:Nat)(y:T),uI xs→Top y→uI (xs.set i y)
  | [],_,_,_,_=>by simp[uI]
  |x::xs,0,y,h,hy=>by simp only[Ll,uI]at h ⊢;grind
  |x::xs,i+1,y,h,hy=>by simp only[Kt,uI]at h ⊢;exact⟨h.1,tops_set xs i y h.2 hy⟩
 tops_get:(xs:List T)→uI xs→ ∀(i:Nat)(x:T),xs[i]? =iz x→Top x
  | [],_,_,_,h=>by simp at h
  |y::ys,hk,i,x,h=>by
   simp only[uI]at hk;cases i with
   |zero=>grind
   |succ i=>exact tops_get ys hk.2 i x (by grind)
def Gh.tr(G:Gh)(d:Nat)(g:List Nat)(r:Nat)(p:List Nat):Gh where
 hd s z:=if s=d∧g<:+z then G.hd r (z.take (z.length-g.length)++p)else G.hd s z
 ad s z:=if s=d∧g<:+z∧z≠g then G.ad r (z.take (z.length-g.length)++p)else G.ad s z
 lb b o:=match G.lb b o with
  |some (fl,s,z)=>if s=r∧p<:+z∧(fl=iB∨z≠p)then iz (fl,d,z.take (z.length-p.length)++g)else iz (fl,s,z)
  |none=>iA
 ow b:=match G.ow b with
  |some (s,z)=>if s=r∧p<:+z then iz (d,z.take (z.length-p.length)++g)else iz (s,z)
  |none=>iA
theorem zGk{t:T}(h:t.single=iB):t.size=1:=by cases t<;>simp[T.single]at h<;>simp[T.size]
theorem zHl{Γ:Ctx}{E:Env}{G:Gh}{tmps:Array Value}{w:World}(gc:Rep Γ E G tmps w)(d:Nat)(g:List Nat)(r:Nat)(p:List Nat)(td tr u v0:T)(hd:E d=iz td)(hg:td.get g.reverse=iz v0)(bH:v0.single=iB)(eg:G.hd d g=G.hd r p)(hr:E r=iz tr)
  (hp:tr.get p.reverse=iz u)(hu:u.single=iB)(eZ:zW u)(gY:d≠r)(mq:td.okB [(d,g.length+1),(r,p.length+1)]=iB)(pk:tr.okB [(d,g.length+1),(r,p.length+1)]=iB)(fK:wC td=iB)(fm:wC tr=iB):
  Rep Γ (E.app [(d,iz (td.set g.reverse u)),(r,iz (if p=[]then .same d g else tr.set p.reverse .any))] [(d,g.length+1),(r,p.length+1)]) (G.tr d g r p) tmps w∧ ∀s z,¬(s=d∧g<:+z∧z≠g)→(G.tr d g r p).hd s z=G.hd s z:=by
 obtain⟨d1,d2,d3⟩:=gc.ent d td hd;obtain⟨r1,r2,r3⟩:=gc.ent r tr hr;have hm:=gc.mem;have ba:=(zAL p.reverse tr u [] r2 hp).1;simp only[rp,K0,J9]at ba;have gO:Blk w w:=fun b cs e' h=>⟨cs,h,rfl⟩
 generalize gp:G.tr d g r p=G'
 have ghd:∀z,G'.hd d (z++g)=G.hd r (z++p):=fun z=>by rw[←gp];simp[Gh.tr]
 have ghd0:∀s z,¬(s=d∧g<:+z∧z≠g)→G'.hd s z=G.hd s z:=by
  intro s z h;rw[←gp];simp only[Gh.tr]
  by_cases h2:s=d∧g<:+z
  ·have h3:z=g:=by
    rcases Decidable.em (z=g)with e|e
    ·exact e
    ·exact absurd ⟨h2.1,h2.2,e⟩ h
   subst h3;rw[if_pos h2,h2.1];simpa using eg.symm
  ·rw[if_neg h2]
 have gad0:∀s z,¬(s=d∧g<:+z∧z≠g)→G'.ad s z=G.ad s z:=fun s z h=>by rw[←gp];simp only[Gh.tr];rw[if_neg h]
 have gad:∀z,z≠[]→G'.ad d (z++g)=G.ad r (z++p):=fun z h=>by rw[←gp];simp only[Gh.tr];rw[if_pos (by simpa using h)];simp
 have glb0:∀b o fl s z,G.lb b o=iz (fl,s,z)→ ¬(s=r∧p<:+z∧(fl=iB∨z≠p))→G'.lb b o=iz (fl,s,z):=fun b o fl s z h1 h2=>by rw[←gp];simp only[Gh.tr,h1];rw[if_neg h2]
 have glb:∀b o fl z,G.lb b o=iz (fl,r,z++p)→(fl=iB∨z≠[])→G'.lb b o=iz (fl,d,z++g):=fun b o fl z h1 h2=>by rw[←gp];simp only[Gh.tr,h1];rw[if_pos (by simpa using h2)];simp
 have gow0:∀b s z,G.ow b=iz (s,z)→ ¬(s=r∧p<:+z)→G'.ow b=iz (s,z):=fun b s z h1 h2=>by rw[←gp];simp only[Gh.tr,h1];rw[if_neg h2]
 have gow:∀b z,G.ow b=iz (r,z++p)→G'.ow b=iz (d,z++g):=fun b z h1=>by rw[←gp];simp only[Gh.tr,h1];rw[if_pos (by simp)];simp
 have gG:∀s z,Off [(d,g.length+1),(r,p.length+1)] s z→ ¬(s=d∧g<:+z∧z≠g):=by
  rintro s z h ⟨rfl,⟨y,rfl⟩,h3⟩
  have:=h (g.length+1) (by simp);have:y=[]:=Jy (by simp at this;omega);exact h3 (by simp[this])
 have gx:jS [(d,g.length+1),(r,p.length+1)] G w G' w:=by
  refine⟨fun s z h=>ghd0 s z (gG s z h),fun s z h=>gad0 s z (gG s z h),fun b o fl s z _ h1 h2=>⟨glb0 b o fl s z h1 ?_,rfl⟩,fun b s z h1 h2=>gow0 b s z h1 ?_,gO⟩
  ·rintro⟨rfl,_⟩;exact h2 (p.length+1) (by simp)
  ·rintro⟨rfl,_⟩;exact h2 (p.length+1) (by simp)
 have gu:Mem Γ G' w:=by
  refine⟨fun s z=>?_,fun b o l hl=>?_,fun b l hl=>?_,hm.st,hm.fr,hm.sz,hm.bk⟩
  ·rw[←gp]
   simp only[Gh.tr];split
   ·exact hm.one _ _
   ·exact hm.one _ _
  ·have:∃l',G.lb b o=iz l':=by
    rw[←gp]at hl;simp only[Gh.tr]at hl;split at hl
    ·exact⟨_,by assumption⟩
    ·cases hl
   obtain⟨l',my⟩:=this;exact hm.lb b o l' my
  ·have:∃l',G.ow b=iz l':=by
    rw[←gp]at hl;simp only[Gh.tr]at hl;split at hl
    ·exact⟨_,by assumption⟩
    ·cases hl
   obtain⟨l',my⟩:=this;exact hm.ow b l' my
 have fW:∀q:List Nat,rp q.reverse []=q:=fun q=>by simp[rp]
 have hud:R Γ.St G' w d u g:=by
  refine zAQ (G:=G) (w:=w) (s:=r) (p:=p) ⟨⟨ghd,gad,fun b o f z hz _ hl=>⟨glb b o f z hl (.inr hz),rfl⟩,fun b z _ hl=>gow b z hl,gO⟩,fun b o _ hl=>⟨by simpa using glb b o iB [] (by simpa using hl) (.inl rfl),rfl⟩,fun b hl=>by simpa using gow b [] (by simpa using hl)⟩ u
   (yN.mono (fun _ _=>False.elim) u eZ) ba
 have bI:Upd G w G' w d g:=⟨fun z h=>ghd0 d z (fun h2=>h h2.2.1),fun z h=>gad0 d z (fun h2=>h h2.2.1),fun b o f z h1 _=>⟨glb0 b o f d z h1 (fun h2=>gY h2.1),rfl⟩,fun b z h1 _=>gow0 b d z h1 (fun h2=>gY h2.1),gO⟩;have tq:∀b o,Loc G w d v0 g b o→Loc G' w d u g b o:=by intro b o h1;obtain⟨h2,h3,h4⟩:=wS bH h1;have h5:G'.ad d g=⟨b,o,iA⟩∧G'.lb b o=iz (iC,d,g)∧yJ w b o=iz (G'.hd d g):=⟨(gad0 d g (fun h=>h.2.2 rfl)).trans h2,glb0 b o iC d g h3 (fun h=>gY h.1),by rw[h4,ghd0 d g (fun h=>h.2.2 rfl)]⟩;cases u<;>simp[T.single]at hu<;>simpa only[Loc]using h5
 have ay:R Γ.St G' w d (td.set g.reverse u) []:=
  zGg g.reverse td u v0 [] (by rw[fW];exact bI) d2 hg (by rw[zGk bH,zGk hu]) (gx.keepR (zAR td d3 mq)) (by rw[fW];exact tq) (by rw[fW];exact hud)
 have hVd:mkV G' d (td.set g.reverse u) []=mkV G d td []:=
  zJR g.reverse td u v0 [] hg bH hu (fun z hz=>ghd0 d z (fun h2=>h2.2.2 (by rw[fW]at hz;exact hz h2.2.1))) fK
 have hRr:p≠[]→R Γ.St G' w r (tr.set p.reverse .any) []:=by intro bg;refine zGg p.reverse tr .any u [] (by rw[fW];exact⟨fun z _=>ghd0 r z (fun h2=>gY h2.1.symm),fun z _=>gad0 r z (fun h2=>gY h2.1.symm),fun b o f z h1 h=>⟨glb0 b o f r z h1 (fun h2=>h h2.2.1),rfl⟩,fun b z h1 h=>gow0 b r z h1 (fun h2=>h h2.2),gO⟩) r2 hp (by cases u<;>simp[T.single]at hu<;>simp[T.size]) (gx.keepR (zAR tr r3 pk)) ?_ (by simp only[R]);rw[fW];intro b o h1;obtain⟨h2,h3,h4⟩:=wS hu h1;simp only[Loc];exact⟨(gad0 r p (fun h=>gY h.1.symm)).trans h2,glb0 b o iC r p h3 (by simp),by rw[h4,ghd0 r p (fun h=>gY h.1.symm)]⟩
 have hVr:p≠[]→mkV G' r (tr.set p.reverse .any) []=mkV G r tr []:=fun _=>
  zJR p.reverse tr .any u [] hp hu rfl (fun z _=>ghd0 r z (fun h2=>gY h2.1.symm)) fm
 refine⟨vJ gc rfl gx gu ?_ ?_,ghd0⟩
 ·intro s hs
  simp only[Wr.find]at hs;split at hs
  ·cases hs
  ·rename_i h1
   split at hs
   ·cases hs
   ·rename_i h2
    refine⟨fun n hn=>?_,rfl⟩;simp only[Jp,Uq.injEq,List.not_mem_nil,or_false]at hn;rcases hn with⟨e,_⟩|⟨e,_⟩
    ·exact h1 e.symm
    ·exact h2 e.symm
 ·intro s t hs
  simp only[Wr.find]at hs;split at hs
  ·rename_i he
   subst he;simp at hs;subst hs;exact⟨by rw[d1,hVd],ay,zEI _ _ _ d3 eZ⟩
  ·split at hs
   ·rename_i he
    subst he;simp at hs
    by_cases bg:p=[]
    ·rw[if_pos bg]at hs
     subst hs;subst bg;simp[T.get]at hp;subst hp;refine⟨?_,?_,by simp[Top]⟩
     ·rw[r1,xJ hu,xJ rfl,ghd0 r [] (fun h=>gY h.1.symm)]
     ·simp only[R]
      rw[ghd0 r [] (fun h=>gY h.1.symm)];have:=ghd [];simpa using this.symm
    ·rw[if_neg bg]at hs
     subst hs;exact⟨by rw[r1,hVr bg],hRr bg,zEI _ _ _ r3 (by simp[zW,yN])⟩
   ·cases hs
theorem zMT{Γ:Ctx}{E:Env}{a:Act}{w:World}(h:Sim Γ E a w)(d:Nat)(g:List Nat)(r:Nat)(p:List Nat)(td tr u:T)(hd:E d=iz td)(hg:td.get g.reverse=iz (.same r p))(hr:E r=iz tr)
  (hp:tr.get p.reverse=iz u)(hu:u.single=iB)(eZ:zW u)(gY:d≠r)(mq:td.okB [(d,g.length+1),(r,p.length+1)]=iB)(pk:tr.okB [(d,g.length+1),(r,p.length+1)]=iB)(fK:wC td=iB)(fm:wC tr=iB):
  Sim Γ (E.app [(d,iz (td.set g.reverse u)),(r,iz (if p=[]then .same d g else tr.set p.reverse .any))] [(d,g.length+1),(r,p.length+1)]) a w:=by
 obtain⟨gZ,G,gc⟩:=h;have eg:=(zAL g.reverse td _ [] (gc.ent d td hd).2.1 hg).1;simp only[rp,K0,J9,R]at eg;exact⟨gZ,_,(zHl gc d g r p td tr u _ hd hg rfl eg hr hp hu eZ gY mq pk fK fm).1⟩
end Go.Ab

namespace Go.Ab
open Go
theorem zJS{St:Stb}{G:Gh}{w:World}{s:Nat}{k:Nat}:(xs:List T)→ ∀(p:List Nat)(j b o:Nat),(∀i x,xs[i]? =iz x→Loc G w s x ((j+i)::p) b (o+i*k)∧x.size=k∧R St G w s x ((j+i)::p))→RL St G w s xs p j b o k
 | [],_,_,_,_,_=>by simp only[RL]
 |x::xs,p,j,b,o,h=>by
  obtain⟨h1,h2,h3⟩:=h 0 x (by simp);simp only[RL];refine⟨⟨by simpa using h1,h2⟩,by simpa using h3,zJS xs p (j+1) b (o+k) (fun i y hy=>?_)⟩;have:=h (i+1) y (by simpa using hy)
  rwa [show j+(i+1)=j+1+i from by omega,show o+(i+1)*k=o+k+i*k from by rw[L5];omega]at this
theorem kV{St:Stb}{G:Gh}{w:World}{s:Nat}{k:Nat}:(xs:List T)→ ∀(p:List Nat)(j b o:Nat),RL St G w s xs p j b o k→vD G w s xs p j b o
 | [],_,_,_,_,_=>by simp only[vD]
 |x::xs,p,j,b,o,h=>by simp only[RL]at h;simp only[vD];exact⟨h.1.1,kV xs p (j+1) b (o+x.size) (by rw[h.1.2];exact h.2.2)⟩
theorem zBR{St:Stb}{G:Gh}{w:World}{s:Nat}{k:Nat}:(xs:List T)→ ∀(p:List Nat)(j b o:Nat),RL St G w s xs p j b o k→RF St G w s xs p j∧ ∀x∈xs,x.size=k
 | [],_,_,_,_,_=>by simp[RF]
 |x::xs,p,j,b,o,h=>by simp only[RL]at h;obtain⟨h1,h2⟩:=zBR xs p (j+1) b (o+k) h.2.2;exact⟨by simp only[RF];exact⟨h.2.1,h1⟩,fun y hy=>by rcases Jp.1 hy with rfl|hy;exact h.1.2;exact h2 y hy⟩
section
variable {G:Gh}{w:World}{G':Gh}{w':World}{s s':Nat}
mutual
theorem zHm:(t:T)→ ∀(p p':List Nat)(b o:Nat),(∀z,G'.hd s' (z++p')=G.hd s (z++p))→(∀z,G'.ad s' (z++p')=G.ad s (z++p))→
  (∀b o z,G.lb b o=iz (iC,s,z++p)→G'.lb b o=iz (iC,s',z++p')∧yJ w' b o=yJ w b o)→Loc G w s t p b o→Loc G' w' s' t p' b o
 |.agg xs,p,p',b,o,hh,ha,hl,h=>by
  simp only[Loc]at h ⊢
  exact⟨by have:=ha [];simp at this;rw[this];exact h.1,zIT xs p p' 0 b o hh ha hl h.2⟩
 |.any,p,p',b,o,hh,ha,hl,h|.lit _,p,p',b,o,hh,ha,hl,h|.ro _,p,p',b,o,hh,ha,hl,h|.same _ _,p,p',b,o,hh,ha,hl,h|.addr _ _,p,p',b,o,hh,ha,hl,h|.sub _ _ _ _ _,p,p',b,o,hh,ha,hl,h|.sl _ _,p,p',b,o,hh,ha,hl,h|.ptr _,p,p',b,o,hh,ha,hl,h=>by
  simp only[Loc]at h ⊢
  have h1:=hl b o [] (by simpa using h.2.1);have h2:=ha [];have h3:=hh [];simp only[Ju]at h1 h2 h3;exact⟨h2.trans h.1,h1.1,by rw[h1.2,h.2.2,h3]⟩
 |.tup _,_,_,_,_,_,_,_,h=>by simp only[Loc]at h
theorem zIT:(xs:List T)→ ∀(p p':List Nat)(j b o:Nat),(∀z,G'.hd s' (z++p')=G.hd s (z++p))→(∀z,G'.ad s' (z++p')=G.ad s (z++p))→
  (∀b o z,G.lb b o=iz (iC,s,z++p)→G'.lb b o=iz (iC,s',z++p')∧yJ w' b o=yJ w b o)→vD G w s xs p j b o→vD G' w' s' xs p' j b o
 | [],_,_,_,_,_,_,_,_,_=>by simp only[vD]
 |x::xs,p,p',j,b,o,hh,ha,hl,h=>by
  simp only[vD]at h ⊢
  exact⟨zHm x (j::p) (j::p') b o (fun z=>by have:=hh (z++[j]);simpa using this) (fun z=>by have:=ha (z++[j]);simpa using this) (fun b o z hz=>by have:=hl b o (z++[j]) (by simpa using hz);simpa using this) h.1,
   zIT xs p p' (j+1) b _ hh ha hl h.2⟩
end
end
theorem zEJ(G:Gh)(s:Nat):∀(xs us:List T)(p:List Nat)(j:Nat),yF G s (xs++us) p j=yF G s xs p j++yF G s us p (j+xs.length)
 | [],us,p,j=>by simp[yF]
 |x::xs,us,p,j=>by simp[yF,zEJ G s xs us p (j+1),Lx,Nat.add_comm 1]
theorem zEK:∀(xs us:List T),T.sizes (xs++us)=T.sizes xs+T.sizes us
 | [],us=>by simp[T.sizes]
 |x::xs,us=>by simp[T.sizes,zEK xs us,Lx]
theorem zDX:∀(xs us:List T),yK xs=iB→yK us=iB→yK (xs++us)=iB
 | [],us,_,h=>h
 |x::xs,us,h,h'=>by
  simp only[yK,J3,K9]at h ⊢
  exact⟨h.1,zDX xs us h.2 h'⟩
theorem zDY:∀(xs us:List T),yU xs→yU us→yU (xs++us)
 | [],us,_,h=>h
 |x::xs,us,h,h'=>by
  simp only[yU,xH,K9]at h ⊢
  exact⟨h.1,zDY xs us h.2 h'⟩
theorem zAs{St:Stb}{G:Gh}{w:World}{s:Nat}{k:Nat}:(xs:List T)→ ∀(p:List Nat)(j b o:Nat),vD G w s xs p j b o→yK xs=iB
 | [],_,_,_,_,_=>rfl
 |x::xs,p,j,b,o,h=>by simp only[vD]at h;simp only[yK,J3];exact⟨one x (j::p) b o h.1,zAs (St:=St) (k:=k) xs p (j+1) b _ h.2⟩
where
 one:(t:T)→ ∀(p:List Nat)(b o:Nat),Loc G w s t p b o→t.okTup=iB
  |.agg xs,p,b,o,h=>by simp only[Loc]at h;simp only[T.okTup];exact zAs (St:=St) (k:=k) xs p 0 b o h.2
  |.tup _,_,_,_,h=>by simp only[Loc]at h
  |.any,_,_,_,_|.lit _,_,_,_,_|.ro _,_,_,_,_|.same _ _,_,_,_,_|.addr _ _,_,_,_,_|.sub _ _ _ _ _,_,_,_,_|.sl _ _,_,_,_,_|.ptr _,_,_,_,_=>rfl
section
variable {P:Program}
structure zHn (P:Program) (t2:TypeId) (e:TypeId) (ti:TypeInfo) (xv:Value) (m:Nat) (nv:List Value) (w:World):Prop where
 arg:(∃e2 xa c,P.underlying t2=iz (.slice e2)∧xv=.slice xa m c∧ ∀w2:World,w2.heap=w.heap→(Builtin.firstCells ti.size m (.slice xa m c)).run P w2=.ok nv.toArray w2)∨
  ∃k2 k3 z,P.underlying t2=iz (.int k2)∧xv=.int k3 (m:Int)∧ti.zero=iz z∧nv.toArray=Builtin.zeroCells z.cells m∧m*ti.bytes≤2 ^ 47∧z.cells.size=ti.size
theorem zEL{t t2 ty e:TypeId}{ti:TypeInfo}{xv:Value}{m:Nat}{nv:List Value}{w w':World}(ht:P.underlying t=iz (.slice e))(hi:P.info? e=iz ti)
  (hx:zHn P t2 e ti xv m nv w)(hm:m≤68719476736){base:Option Addr}{n cap:Nat}(gT:n+m≤cap)
  (gN:(if let iz a:=base then storeCells (a.add (n*ti.size)) nv else pure ():Sem Unit).run P w=.ok () w'):
  (Builtin.append_ #[t,t2] ty #[.slice base n cap,xv]).run P w=.ok (.slice base (n+m) cap) w':=by
 rcases hx.arg with⟨e2,xa,c,h1,rfl,h2⟩|⟨k2,k3,z,h1,rfl,h2,h3,h4,h5⟩
 ·have h2:=h2 w rfl
  cases base with
  |none=>
   simp at gN;subst gN;simp[Builtin.append_,run_underlying ht,run_underlying h1,sizeOf,typeInfo,hi,Builtin.lenOf,gT,h2]
  |some a=>
   simp only at gN;simp[Builtin.append_,run_underlying ht,run_underlying h1,sizeOf,typeInfo,hi,Builtin.lenOf,gT,h2,gN]
 ·have mc:IntKind.i64.wrap (m:Int)=m:=by rw[IntKind.wrap_i64];omega
  have mR:¬(281474976710656<(m:Int)*(ti.bytes:Int)):=by
   have:((m*ti.bytes:Nat):Int)≤2 ^ 47:=by exact_mod_cast h4
   rw[Uk]at this;omega
  have fF:¬((m:Int)<0):=by omega
  have bh:nv=(Builtin.zeroCells z.cells m).toList:=by rw[←h3]
  by_cases hz:m*ti.size=0
  ·have mr:nv=[]:=by
    apply Jy;rw[bh];simp[Builtin.zeroCells,h5,hz]
   subst mr;cases base with
   |none=>
    simp at gN;subst gN;simp[Builtin.append_,run_underlying ht,run_underlying h1,sizeOf,typeInfo,hi,asInt,asIntOf,mc,mR,fF,gT,hz]
   |some a=>
    simp only[storeCells,Sem.run_pure]at gN;cases gN;simp[Builtin.append_,run_underlying ht,run_underlying h1,sizeOf,typeInfo,hi,asInt,asIntOf,mc,mR,fF,gT,hz,storeCells]
  ·cases base with
   |none=>
    simp at gN;subst gN;simp[Builtin.append_,run_underlying ht,run_underlying h1,sizeOf,typeInfo,zeroValue,hi,h2,asInt,asIntOf,mc,mR,fF,gT]
   |some a=>
    simp only[bh]at gN;simp[Builtin.append_,run_underlying ht,run_underlying h1,sizeOf,typeInfo,zeroValue,hi,h2,asInt,asIntOf,mc,mR,fF,gT,hz,gN]
theorem zJT{t t2 ty e:TypeId}{ti:TypeInfo}{z xv:Value}{m:Nat}{nv olds:List Value}{w:World}(ht:P.underlying t=iz (.slice e))(hi:P.info? e=iz ti)(hz:ti.zero=iz z)
  (hx:zHn P t2 e ti xv m nv w){base:Option Addr}{n cap:Nat}(gX:cap<n+m)(co:n+m≤68719476736)(hb:ti.bytes≤2048)
  (gJ:∀w2:World,w2.heap=w.heap→(Builtin.firstCells ti.size n (.slice base n cap)).run P w2=.ok olds.toArray w2):
  (Builtin.append_ #[t,t2] ty #[.slice base n cap,xv]).run P w=.ok (.slice (iz ⟨w.heap.size,0,iA⟩) (n+m) (grownCap w (n+m) cap e))
    (w.drew.alloc (.cells ((olds++nv).toArray++Builtin.zeroCells z.cells (grownCap w (n+m) cap e-(n+m))) e)):=by
 have hn:¬(n+m≤cap):=by omega
 have mP:¬(9223372036854775807<((n:Int)+(m:Int))):=by omega
 have uq:=growslice_fits (need:=n+m) (old:=cap) (bytes:=ti.bytes) gX (Hf (K6 co hb) (by decide));have mQ:¬(281474976710656<Builtin.nextslicecap (n+m) cap*ti.bytes):=by omega
 have ho:=gJ w.drew rfl;rcases hx.arg with⟨e2,xa,c,h1,rfl,h2⟩|⟨k2,k3,z',h1,rfl,h2,h3,h4,h5⟩
 ·have h2:=h2 w.drew rfl
  simp[Builtin.append_,run_underlying ht,run_underlying h1,sizeOf,typeInfo,zeroValue,hi,hz,Builtin.lenOf,hn,mP,mQ,Question.forced,h2,ho,newRow,grownCap]
  congr 2
  apply Ja8;simp
 ·have mc:IntKind.i64.wrap (m:Int)=m:=by rw[IntKind.wrap_i64];omega
  have mR:¬(281474976710656<(m:Int)*(ti.bytes:Int)):=by
   have:((m*ti.bytes:Nat):Int)≤2 ^ 47:=by exact_mod_cast h4
   rw[Uk]at this;omega
  have fF:¬((m:Int)<0):=by omega
  have bh:nv=(Builtin.zeroCells z'.cells m).toList:=by rw[←h3]
  rw[hz]at h2;simp at h2;subst h2
  by_cases pb:m*ti.size=0
  ·have mr:nv=[]:=by
    apply Jy;rw[bh];simp[Builtin.zeroCells,h5,pb]
   subst mr;simp[Builtin.append_,run_underlying ht,run_underlying h1,sizeOf,typeInfo,zeroValue,hi,hz,asInt,asIntOf,mc,mR,fF,hn,mP,mQ,Question.forced,pb,ho,newRow,grownCap]
  ·simp[Builtin.append_,run_underlying ht,run_underlying h1,sizeOf,typeInfo,zeroValue,hi,hz,asInt,asIntOf,mc,mR,fF,hn,mP,mQ,Question.forced,pb,ho,newRow,grownCap,←h3]
   congr 2
   apply Ja8;simp
end
def zEn(s0:Nat)(y:Option Nat)(n:Nat)(s:Nat)(z:List Nat):Option (List Nat):=
 if s=s0 then iz z else if y=iz s then(match z.getLast? with
  |some j=>iz (z.dropLast++[n+j])
  |none=>iA)else iA
def Gh.ip(G:Gh)(d s0:Nat)(y:Option Nat)(b n k oa:Nat)(us:List T)(f2:Nat→List Nat→Value)(gY:Value):Gh where
 hd s z:=if s=d then(match z.getLast? with
  |some i=>if i<n then G.hd s0 z else f2 (i-n) z.dropLast
  |none=>gY)else G.hd s z
 ad s z:=if s=d then(match z.getLast? with
  |some i=>if i<n then G.ad s0 z else if(T.agg us).inT ((i-n)::z.dropLast.reverse)then⟨b,oa+(T.agg us).offT ((i-n)::z.dropLast.reverse),iA⟩else(match y with
   |some y=>G.ad y (z.dropLast++[i-n])
   |none=>default)
  |none=>default)else G.ad s z
 lb b' o:=if b'=b∧oa≤o∧o<oa+us.length*k then(match zCO us [] n (o-oa)with
  |some p=>iz (iC,d,p)
  |none=>iA)else match G.lb b' o with
  |some (fl,s,z)=>(match zEn s0 y n s z with
   |some z'=>iz (fl,d,z')
   |none=>iz (fl,s,z))
  |none=>iA
 ow b':=match G.ow b' with
  |some (s,z)=>(match zEn s0 y n s z with
   |some z'=>iz (d,z')
   |none=>iz (s,z))
  |none=>iA
def aWr(d s0:Nat)(y:Option Nat)(k:Nat)(ts:List T):Wr:=(d,iz (.sl k ts))::(s0,iz .any)::(match y with
 |some y=>[(y,iz .any)]
 |none=>[])
def zBy(d s0:Nat)(y:Option Nat):Chg:=(d,0)::(s0,1)::(match y with
 |some y=>[(y,1)]
 |none=>[])
structure zHo (Γ:Ctx) (E:Env) (G:Gh) (d s0:Nat) (y:Option Nat) (k n:Nat) (us:List T) (f2:Nat→List Nat→Value) (nv:List Value):Prop where
 size:∀u∈us,u.size=k
 tup:yK us=iB
 clean:yU us
 one:∀j z,(f2 j z).oneCell'=iB
 len:nv.length=us.length*k
 slot:∀y',y=iz y'→y'≠d∧y'≠s0∧E y'=iz (.sl k us)∧ ∀j z,f2 j z=G.hd y' (z++[j])
 none:y=iA→ ∀(j:Nat) u,us[j]? =iz u→ ∀(G2:Gh)(w2:World),(∀z,G2.hd d (z++[n+j])=f2 j z)→R Γ.St G2 w2 d u [n+j]
 vals:∀(G2:Gh),(∀j z,G2.hd d (z++[n+j])=f2 j z)→ ∀(o:Nat)(v:Value),(yF G2 d us [] n)[o]? =iz v→nv[o]? =iz v
theorem zKU{G G2:Gh}{s d:Nat}:(xs:List T)→ ∀(p:List Nat)(j:Nat),(∀i,i<xs.length→ ∀z,G2.hd d (z++((j+i)::p))=G.hd s (z++((j+i)::p)))→yF G2 d xs p j=yF G s xs p j
 | [],_,_,_=>by simp only[yF]
 |x::xs,p,j,h=>by
  simp only[yF];have ih:yF G2 d xs p (j+1)=yF G s xs p (j+1):=zKU xs p (j+1) (fun i hi z=>by rw[show j+1+i=j+(i+1)from by omega];exact h (i+1) (by simpa using hi) z)
  rw[zB3 x (j::p) (j::p) (by simpa using h 0 (by simp)),ih]
theorem zI8(z:List Nat):z=[]∨ ∃y i,z=y++[i]:=by
 rcases List.eq_nil_or_concat z with h|⟨y,i,h⟩
 ·exact .inl h
 ·exact .inr ⟨y,i,by simpa using h⟩
section
variable {P:Program}{Γ:Ctx}{E:Env}{d:Nat}
theorem zCq{G:Gh}{a:Act}{w:World}(gc:Rep Γ E G a.tmps w)(hd:d<Γ.N){t t2 ty e:TypeId}{ti:TypeInfo}{z:Value}{k:Nat}(ht:P.underlying t=iz (.slice e))(hi:P.info? e=iz ti)(hz:ti.zero=iz z)
  (hk:ti.size=k)(_hk0:0<k)(fA:z.cells.size=k)(hb:ti.bytes≤2048){s0:Nat}{y:Option Nat}{xs us:List T}{f2:Nat→List Nat→Value}{nv:List Value}(eC:E s0=iz (.sl k xs))(fa:s0≠d)
  (hn:zHo Γ E G d s0 y k xs.length us f2 nv){xv:Value}(hx:zHn P t2 e ti xv us.length nv w)(gn:∀v∈nv,v.oneCell'=iB)(co:xs.length+us.length≤68719476736):
  ∃v w',(Builtin.append_ #[t,t2] ty #[G.hd s0 [],xv]).run P w=.ok v w'∧ ∃G',Rep Γ (E.app (aWr d s0 y k (xs++us)) (zBy d s0 y)) G' (a.tmps.setIfInBounds d v) w':=by
 have hm:=gc.mem;obtain⟨e1,e2,e3⟩:=gc.ent s0 _ eC;simp only[Top]at e3;simp only[R]at e2;have mi:T.sizes us=us.length*k:=wN us hn.size;have fin:∀(G':Gh)(w':World)(v:Value),jS (zBy d s0 y) G w G' w'→Mem Γ G' w'→G'.hd d []=v→R Γ.St G' w' d (.sl k (xs++us)) []→(∀s p,s≠d→G'.hd s p=G.hd s p)→
   Rep Γ (E.app (aWr d s0 y k (xs++us)) (zBy d s0 y)) G' (a.tmps.setIfInBounds d v) w':=by
  intro G' w' v gx gu hdv ay hother;refine vJ gc (by simp) gx gu ?_ ?_
  ·intro s hs
   have gf:s≠d:=by rintro rfl;simp[aWr,Wr.find]at hs
   have fZ:s≠s0:=by rintro rfl;simp[aWr,Wr.find,gf.symm]at hs
   have dY:∀y',y=iz y'→s≠y':=by
    rintro y' rfl rfl
    simp[aWr,Wr.find,gf.symm,fZ.symm]at hs
   refine⟨fun n' hn'=>?_,by rw[Jc];simp[gf.symm]⟩;simp only[zBy,Jp,Uq.injEq]at hn';rcases hn' with⟨h1,_⟩|⟨h1,_⟩|hn'
   ·exact gf h1
   ·exact fZ h1
   ·cases y with
    |none=>simp at hn'
    |some y'=>simp at hn';exact dY y' rfl hn'.1
  ·intro s t' hs
   by_cases h1:s=d
   ·subst h1
    simp[aWr,Wr.find]at hs;subst hs;refine⟨?_,ay,by simp only[Top];exact zDY xs us e3 hn.clean⟩;rw[Jc];simp[gc.size,hd,mkV,hdv]
   ·have h3:t'=.any∧(s=s0∨y=iz s):=by
     simp only[aWr,Wr.find]at hs;rw[if_neg (fun h=>h1 h.symm)]at hs;split at hs
     ·rename_i h2;simp at hs;exact⟨hs.symm,.inl h2.symm⟩
     ·cases y with
      |none=>simp[Wr.find]at hs
      |some y'=>
       simp only[Wr.find]at hs;split at hs
       ·rename_i h2;simp at hs;exact⟨hs.symm,.inr (by rw[h2])⟩
       ·cases hs
    obtain⟨rfl,h3⟩:=h3;refine⟨?_,by simp only[R],by simp[Top]⟩;rw[Jc];simp only[Ne.symm h1,if_false,mkV];rw[hother s [] h1];rcases h3 with rfl|h3
    ·exact e1
    ·obtain⟨_,_,h4,_⟩:=hn.slot s h3
     exact(gc.ent s _ h4).1
 have cG:∀s p,(∀n',(s,n')∉zBy d s0 y)→zEn s0 y xs.length s p=iA:=by
  intro s p h;have h1:s≠s0:=fun e=>h 1 (by simp[zBy,e])
  have h2:y≠iz s:=fun e=>h 1 (by simp[zBy,e])
  simp[zEn,h1,h2]
 by_cases gT:∃a' c,G.hd s0 []=.slice a' xs.length c∧xs.length+us.length≤c
 ·
  obtain⟨a',c,hh,gT⟩:=gT;rcases e2 with⟨rfl,a1,h1⟩|⟨b,o0,cap,cs,et,h1,h2,h3,h4,h5,h6,h7,h8⟩
  ·rw[h1]at hh
   simp at hh;obtain⟨rfl,rfl⟩:=hh;have ft:us=[]:=Jy (by simp only[U5]at gT;omega);subst ft;have bh:nv=[]:=Jy (by have:=hn.len;simp at this;simp[this]);subst bh;have gz:=zEL (P:=P) (t:=t) (ty:=ty) (w':=w) ht hi hx (by simp) (base:=a1) (n:=0) (cap:=0) (by simp) (by cases a1<;>rfl);refine⟨.slice a1 0 0,w,by rw[h1];exact gz,G.put d (fun _=>.slice a1 0 0),fin _ w _ ?_ (hm.put rfl d _ (fun _=>rfl)) (by rw[Gh.put_self]) (by simp[R,Gh.put]) (fun s p h=>G.put_other _ p h)⟩;have:=G.put_keep (w:=w) (w':=w) rfl d (fun _=>.slice a1 0 0);exact⟨fun s p h=>this.hd s p (fun n hn=>h n (by simp at hn;simp[zBy,hn])),fun s p h=>this.ad s p (fun n hn=>h n (by simp at hn;simp[zBy,hn])),fun b o f s p h0 h1 h2=>this.lb b o f s p h0 h1 (fun n hn=>h2 n (by simp at hn;simp[zBy,hn])),fun b s p h1 h2=>this.ow b s p h1 (fun n hn=>h2 n (by simp at hn;simp[zBy,hn])),this.blk⟩
  ·rw[h1]at hh
   simp at hh;obtain⟨rfl,rfl⟩:=hh;have hmk0:us.length*k+xs.length*k≤cap*k:=by rw[←Gu];exact Kj _ (by omega)
   have dU:∀o,o0+(xs.length*k+us.length*k)≤o→o0+xs.length*k≤o:=fun o h=>by omega
   generalize hoa:o0+xs.length*k=oa at h7 dU
   have hmk':oa+us.length*k≤o0+cap*k:=by omega
   have hmk:us.length*k+oa≤cs.size:=by omega
   generalize hw':w.setRow b (cs.toList.take (oa)++nv++cs.toList.drop (oa+nv.length)).toArray=w'
   have ey:w'.heap[b]? =iz (.cells (cs.toList.take (oa)++nv++cs.toList.drop (oa+nv.length)).toArray et (0,0)):=by rw[←hw'];exact setRow_heap w b cs _ et _ h2
   have gJ:∀b',b'≠b→w'.heap[b']? =w.heap[b']?:=fun b' h=>by rw[←hw'];exact setRow_other w b b' _ h
   have gQ:w'.heap.size=w.heap.size:=by rw[←hw'];exact size_setRow w b _
   have hcsl:cs.toList.length=cs.size:=Ka ..;have cJ:=hn.len;have eL:∀i,yJ w' b i=if oa≤i∧i<oa+us.length*k then nv[i-oa]? else yJ w b i:=by
    intro i;simp only[yJ,World.cell?,ey,h2,Ur,H2,if_false];rw[←Ki,←Ki (xs:=cs)];simp only[]
    by_cases g1:i<oa
    ·rw[if_neg (by omega),Jh,K5 (by simp;omega),G6 g1]
    ·by_cases g2:i<oa+us.length*k
     ·rw[if_pos ⟨by omega,g2⟩,Jh,Jb (by simp;omega),K5 (by simp;omega)]
      congr 1;simp;omega
     ·rw[if_neg (by omega),Jh,Jb (by simp;omega),Jb (by simp;omega),Lh]
      congr 1;simp;omega
   have gU:∀b' o fl s p,G.lb b' o=iz (fl,s,p)→(fl,s,p)≠(iB,s0,[])→ ¬(b'=b∧oa≤o∧o<oa+us.length*k):=by
    rintro b' o fl s p g1 g2 ⟨rfl,g3,g4⟩
    rw[h7 o g3 (by omega)]at g1;simp at g1;exact g2 (by simp[←g1.1,←g1.2.1,←g1.2.2])
   have eV:∀b' o,¬(b'=b∧oa≤o∧o<oa+us.length*k)→yJ w' b' o=yJ w b' o:=by
    intro b' o g
    by_cases eG:b'=b
    ·subst eG
     rw[eL,if_neg (fun g2=>g ⟨rfl,g2⟩)]
    ·simp[yJ,World.cell?,gJ b' eG]
   have cK:((cs.toList.take (oa)++nv++cs.toList.drop (oa+nv.length)).toArray).size=cs.size:=by simp;omega
   have eA:Blk w w':=by
    intro b' cs' e' g1
    by_cases eG:b'=b
    ·subst eG
     rw[h2]at g1;simp at g1;obtain⟨rfl,rfl⟩:=g1;exact⟨_,ey,cK⟩
    ·exact⟨cs',by rw[gJ b' eG];exact g1,rfl⟩
   generalize gp:G.ip d s0 y b xs.length k oa us f2 (.slice (iz ⟨b,o0,iA⟩) (xs.length+us.length) cap)=G'
   have ghdr:G'.hd d []=.slice (iz ⟨b,o0,iA⟩) (xs.length+us.length) cap:=by rw[←gp];simp[Gh.ip]
   have ghd1:∀i z,i<xs.length→G'.hd d (z++[i])=G.hd s0 (z++[i]):=fun i z g=>by rw[←gp];simp[Gh.ip,g]
   have ghd2:∀j z,G'.hd d (z++[xs.length+j])=f2 j z:=fun j z=>by rw[←gp];simp[Gh.ip,show¬xs.length+j<xs.length from by omega]
   have ghd0:∀s z,s≠d→G'.hd s z=G.hd s z:=fun s z g=>by rw[←gp];simp[Gh.ip,g]
   have gad0:∀s z,s≠d→G'.ad s z=G.ad s z:=fun s z g=>by rw[←gp];simp[Gh.ip,g]
   have gad1:∀i z,i<xs.length→G'.ad d (z++[i])=G.ad s0 (z++[i]):=fun i z g=>by rw[←gp];simp[Gh.ip,g]
   have gad2:∀j f,(T.agg us).inT (j::f)=iB→G'.ad d (f.reverse++[xs.length+j])=⟨b,oa+(T.agg us).offT (j::f),iA⟩:=fun j f g=>by rw[←gp];simp[Gh.ip,g,show¬xs.length+j<xs.length from by omega]
   have gad3:∀y' j z,y=iz y'→(T.agg us).inT (j::z.reverse)=iC→G'.ad d (z++[xs.length+j])=G.ad y' (z++[j]):=fun y' j z g1 g2=>by rw[←gp];simp[Gh.ip,g1,g2,show¬xs.length+j<xs.length from by omega]
   have glb2:∀i p,i<us.length*k→zCO us [] xs.length i=iz p→G'.lb b (oa+i)=iz (iC,d,p):=fun i p g1 g2=>by rw[←gp];simp only[Gh.ip];rw[if_pos (by simp;omega),show oa+i-oa=i from by omega,g2]
   have glb0:∀b' o fl s p,G.lb b' o=iz (fl,s,p)→ ¬(b'=b∧oa≤o∧o<oa+us.length*k)→zEn s0 y xs.length s p=iA→G'.lb b' o=iz (fl,s,p):=fun b' o fl s p g1 g2 g3=>by rw[←gp];simp only[Gh.ip];rw[if_neg g2,g1];simp[g3]
   have glb1:∀b' o fl s p p',G.lb b' o=iz (fl,s,p)→ ¬(b'=b∧oa≤o∧o<oa+us.length*k)→zEn s0 y xs.length s p=iz p'→G'.lb b' o=iz (fl,d,p'):=fun b' o fl s p p' g1 g2 g3=>by rw[←gp];simp only[Gh.ip];rw[if_neg g2,g1];simp[g3]
   have gow0:∀b' s p,G.ow b'=iz (s,p)→zEn s0 y xs.length s p=iA→G'.ow b'=iz (s,p):=fun b' s p g1 g2=>by rw[←gp];simp[Gh.ip,g1,g2]
   have gow1:∀b' s p p',G.ow b'=iz (s,p)→zEn s0 y xs.length s p=iz p'→G'.ow b'=iz (d,p'):=fun b' s p p' g1 g2=>by rw[←gp];simp[Gh.ip,g1,g2]
   have ff:∀p,zEn s0 y xs.length s0 p=iz p:=fun p=>by simp[zEn]
   have pR:∀y' z j,y=iz y'→y'≠s0→zEn s0 y xs.length y' (z++[j])=iz (z++[xs.length+j]):=fun y' z j g1 g2=>by simp[zEn,g1,g2]
   have gf:∀s p,Off (zBy d s0 y) s p→s≠d:=fun s p h e=>absurd (h 0 (by simp[zBy,e])) (by simp)
   have gx:jS (zBy d s0 y) G w G' w':=by
    refine⟨fun s p h=>ghd0 s p (gf s p h),fun s p h=>gad0 s p (gf s p h),fun b' o fl s p _ g1 g2=>?_,fun b' s p g1 g2=>gow0 b' s p g1 (cG s p g2),eA⟩;have hs:s≠s0:=fun e=>g2 1 (by simp[zBy,e])
    have g3:=gU b' o fl s p g1 (by simp[hs]);exact⟨glb0 b' o fl s p g1 g3 (cG s p g2),eV b' o g3⟩
   have bt:=hm.ow b _ h6;have gu:Mem Γ G' w':=by
    refine⟨fun s z=>?_,fun b' o' l hl=>?_,fun b' l hl=>?_,fun b' x' ew=>?_,fun b' g1 g2=>?_,by rw[gQ];exact hm.sz,hm.bk.trans eA (by rw[←hw'];rfl) (by rw[←hw'];rfl)⟩
    ·by_cases g:s=d
     ·subst g
      rcases zI8 z with rfl|⟨z',i,rfl⟩
      ·rw[ghdr];rfl
      ·by_cases g1:i<xs.length
       ·rw[ghd1 i z' g1];exact hm.one _ _
       ·have:=ghd2 (i-xs.length) z'
        rw[show xs.length+(i-xs.length)=i from by omega]at this;rw[this];exact hn.one _ _
     ·rw[ghd0 s z g];exact hm.one _ _
    ·have:zCL Γ w b':=by
      rw[←gp]at hl;simp only[Gh.ip]at hl;split at hl
      ·rename_i g;rw[g.1];exact bt
      ·split at hl
       ·rename_i g;exact hm.lb _ _ _ g
       ·cases hl
     exact⟨by rw[gQ];exact this.1,this.2⟩
    ·have:zCL Γ w b':=by
      rw[←gp]at hl;simp only[Gh.ip]at hl;split at hl
      ·rename_i g;exact hm.ow _ _ g
      ·cases hl
     exact⟨by rw[gQ];exact this.1,this.2⟩
    ·have eG:b'≠b:=by rintro rfl;rw[bt.2.2]at ew;cases ew
     rw[gJ b' eG];exact hm.st b' x' ew
    ·have eG:b'≠b:=by
      rintro rfl
      rcases bt.2.1 with g3|g3
      ·omega
      ·exact g2 g3
     rw[gJ b' eG];exact hm.fr b' g1 g2
   have mw:vD G' w' d us [] xs.length b (oa):=by
    refine zGE us [] xs.length b (oa) hn.tup (fun i x ew f hf=>?_) (fun i p' g1 g2=>glb2 i p' (by omega) g2) (fun i v hv=>?_)
    ·have:=gad2 i f (by simp only[T.inT,ew];exact hf)
     simpa[T.offT,ew]using this
    ·have g1:=hn.vals G' ghd2 i v hv
     have g2:=(Je.1 g1).1;rw[eL,if_pos ⟨by omega,by omega⟩,show oa+i-oa=i from by omega];exact g1
   have ay:R Γ.St G' w' d (.sl k (xs++us)) []:=by
    simp only[R];rw[ghdr];refine .inr ⟨b,o0,cap,_,et,by simp,ey,by simp;omega,h4,by rw[cK];exact h5,gow1 b s0 [] [] h6 (ff []),?_,zJS _ _ _ _ _ (fun i x ew=>?_)⟩
    ·intro o g1 g2
     rw[Ja,Gu]at g1;exact glb1 b o iB s0 [] [] (h7 o (by omega) g2) (by omega) (ff [])
    ·rw[Kf]at ew
     simp only[J8];split at ew
     ·rename_i gH
      obtain⟨g1,g2,g3⟩:=kN xs [] 0 b o0 k i x h8 ew;simp only[J8]at g1 g3;have bm:∀b' o fl z,G.lb b' o=iz (fl,s0,z++[i])→G'.lb b' o=iz (fl,d,z++[i])∧yJ w' b' o=yJ w b' o:=fun b' o fl z g=>by have g4:=gU b' o fl s0 _ g (by simp);exact⟨glb1 b' o fl s0 _ _ g g4 (ff _),eV b' o g4⟩
      refine⟨zHm x [i] [i] b _ (fun z=>ghd1 i z gH) (fun z=>gad1 i z gH) (fun b' o z g=>bm b' o iC z g) g1,g2,?_⟩;refine zAQ (G:=G) (w:=w) (s:=s0) (p:=[i]) ⟨⟨fun z=>ghd1 i z gH,fun z _=>gad1 i z gH,fun b' o f z _ _ g=>bm b' o f z g,fun b' z _ g=>gow1 b' s0 _ _ g (ff _),eA⟩,fun b' o _ g=>?_,fun b' g=>gow1 b' s0 _ _ g (ff _)⟩ x (yN.mono (fun _ _=>False.elim) x (uK xs e3 i x ew)) g3;have:=bm b' o iB [] (by simpa using g);simpa using this
     ·rename_i hge
      obtain⟨j,rfl⟩:∃j,i=xs.length+j:=⟨i-xs.length,by omega⟩;rw[show xs.length+j-xs.length=j from by omega]at ew;have g1:=zCM us [] xs.length b (oa) j x mw ew;rw[show T.sizes (us.take j)=j*k from by rw[wN _ (fun u hu=>hn.size u (List.mem_of_mem_take hu)),Kn,H6 (by have:=(Je.1 ew).1;omega)],show oa+j*k=o0+(xs.length+j)*k from by rw[Gu];omega]at g1
      refine⟨g1,hn.size x (Ld ew),?_⟩;cases hy:y with
      |none=>exact hn.none hy j x ew G' w' (fun z=>ghd2 j z)
      |some y'=>
       obtain⟨y1,y2,y3,y4⟩:=hn.slot y' hy;obtain⟨_,y5,_⟩:=gc.ent y' _ y3;simp only[R]at y5;rcases y5 with⟨rfl,_⟩|⟨b2,o2,cap2,cs2,et2,_,_,_,_,_,_,_,y6⟩
       ·simp at ew
       ·obtain⟨_,_,y7⟩:=kN us [] 0 b2 o2 k j x y6 ew
        simp only[J8]at y7;refine zKN x [j] [xs.length+j] (zD4.okTups_get us hn.tup j x ew) ⟨fun z=>by rw[ghd2,y4],fun z g=>gad3 y' j z hy (by simp only[T.inT,ew];exact g),fun b' o fl z _ g=>?_,fun b' z g=>gow1 b' y' _ _ g (pR y' z j hy y2),eA⟩ (yN.mono (fun _ _=>False.elim) x (uK us hn.clean j x ew)) y7;have g4:=gU b' o fl y' _ g (by simp[y2]);exact⟨glb1 b' o fl y' _ _ g g4 (pR y' z j hy y2),eV b' o g4⟩
   have gN:=run_storeCells_at P b (oa) et nv 0 cs w h2 (by omega) gn;simp only[Qm]at gN;rw[hw']at gN;have gz:=zEL (P:=P) (t:=t) (ty:=ty) (w':=w') ht hi hx (by omega) (base:=iz ⟨b,o0,iA⟩) gT (by simp only[hk,vW,hoa];exact gN);refine⟨_,w',by rw[h1];exact gz,G',fin G' w' _ gx gu ghdr ay ghd0⟩
 ·
  have ar:∃a' c,G.hd s0 []=.slice a' xs.length c∧ ∀w2:World,w2.heap=w.heap→(Builtin.firstCells ti.size xs.length (.slice a' xs.length c)).run P w2=.ok (yF G s0 xs [] 0).toArray w2:=by
   rcases e2 with⟨rfl,a1,h1⟩|⟨b,o0,cap,cs,et,h1,h2,h3,h4,h5,h6,h7,h8⟩
   ·exact⟨a1,0,h1,fun w2 _=>by cases a1<;>simp[Builtin.firstCells,loadCells,loadCellsFrom,yF]⟩
   ·refine⟨_,_,h1,fun w2 bC=>?_⟩
    have hl:=kV xs [] 0 b o0 h8;refine run_firstCells_some (P:=P) w2 ti.size xs.length ⟨b,o0,iA⟩ _ _ _ ?_ (fun j v hv=>?_)
    ·rw[wI,hk]
     exact wN xs (zBR xs [] 0 b o0 h8).2
    ·have:=zBb xs [] 0 b o0 hl j v hv
     rw[vW];simp only[yJ]at this;simpa[World.cell?,bC]using this
  obtain⟨a',c,hh,gJ⟩:=ar;have eY:yK xs=iB∧(∀x∈xs,x.size=k)∧ ∀i x,xs[i]? =iz x→R Γ.St G w s0 x [i]:=by
   rcases e2 with⟨rfl,a1,h1⟩|⟨b,o0,cap,cs,et,h1,h2,h3,h4,h5,h6,h7,h8⟩
   ·simp[yK]
   ·refine⟨zAs (St:=Γ.St) (k:=k) xs [] 0 b o0 (kV xs [] 0 b o0 h8),(zBR xs [] 0 b o0 h8).2,fun i x ew=>?_⟩
    have:=(kN xs [] 0 b o0 k i x h8 ew).2.2;simpa using this
  have gX:c<xs.length+us.length:=by
   rcases Jg c (xs.length+us.length)with g|g
   ·exact g
   ·exact absurd ⟨a',c,hh,g⟩ gT
  have gz:=zJT (P:=P) (t:=t) (ty:=ty) ht hi hz hx gX co hb gJ;have hge:=grownCap_ge w (xs.length+us.length) c e;have aP:=grownCap_le_maxLen w (xs.length+us.length) c e (by simp only[maxLen];omega)
  generalize grownCap w (xs.length+us.length) c e=cap' at gz hge aP
  generalize hw':w.drew.alloc (.cells ((yF G s0 xs [] 0++nv).toArray++Builtin.zeroCells z.cells (cap'-(xs.length+us.length))) e)=w' at gz
  have hwh:w'.heap=w.heap.push (.cells ((yF G s0 xs [] 0++nv).toArray++Builtin.zeroCells z.cells (cap'-(xs.length+us.length))) e):=by rw[←hw'];rfl
  have pK:T.sizes xs=xs.length*k:=wN xs eY.2.1;obtain⟨g1,g2,g3,g4,g5⟩:=zD4 hm hwh d (xs++us) (fun i=>if i<xs.length then iz (s0,[i])else y.map fun y'=>(y',[i-xs.length])) (zEn s0 y xs.length) (fun i z=>if i<xs.length then G.hd s0 (z++[i])else f2 (i-xs.length) z) (.slice (iz ⟨w.heap.size,0,iA⟩) (xs.length+us.length) cap') ((zBy d s0 y).tail)
   (zDX xs us eY.1 hn.tup) (fun i z=>by split;exact hm.one _ _;exact hn.one _ _) rfl
   (fun i u x q z' hu hs=>by
    split at hs
    ·simp at hs;obtain⟨rfl,rfl⟩:=hs;simp[zEn]
    ·rename_i fj
     cases y with
     |none=>simp at hs
     |some y'=>
      simp at hs;obtain⟨rfl,rfl⟩:=hs;have:=(hn.slot y' rfl).2.1;simp[zEn,this,show xs.length+(i-xs.length)=i from by omega])
   (fun i u x q hu hs=>by
    rw[Kf]at hu;split at hs
    ·rename_i gH
     rw[if_pos gH]at hu;simp at hs;obtain⟨rfl,rfl⟩:=hs;exact⟨fun z'=>by simp[gH],eY.2.2 i u hu,uK xs e3 i u hu,fa⟩
    ·rename_i fj
     rw[if_neg fj]at hu;cases hy:y with
     |none=>rw[hy]at hs;simp at hs
     |some y'=>
      rw[hy]at hs;simp at hs;obtain⟨rfl,rfl⟩:=hs;obtain⟨y1,y2,y3,y4⟩:=hn.slot y' hy;obtain⟨_,y5,_⟩:=gc.ent y' _ y3;simp only[R]at y5;refine⟨fun z'=>by simp[fj,y4],?_,uK us hn.clean _ u hu,y1⟩;rcases y5 with⟨rfl,_⟩|⟨b2,o2,cap2,cs2,et2,_,_,_,_,_,_,_,y6⟩
      ·simp at hu
      ·have:=(kN us [] 0 b2 o2 k _ u y6 hu).2.2
       simpa using this)
   (fun i u hu hs G2 w2 eH=>by
    rw[Kf]at hu;split at hs
    ·cases hs
    ·rename_i fj
     rw[if_neg fj]at hu;cases hy:y with
     |some y'=>rw[hy]at hs;simp at hs
     |none=>
      have:=hn.none hy (i-xs.length) u hu G2 w2 (fun z'=>by rw[show xs.length+(i-xs.length)=i from by omega,eH,if_neg fj])
      rwa [show xs.length+(i-xs.length)=i from by omega]at this)
   (fun G2 eH o v hv=>by
    rw[zEJ,J8]at hv;have h1:yF G2 d xs [] 0=yF G s0 xs [] 0:=zKU xs [] 0 (fun i eh z'=>by rw[J8,eH,if_pos eh]);rw[h1]at hv;have bm:(yF G s0 xs [] 0).length=xs.length*k:=by rw[wI,pK]
    have ue:(yF G2 d us [] xs.length).length=us.length*k:=by rw[wI,mi]
    have ho:o<xs.length*k+us.length*k:=by have:=(Je.1 hv).1;rw[Ja]at this;omega
    have cJ:=hn.len;rw[Array.getElem?_append_left (by simp;omega),List.getElem?_toArray];rw[Kf]at hv ⊢
    split at hv
    ·rename_i gH;rw[if_pos gH];exact hv
    ·rename_i fj;rw[if_neg fj]
     exact hn.vals G2 (fun j z'=>by rw[eH,if_neg (by omega),show xs.length+j-xs.length=j from by omega]) _ v hv)
   (fun s p h=>cG s p (by simpa[zBy]using h)) (ho:=by rw[←hw'];rfl) (hq:=by rw[←hw'];rfl)
  refine⟨_,w',by rw[hh];exact gz,_,fin _ w' _ (by simpa[zBy]using g1) g2 (by simp[Gh.nb]) ?_ (fun s p h=>by simp[Gh.nb,h])⟩;simp only[R];refine .inr ⟨w.heap.size,0,cap',_,e,by simp[Gh.nb],g5,by simpa using hge,aP,?_,by simp[Gh.nb],?_,zRt _ _ _ _ _ (fun x ew=>?_) g3 g4⟩
  ·have bm:(yF G s0 xs [] 0).length=xs.length*k:=by rw[wI,pK]
   have cJ:=hn.len;simp only[Array.size_append,Qg,Ja,size_zeroCells,fA,bm,cJ,←Gu];rw[J8];exact Kj _ (by omega)
  ·intro o ho _
   rw[Ja,Gu]at ho;simp[Gh.nb,zEk (xs++us) [] 0 o (by rw[zEK];omega)]
  ·rcases Jw.1 ew with h|h
   ·exact eY.2.1 x h
   ·exact hn.size x h
end
end Go.Ab

namespace Go.Ab
open Go
mutual
def T.flat:T→Bool
 |.lit _|.ro _=>iB
 |.agg xs=>zAN xs
 |.any|.same _ _|.addr _ _|.sub _ _ _ _ _|.sl _ _|.ptr _|.tup _=>iC
def zAN:List T→Bool
 | []=>iB
 |x::xs=>x.flat&&zAN xs
end
section
variable {St:Stb}{G G2:Gh}{w w2:World}{s d:Nat}
mutual
theorem zJU:(t:T)→ ∀(p p':List Nat),t.flat=iB→(∀z,G2.hd d (z++p')=G.hd s (z++p))→R St G w s t p→R St G2 w2 d t p'
 |.lit _,p,p',_,h,hr=>by have:=h [];simp only[Ju]at this;simp only[R]at hr ⊢;rw[this];exact hr
 |.ro _,p,p',_,h,hr=>by have:=h [];simp only[Ju]at this;simp only[R]at hr ⊢;rw[this];exact hr
 |.agg xs,p,p',hf,h,hr=>by simp only[R,T.flat]at hr hf ⊢;exact zO9 xs p p' 0 hf h hr
 |.any,_,_,hf,_,_|.same _ _,_,_,hf,_,_|.addr _ _,_,_,hf,_,_|.sub _ _ _ _ _,_,_,hf,_,_|.sl _ _,_,_,hf,_,_|.ptr _,_,_,hf,_,_|.tup _,_,_,hf,_,_=>by simp[T.flat]at hf
theorem zO9:(xs:List T)→ ∀(p p':List Nat)(j:Nat),zAN xs=iB→(∀z,G2.hd d (z++p')=G.hd s (z++p))→RF St G w s xs p j→RF St G2 w2 d xs p' j
 | [],_,_,_,_,_,_=>by simp only[RF]
 |x::xs,p,p',j,hf,h,hr=>by
  simp only[RF,zAN,J3]at hr hf ⊢
  exact⟨zJU x (j::p) (j::p') hf.1 (fun z=>by have:=h (z++[j]);simpa using this) hr.1,zO9 xs p p' (j+1) hf.2 h hr.2⟩
end
end
mutual
theorem zHp:(t:T)→t.flat=iB→zW t∧t.okTup=iB
 |.lit _,_|.ro _,_=>by simp[zW,yN,T.okTup]
 |.agg xs,h=>by simp only[T.flat]at h;simpa only[zW,yN,T.okTup]using zA0 xs h
 |.any,h|.same _ _,h|.addr _ _,h|.sub _ _ _ _ _,h|.sl _ _,h|.ptr _,h|.tup _,h=>by simp[T.flat]at h
theorem zA0:(xs:List T)→zAN xs=iB→yU xs∧yK xs=iB
 | [],_=>by simp[yU,xH,yK]
 |x::xs,h=>by simp only[zAN,J3]at h;simp only[yU,xH,yK,J3];exact⟨⟨(zHp x h.1).1,(zA0 xs h.2).1⟩,(zHp x h.1).2,(zA0 xs h.2).2⟩
end
theorem zIU:(xs:List T)→zAN xs=iB→ ∀(i:Nat)(x:T),xs[i]? =iz x→x.flat=iB
 | [],_,_,_,h=>by simp at h
 |y::ys,hk,i,x,h=>by
  simp only[zAN,J3]at hk;cases i with
  |zero=>simp at h;subst h;exact hk.1
  |succ i=>exact zIU ys hk.2 i x (by simpa using h)
mutual
def zF5:T→Bool
 |.lit _=>iB
 |.sl _ xs=>zBS xs
 |.agg xs=>zBS xs
 |.ptr t=>zF5 t
 |.any|.ro _|.same _ _|.addr _ _|.sub _ _ _ _ _|.tup _=>iC
def zBS:List T→Bool
 | []=>iB
 |x::xs=>zF5 x&&zBS xs
end
theorem zKV:(ys:List T)→zBS ys=iB→ ∀u∈ys,∀xs,u≠.tup xs
 | [],_,_,h,_=>by simp at h
 |y::ys,hr,u,h,xs=>by
  simp only[zBS,J3]at hr;rcases Jp.1 h with rfl|h
  ·rintro rfl;simp[zF5]at hr
  ·exact zKV ys hr.2 u h xs
theorem zGl:(ys:List T)→(roT.roTs ys).length=ys.length
 | []=>rfl
 |y::ys=>by simp[roT.roTs,zGl ys]
theorem zHq{k:Nat}:(ys:List T)→(∀u∈ys,u.size=k)→(∀u∈ys,∀xs,u≠.tup xs)→ ∀u∈roT.roTs ys,u.size=k
 | [],_,_,u,h=>by simp[roT.roTs]at h
 |y::ys,h1,h2,u,h=>by
  simp only[roT.roTs,Jp]at h;rcases h with rfl|h
  ·rw[zEG y (h2 y (by simp))];exact h1 y (by simp)
  ·exact zHq ys (fun v hv=>h1 v (by simp[hv])) (fun v hv=>h2 v (by simp[hv])) u h
theorem zKW:(ys:List T)→ ∀(j:Nat)(u:T),(roT.roTs ys)[j]? =iz u→ ∃u0,ys[j]? =iz u0∧u=roT u0
 | [],_,_,h=>by simp[roT.roTs]at h
 |y::ys,j,u,h=>by
  cases j with
  |zero=>simp[roT.roTs]at h;exact⟨y,by simp,h.symm⟩
  |succ j=>
   obtain⟨u0,h1,h2⟩:=zKW ys j u (by simpa[roT.roTs]using h);exact⟨u0,by simpa using h1,h2⟩
theorem zOA{St:Stb}{G2:Gh}{d:Nat}:(ys:List T)→ ∀(cs':Array Value)(o' k n:Nat),RoL St ys cs' o' k→(∀u∈ys,u.size=k)→(∀j u,ys[j]? =iz u→ ∀z',G2.hd d (z'++[n+j])=kS (zEj u cs' (o'+j*k) z'.reverse))→
  ∀(i:Nat)(v:Value),(yF G2 d (roT.roTs ys) [] n)[i]? =iz v→cs'[o'+i]? =iz v
 | [],_,_,_,_,_,_,_,i,v,hv=>by simp[roT.roTs,yF]at hv
 |y::ys,cs',o',k,n,h,hs,hd,i,v,hv=>by
  simp only[RoL]at h;simp only[roT.roTs,yF]at hv;have ee:∀xs,y≠.tup xs:=by rintro xs rfl;simp only[RoC]at h;exact h.1
  have dV:∀xs,roT y≠.tup xs:=fun xs e=>by cases y<;>simp[roT]at e
  have hl:(vals G2 d (roT y) [n]).length=k:=by rw[wX _ _ dV,zEG y ee,hs y (by simp)]
  rw[Kf]at hv;split at hv
  ·exact zHb y cs' o' [n] (fun z'=>by simpa using hd 0 y (by simp) z') h.1 i v hv
  ·have:=zOA ys cs' (o'+k) k (n+1) h.2 (fun u hu=>hs u (by simp[hu])) (fun j u hu z'=>by
    have:=hd (j+1) u (by simpa using hu) z'
    rwa [show n+(j+1)=n+1+j from by omega,show o'+(j+1)*k=o'+k+j*k from by rw[L5];omega]at this) _ v hv
   rwa [hl,show o'+k+(i-k)=o'+i from by omega]at this
mutual
theorem zPV{G:Gh}(hg:∀s z,(G.hd s z).oneCell'=iB){s:Nat}:(t:T)→ ∀(p:List Nat)(v:Value),v∈vals G s t p→v.oneCell'=iB
 |.agg xs,p,v,h=>by simp only[vals]at h;exact zEo hg xs p 0 v h
 |.any,p,v,h|.lit _,p,v,h|.ro _,p,v,h|.same _ _,p,v,h|.addr _ _,p,v,h|.sub _ _ _ _ _,p,v,h|.sl _ _,p,v,h|.ptr _,p,v,h|.tup _,p,v,h=>by simp only[vals,List.mem_singleton]at h;rw[h];exact hg s p
theorem zEo{G:Gh}(hg:∀s z,(G.hd s z).oneCell'=iB){s:Nat}:(xs:List T)→ ∀(p:List Nat)(j:Nat)(v:Value),v∈yF G s xs p j→v.oneCell'=iB
 | [],_,_,_,h=>by simp[yF]at h
 |x::xs,p,j,v,h=>by
  simp only[yF,Jw]at h;rcases h with h|h
  ·exact zPV hg x _ v h
  ·exact zEo hg xs p _ v h
end
theorem zCS{G G2:Gh}{s d:Nat}:(us:List T)→ ∀(n j:Nat),(∀i z,G2.hd d (z++[n+i])=G.hd s (z++[j+i]))→yF G2 d us [] n=yF G s us [] j
 | [],_,_,_=>by simp only[yF]
 |x::xs,n,j,h=>by
  have ih:yF G2 d xs [] (n+1)=yF G s xs [] (j+1):=zCS xs (n+1) (j+1) (fun i z=>by rw[show n+1+i=n+(i+1)from by omega,show j+1+i=j+(i+1)from by omega];exact h (i+1) z)
  simp only[yF];rw[ih,zB3 x [j] [n] (by simpa using h 0)]
theorem zEM{G G2:Gh}{s d:Nat}:(us:List T)→ ∀(n j:Nat)(q:List Nat),(∀i z,G2.hd d (z++[n+i])=G.hd s (z++((j+i)::q)))→yF G2 d us [] n=yF G s us q j
 | [],_,_,_,_=>by simp only[yF]
 |x::xs,n,j,q,h=>by
  have ih:yF G2 d xs [] (n+1)=yF G s xs q (j+1):=zEM xs (n+1) (j+1) q (fun i z=>by rw[show n+1+i=n+(i+1)from by omega,show j+1+i=j+(i+1)from by omega];exact h (i+1) z)
  simp only[yF];rw[ih,zB3 x (j::q) [n] (by simpa using h 0)]
section
variable {P:Program}{Γ:Ctx}{E:Env}{o:Oper}{d:Nat}
theorem zOB{St:Stb}{G:Gh}{w:World}{r:Nat}{q:List Nat}{k:Nat}{us:List T}(h:R St G w r (.sl k us) q){size:Nat}(hk:size=k):
  ∃xa c,G.hd r q=.slice xa us.length c∧ ∀w2:World,w2.heap=w.heap→(Builtin.firstCells size us.length (.slice xa us.length c)).run P w2=.ok (yF G r us q 0).toArray w2:=by
 simp only[R]at h;rcases h with⟨rfl,a1,h1⟩|⟨b,o0,cap,cs,et,h1,h2,h3,h4,h5,h6,h7,h8⟩
 ·exact⟨a1,0,h1,fun w2 _=>by cases a1<;>simp[Builtin.firstCells,loadCells,loadCellsFrom,yF]⟩
 ·refine⟨_,_,h1,fun w2 bC=>?_⟩
  have hl:=kV us q 0 b o0 h8;refine run_firstCells_some (P:=P) w2 size us.length ⟨b,o0,iA⟩ _ _ _ ?_ (fun j v hv=>?_)
  ·rw[wI,hk]
   exact wN us (zBR us q 0 b o0 h8).2
  ·have:=zBb us q 0 b o0 hl j v hv
   rw[vW];simp only[yJ]at this;simpa[World.cell?,bC]using this
theorem zBT{G:Gh}{a:Act}{w:World}(gc:Rep Γ E G a.tmps w){s:Nat}{t:T}(h:E s=iz t)(ht:t.single=iB):a.eval (.tmp s)=G.hd s []:=by rw[xP (gc.ent s t h).1,xJ ht]
theorem zJV(t e:TypeId)(ti:TypeInfo)(z:Value)(k s0 y:Nat)(xs us:List T)(ho:o.op=.call { callee:=.builtin .append,args:=#[.tmp s0,.tmp y],argTypes:=#[t,t] })(gj:o.dst=iz d)(hd:d<Γ.N)
  (ht:P.underlying t=iz (.slice e))(hi:P.info? e=iz ti)(hz:ti.zero=iz z)(hk:ti.size=k)(eD:0<k)(fA:z.cells.size=k)(hb:ti.bytes≤2048)
  (eC:E s0=iz (.sl k xs))(hy:E y=iz (.sl k us))(fa:s0≠d)(aA:y≠d)(az:y≠s0)(co:xs.length+us.length≤68719476736):
  xW P Γ o E (E.app (aWr d s0 (iz y) k (xs++us)) (zBy d s0 (iz y))):=by
 refine xW.value gj fun a w G gc=>?_
 obtain⟨_,y2,y3⟩:=gc.ent y _ hy;simp only[Top]at y3;obtain⟨xa,c,h1,h2⟩:=zOB (P:=P) y2 hk;have ft:yK us=iB∧ ∀u∈us,u.size=k:=by
  simp only[R]at y2;rcases y2 with⟨rfl,_⟩|⟨b,o0,cap,cs,et,_,_,_,_,_,_,_,h8⟩
  ·simp[yK]
  ·exact⟨zAs (St:=Γ.St) (k:=k) us [] 0 b o0 (kV us [] 0 b o0 h8),(zBR us [] 0 b o0 h8).2⟩
 have hn:zHo Γ E G d s0 (iz y) k xs.length us (fun j z'=>G.hd y (z'++[j])) (yF G y us [] 0):=
  ⟨ft.2,ft.1,y3,fun j z'=>gc.mem.one _ _,by rw[wI];exact wN us ft.2,fun y' hy'=>by simp at hy';subst hy';exact⟨aA,az,hy,fun _ _=>rfl⟩,fun h=>by simp at h,
   fun G2 eH o v hv=>by rw[←zCS us xs.length 0 (fun i z'=>by rw[eH,J8])];exact hv⟩
 obtain⟨v,w',gz,G',gp⟩:=zCq (P:=P) (ty:=o.type) gc hd ht hi hz hk eD fA hb eC fa hn (xv:=a.eval (.tmp y)) ⟨.inl ⟨e,xa,c,ht,by rw[zBT gc hy rfl,h1],h2⟩⟩ (fun v hv=>zD6 gc.mem us [] 0 v hv) co;refine⟨v,w',?_,G',gp⟩;rw[←zBT gc eC rfl]at gz;simp[execOp,ho,resolve,invoke,builtin,gz]
theorem zJW(t e:TypeId)(ti:TypeInfo)(z:Value)(k s0:Nat)(y:Operand)(r:Nat)(q:List Nat)(xs us:List T)(ho:o.op=.call { callee:=.builtin .append,args:=#[.tmp s0,y],argTypes:=#[t,t] })(gj:o.dst=iz d)(hd:d<Γ.N)
  (ht:P.underlying t=iz (.slice e))(hi:P.info? e=iz ti)(hz:ti.zero=iz z)(hk:ti.size=k)(eD:0<k)(fA:z.cells.size=k)(hb:ti.bytes≤2048)
  (eC:E s0=iz (.sl k xs))(hy:tL E y=iz (r,q,.sl k us))(hf:zAN us=iB)(fa:s0≠d)(co:xs.length+us.length≤68719476736):
  xW P Γ o E (E.app (aWr d s0 iA k (xs++us)) (zBy d s0 iA)):=by
 refine xW.value gj fun a w G gc=>?_
 obtain⟨y2,y1⟩:=qQ gc hy rfl;obtain⟨xa,c,h1,h2⟩:=zOB (P:=P) y2 hk;have ft:(∀u∈us,u.size=k)∧ ∀j u,us[j]? =iz u→R Γ.St G w r u (j::q):=by
  simp only[R]at y2;rcases y2 with⟨rfl,_⟩|⟨b,o0,cap,cs,et,_,_,_,_,_,_,_,h8⟩
  ·simp
  ·refine⟨(zBR us q 0 b o0 h8).2,fun j u hu=>?_⟩
   have:=(kN us q 0 b o0 k j u h8 hu).2.2;simpa using this
 have gD:=zA0 us hf;have hn:zHo Γ E G d s0 iA k xs.length us (fun j z'=>G.hd r (z'++(j::q))) (yF G r us q 0):=
  ⟨ft.1,gD.2,gD.1,fun j z'=>gc.mem.one _ _,by rw[wI];exact wN us ft.1,fun y' hy'=>by simp at hy',
   fun _ j u hu G2 w2 eH=>zJU u (j::q) [xs.length+j] (zIU us hf j u hu) (fun z'=>eH z') (ft.2 j u hu),
   fun G2 eH o v hv=>by rw[←zEM us xs.length 0 q (fun i z'=>by rw[eH,J8])];exact hv⟩
 obtain⟨v,w',gz,G',gp⟩:=zCq (P:=P) (ty:=o.type) gc hd ht hi hz hk eD fA hb eC fa hn (xv:=a.eval y) ⟨.inl ⟨e,xa,c,ht,by rw[y1,h1],h2⟩⟩ (fun v hv=>zD6 gc.mem us q 0 v hv) co;refine⟨v,w',?_,G',gp⟩;rw[←zBT gc eC rfl]at gz;simp[execOp,ho,resolve,invoke,builtin,gz]
mutual
theorem zRz:(u:T)→zF5 u=iB→(roT u).flat=iB
 |.agg xs,h=>by simp only[zF5]at h;simp only[roT,T.flat];exact zF6 xs h
 |.lit _,_|.sl _ _,_|.ptr _,_=>by simp[roT,T.flat]
 |.any,h|.ro _,h|.same _ _,h|.addr _ _,h|.sub _ _ _ _ _,h|.tup _,h=>by simp[zF5]at h
theorem zF6:(xs:List T)→zBS xs=iB→zAN (roT.roTs xs)=iB
 | [],_=>by simp[roT.roTs,zAN]
 |x::xs,h=>by simp only[zBS,J3]at h;simp only[roT.roTs,zAN,J3];exact⟨zRz x h.1,zF6 xs h.2⟩
end
theorem zJX(t e:TypeId)(ti:TypeInfo)(z:Value)(k s0:Nat)(y:Operand)(r:Nat)(q:List Nat)(xs ys:List T)(ho:o.op=.call { callee:=.builtin .append,args:=#[.tmp s0,y],argTypes:=#[t,t] })(gj:o.dst=iz d)(hd:d<Γ.N)
  (ht:P.underlying t=iz (.slice e))(hi:P.info? e=iz ti)(hz:ti.zero=iz z)(hk:ti.size=k)(eD:0<k)(fA:z.cells.size=k)(hb:ti.bytes≤2048)
  (eC:E s0=iz (.sl k xs))(hy:tL E y=iz (r,q,.ro (.sl k ys)))(hro:zBS ys=iB)(az:∀u∈ys,u.size=k)(fa:s0≠d)(co:xs.length+ys.length≤68719476736):
  xW P Γ o E (E.app (aWr d s0 iA k (xs++roT.roTs ys)) (zBy d s0 iA)):=by
 refine xW.value gj fun a w G gc=>?_
 obtain⟨y2,y1⟩:=qQ gc hy rfl;obtain⟨xa,c,h1,h2,h3,h4⟩:=zD3 y2;have hf:=zF6 ys hro;have gD:=zA0 _ hf;have gm:(roT.roTs ys).length=ys.length:=zGl ys;have gC:∀u∈roT.roTs ys,u.size=k:=zHq ys az (fun u hu=>zKV ys hro u hu);obtain⟨cs',o',h5,h6⟩:∃(cs':Array Value)(o':Nat),RoL Γ.St ys cs' o' k∧(ys≠[]→ ∃b et fr,xa=iz ⟨b,o',iA⟩∧Γ.St b=iz (.cells cs' et fr)):=by
  by_cases gf:ys=[]
  ·subst gf;exact⟨#[],0,by simp[RoL],fun h=>absurd rfl h⟩
  ·obtain⟨b,o',cs',et,fr,h5,h6,h7⟩:=h4 gf
   exact⟨cs',o',h7,fun _=>⟨b,et,fr,h5,h6⟩⟩
 let f2:Nat→List Nat→Value:=fun j z'=>match ys[j]? with
  |some u=>kS (zEj u cs' (o'+j*k) z'.reverse)
  |none=>.bool iC
 have hf2:∀j u,ys[j]? =iz u→ ∀z',f2 j z'=kS (zEj u cs' (o'+j*k) z'.reverse):=fun j u hu z'=>by simp[f2,hu]
 let G0:Gh:={ G with hd:=fun s z'=>if s=d then(match z'.getLast? with
  |some j=>f2 j z'.dropLast
  |none=>.bool iC)else G.hd s z' }
 have hG0:∀j z',G0.hd d (z'++[j])=f2 j z':=fun j z'=>by simp[G0]
 have ct:∀(G2:Gh)(n:Nat),(∀j z',G2.hd d (z'++[n+j])=f2 j z')→ ∀(i:Nat)(v:Value),(yF G2 d (roT.roTs ys) [] n)[i]? =iz v→cs'[o'+i]? =iz v:=by intro G2 n eH i v hv;exact zOA ys cs' o' k n h5 az (fun j u hu z'=>by rw[eH,hf2 j u hu]) i v hv
 have tu:∀w2:World,w2.heap=w.heap→(Builtin.firstCells ti.size ys.length (.slice xa ys.length c)).run P w2=.ok (yF G0 d (roT.roTs ys) [] 0).toArray w2:=by
  intro w2 bC
  by_cases gf:ys=[]
  ·subst gf
   cases xa<;>simp[Builtin.firstCells,loadCells,loadCellsFrom,roT.roTs,yF]
  ·obtain⟨b,et,fr,rfl,h7⟩:=h6 gf
   refine run_firstCells_some (P:=P) w2 ti.size ys.length ⟨b,o',iA⟩ _ _ _ ?_ (fun j v hv=>?_)
   ·rw[wI,hk,wN _ gC,gm]
   ·have:=ct G0 0 (fun j z'=>by rw[J8];exact hG0 j z') j v hv
    rw[vW];have h8:=gc.mem.st b _ h7;simp[World.cell?,bC,h8,this]
 have pS:∀j z',(f2 j z').oneCell'=iB:=fun j z'=>by
  dsimp only[f2];split
  ·exact zBN _
  ·rfl
 have hn:zHo Γ E G d s0 iA k xs.length (roT.roTs ys) f2 (yF G0 d (roT.roTs ys) [] 0):=by
  refine⟨gC,gD.2,gD.1,pS,by rw[wI];exact wN _ gC,fun y' hy'=>by simp at hy',fun _ j u hu G2 w2 eH=>?_,fun G2 eH i v hv=>?_⟩
  ·obtain⟨u0,aE,rfl⟩:=zKW ys j u hu
   exact zRo u0 cs' (o'+j*k) [xs.length+j] (fun z'=>by rw[eH z',hf2 j u0 aE]) (zGD ys cs' o' k j u0 h5 aE)
  ·rw[←zCS (roT.roTs ys) xs.length 0 (fun i z'=>by rw[eH,J8];exact(hG0 i z').symm)]
   exact hv
 have te:∀v∈yF G0 d (roT.roTs ys) [] 0,v.oneCell'=iB:=by
  intro v hv;refine zEo (fun s z'=>?_) _ [] 0 v hv;simp only[G0];split
  ·split
   ·exact pS _ _
   ·rfl
  ·exact gc.mem.one _ _
 have mK:zHn P t e ti (a.eval y) (roT.roTs ys).length (yF G0 d (roT.roTs ys) [] 0) w:=⟨.inl ⟨e,xa,c,ht,by rw[y1,h1,gm],by rw[gm];exact tu⟩⟩;obtain⟨v,w',gz,G',gp⟩:=zCq (P:=P) (ty:=o.type) gc hd ht hi hz hk eD fA hb eC fa hn mK te (by rw[gm];exact co);refine⟨v,w',?_,G',gp⟩;rw[←zBT gc eC rfl]at gz;simp[execOp,ho,resolve,invoke,builtin,gz]
end
end Go.Ab

namespace Go.Ab
open Go
theorem zGm:(us:List T)→qB us=us.flatMap sE
 | []=>rfl
 |u::us=>by simp[qB,zGm us]
theorem zCT(u:T)(h:u.zOk=iB):∀m,zAT (J1 m u)=iB
 |0=>rfl
 |m+1=>by simp[Jv,zAT,h,zCT u h m]
section
variable {P:Program}{Γ:Ctx}{E:Env}{o:Oper}{d:Nat}
theorem zHr(t t2 e:TypeId)(k2:IntKind)(ti:TypeInfo)(z:Value)(u:T)(k s0:Nat)(y:Operand)(kd:IntKind)(m:Nat)(xs:List T)(ho:o.op=.call { callee:=.builtin .append,args:=#[.tmp s0,y],argTypes:=#[t,t2] })(gj:o.dst=iz d)(hd:d<Γ.N)
  (ht:P.underlying t=iz (.slice e))(cu:P.underlying t2=iz (.int k2))(hi:P.info? e=iz ti)(hz:ti.zero=iz z)(hk:ti.size=k)(eD:0<k)(hb:ti.bytes≤2048)(hu:u.zOk=iB)(hv:sE u=z.cells.toList)(ft:u.size=k)
  (eC:E s0=iz (.sl k xs))(hy:opT E y=iz (.lit (.int kd m)))(fa:s0≠d)(co:xs.length+m≤68719476736):
  xW P Γ o E (E.app (aWr d s0 iA k (xs++J1 m u)) (zBy d s0 iA)):=by
 refine xW.value gj fun a w G gc=>?_
 have fA:z.cells.size=k:=by grind[vH]
 have hzo:=zCT u hu m;have gD:=zCp _ hzo
 let f2:Nat→List Nat→Value:=fun _ z'=>kS (zhd u z'.reverse)
 have hnvl:((Builtin.zeroCells z.cells m).toList).length=m*k:=by grind[Builtin.zeroCells]
 have hn:zHo Γ E G d s0 iA k xs.length (J1 m u) f2 (Builtin.zeroCells z.cells m).toList:=by
  refine⟨by grind,gD.2,gD.1,fun _ _=>zBN _,by grind,by simp,fun _ j x hx G2 w2 eH=>?_,fun G2 eH i v pI=>?_⟩
  ·grind[zJO]
  ·have h1:yF G2 d (J1 m u) [] xs.length=qB (J1 m u):=by grind[zEl]
   rw[h1,zGm]at pI;obtain⟨h2,h3⟩:=zJP sE u k (by grind) eD m i v pI
   grind[Builtin.zeroCells]
 have gn:∀v∈(Builtin.zeroCells z.cells m).toList,v.oneCell'=iB:=by
  intro v pI;simp only[Builtin.zeroCells,Array.toList_map,Array.toList_range,Jj,Lf]at pI;obtain⟨i,eh,rfl⟩:=pI
  grind[Nat.mod_lt,zF4]
 have mK:zHn P t2 e ti (a.eval y) (J1 m u).length (Builtin.zeroCells z.cells m).toList w:=by
  refine⟨.inr ⟨k2,kd,z,cu,?_,hz,by simp,?_,by omega⟩⟩
  ·rw[(yT gc hy).1];simp
  ·simp only[K8]
   exact Hf (K6 (show m≤68719476736 by omega) hb) (by decide)
 obtain⟨v,w',gz,G',gp⟩:=zCq (P:=P) (ty:=o.type) gc hd ht hi hz hk eD fA hb eC fa hn mK gn (by grind);refine⟨v,w',?_,G',gp⟩;rw[←zBT gc eC rfl]at gz;simp[execOp,ho,resolve,invoke,builtin,gz]
end
end Go.Ab

namespace Go.Ab
open Go
def zKX(G:Gh)(nd:List (Nat×List Nat×T)):Value:=
 match nd with
 | [x]=>sK G x.1 x.2.2 x.2.1
 |nd=>.tuple (nd.map fun x=>sK G x.1 x.2.2 x.2.1).toArray
def FnC(P:Program)(f:FuncId)(us:List T)(res:List T)(rws:List (Nat×T)):Prop:=
 ∀(St:Stb)(W:Nat→Prop)(w:World)(G:Gh)(vs:Array Value),vs.size=us.length→
  (∀(i:Nat) u,us[i]? =iz u→vs[i]? =iz (mkV G i u [])∧R St G w i u [])→Mem ⟨St,W,w,0⟩ G w→
  Calls P f vs w fun e w'=> ∃(S':Stb)(G':Gh)(nd:List (Nat×List Nat×T)),zDQ St S' W w.heap.size∧e=.returned (zKX G' nd)∧Mem ⟨S',W,w,0⟩ G' w'∧nd.map (·.2.2)=res∧
   (∀x∈nd,R S' G' w' x.1 x.2.2 x.2.1∧us.length≤x.1)∧(nd.map (·.1)).Nodup∧
   ∀i u',(i,u')∈rws→R S' G' w' i u' []∧ ∃u,us[i]? =iz u∧mkV G' i u' []=mkV G i u []
mutual
def wY:T→Bool
 |.ro _=>iC
 |.sl _ xs|.agg xs|.tup xs=>uG xs
 |.ptr t=>wY t
 |.any|.lit _|.same _ _|.addr _ _|.sub _ _ _ _ _=>iB
def uG:List T→Bool
 | []=>iB
 |x::xs=>wY x&&uG xs
end
section
variable {St St':Stb}{G:Gh}{w:World}{s:Nat}
mutual
theorem zPW:(t:T)→ ∀(p:List Nat),wY t=iB→R St G w s t p→R St' G w s t p
 |.ro _,_,h,_=>by simp[wY]at h
 |.sl k xs,p,h,hr=>by
  simp only[wY,R]at h hr ⊢
  rcases hr with hr|⟨b,o0,cap,cs,e,h1,h2,h3,h4,h5,h6,h7,h8⟩
  ·exact .inl hr
  ·exact .inr ⟨b,o0,cap,cs,e,h1,h2,h3,h4,h5,h6,h7,zX4 xs p 0 b o0 k h h8⟩
 |.agg xs,p,h,hr|.tup xs,p,h,hr=>by simp only[wY,R]at h hr ⊢;exact zX5 xs p 0 h hr
 |.ptr t,p,h,hr=>by
  simp only[wY,R]at h hr ⊢
  obtain⟨b,cs,e,h1,h2,h3,h6,h4,h5⟩:=hr;exact⟨b,cs,e,h1,h2,h3,h6,h4,zPW t _ h h5⟩
 |.any,_,_,hr|.lit _,_,_,hr|.same _ _,_,_,hr|.addr _ _,_,_,hr|.sub _ _ _ _ _,_,_,hr=>by first|(simp only[R];done)|simpa only[R]using hr
theorem zX4:(xs:List T)→ ∀(p:List Nat)(i b o k:Nat),uG xs=iB→RL St G w s xs p i b o k→RL St' G w s xs p i b o k
 | [],_,_,_,_,_,_,_=>by simp only[RL]
 |x::xs,p,i,b,o,k,h,hr=>by
  simp only[uG,J3,RL]at h hr ⊢
  exact⟨hr.1,zPW x _ h.1 hr.2.1,zX4 xs p (i+1) b _ k h.2 hr.2.2⟩
theorem zX5:(xs:List T)→ ∀(p:List Nat)(i:Nat),uG xs=iB→RF St G w s xs p i→RF St' G w s xs p i
 | [],_,_,_,_=>by simp only[RF]
 |x::xs,p,i,h,hr=>by
  simp only[uG,J3,RF]at h hr ⊢
  exact⟨zPW x _ h.1 hr.1,zX5 xs p (i+1) h.2 hr.2⟩
end
end
section
variable {St St':Stb} (h:∀b x,St b=iz x→St' b=iz x)
 include h
mutual
theorem uX:(t:T)→ ∀(cs:Array Value)(o:Nat),RoC St t cs o→RoC St' t cs o
 |.sl k xs,cs,o,hr=>by
  simp only[RoC]at hr ⊢
  obtain⟨a,c,h1,h2,h3,h4⟩:=hr;refine⟨a,c,h1,h2,h3,fun gf=>?_⟩;obtain⟨b,o',cs',e,fr,h5,h6,h7⟩:=h4 gf;exact⟨b,o',cs',e,fr,h5,h b _ h6,zKY xs cs' o' k h7⟩
 |.agg xs,cs,o,hr=>by simp only[RoC]at hr ⊢;exact zKZ xs cs o hr
 |.ptr t,cs,o,hr=>by
  simp only[RoC]at hr ⊢
  obtain⟨b,o',cs',e,fr,h5,h6,h7⟩:=hr;exact⟨b,o',cs',e,fr,h5,h b _ h6,uX t cs' o' h7⟩
 |.ro u,cs,o,hr=>by
  simp only[RoC]at hr ⊢
  obtain⟨f,vs,h1,h2,h3⟩:=hr;exact⟨f,vs,h1,h2,uX u _ _ h3⟩
 |.any,_,_,hr|.lit _,_,_,hr|.same _ _,_,_,hr|.addr _ _,_,_,hr|.sub _ _ _ _ _,_,_,hr|.tup _,_,_,hr=>by first|(simp only[RoC]at hr;done)|simpa only[RoC]using hr
theorem zKY:(xs:List T)→ ∀(cs:Array Value)(o k:Nat),RoL St xs cs o k→RoL St' xs cs o k
 | [],_,_,_,_=>by have _:=h;simp only[RoL]
 |x::xs,cs,o,k,hr=>by simp only[RoL]at hr ⊢;exact⟨uX x cs o hr.1,zKY xs cs _ k hr.2⟩
theorem zKZ:(xs:List T)→ ∀(cs:Array Value)(o:Nat),RoF St xs cs o→RoF St' xs cs o
 | [],_,_,_=>by have _:=h;simp only[RoF]
 |x::xs,cs,o,hr=>by simp only[RoF]at hr ⊢;exact⟨uX x cs o hr.1,zKZ xs cs _ hr.2⟩
end
end
section
variable {St St':Stb}{G:Gh}{w:World}{s:Nat} (h:∀b x,St b=iz x→St' b=iz x)
 include h
mutual
theorem zJY:(t:T)→ ∀(p:List Nat),R St G w s t p→R St' G w s t p
 |.ro t,_,hr=>by simp only[R]at hr ⊢;exact uX h t _ _ hr
 |.sl k xs,p,hr=>by
  simp only[R]at hr ⊢
  rcases hr with hr|⟨b,o0,cap,cs,e,h1,h2,h3,h4,h5,h6,h7,h8⟩
  ·exact .inl hr
  ·exact .inr ⟨b,o0,cap,cs,e,h1,h2,h3,h4,h5,h6,h7,zOC xs p 0 b o0 k h8⟩
 |.agg xs,p,hr|.tup xs,p,hr=>by simp only[R]at hr ⊢;exact zOD xs p 0 hr
 |.ptr t,p,hr=>by
  simp only[R]at hr ⊢
  obtain⟨b,cs,e,h1,h2,h3,h6,h4,h5⟩:=hr;exact⟨b,cs,e,h1,h2,h3,h6,h4,zJY t _ h5⟩
 |.any,_,hr|.lit _,_,hr|.same _ _,_,hr|.addr _ _,_,hr|.sub _ _ _ _ _,_,hr=>by first|(simp only[R];done)|simpa only[R]using hr
theorem zOC:(xs:List T)→ ∀(p:List Nat)(i b o k:Nat),RL St G w s xs p i b o k→RL St' G w s xs p i b o k
 | [],_,_,_,_,_,_=>by have _:=h;simp only[RL]
 |x::xs,p,i,b,o,k,hr=>by simp only[RL]at hr ⊢;exact⟨hr.1,zJY x _ hr.2.1,zOC xs p (i+1) b _ k hr.2.2⟩
theorem zOD:(xs:List T)→ ∀(p:List Nat)(i:Nat),RF St G w s xs p i→RF St' G w s xs p i
 | [],_,_,_=>by have _:=h;simp only[RF]
 |x::xs,p,i,hr=>by simp only[RF]at hr ⊢;exact⟨zJY x _ hr.1,zOD xs p (i+1) hr.2⟩
end
end
mutual
def strip:T→T
 |.lit v=>.lit v
 |.ro u=>if u.single then u else .any
 |.sl k xs=>.sl k (wO xs)
 |.agg xs=>.agg (wO xs)
 |.ptr t=>.ptr (strip t)
 |.any|.same _ _|.addr _ _|.sub _ _ _ _ _|.tup _=>.any
def wO:List T→List T
 | []=>[]
 |x::xs=>strip x::wO xs
end
theorem zAt:(xs:List T)→(wO xs).length=xs.length
 | []=>rfl
 |x::xs=>by simp[wO,zAt xs]
mutual
theorem zEp:(t:T)→(strip t).size=t.size
 |.agg xs=>by simp only[strip,T.size];exact zGn xs
 |.ro u=>by
  simp only[strip];split
  ·rename_i h;cases u<;>simp[T.single]at h<;>simp[T.size]
  ·simp[T.size]
 |.lit _|.sl _ _|.ptr _|.any|.same _ _|.addr _ _|.sub _ _ _ _ _|.tup _=>by simp[strip,T.size]
theorem zGn:(xs:List T)→T.sizes (wO xs)=T.sizes xs
 | []=>rfl
 |x::xs=>by simp only[wO,T.sizes,zEp x,zGn xs]
end
theorem jP{St:Stb}{u:T}(hu:u.single=iB){v:Value}{cs:Array Value}{o:Nat}(h:RoC St u #[v] 0)(hc:cs[o]? =iz v):RoC St u cs o:=by
 cases u<;>simp[T.single]at hu<;>simp only[RoC]at h ⊢ <;>simp at h<;>first
  |exact⟨v,hc,h⟩
  |(obtain⟨rfl,h2⟩:=h;exact⟨hc,h2⟩)
  |(obtain⟨f,vs,rfl,h2⟩:=h;exact⟨f,vs,hc,h2⟩)
  |(obtain⟨a,c,rfl,h2⟩:=h;exact⟨a,c,hc,by simpa using h2⟩)
  |(obtain⟨b,o',rfl,h2⟩:=h;obtain⟨cs',⟨e,f1,f2,h3⟩,h4⟩:=h2;exact⟨b,o',cs',e,(f1,f2),hc,h3,h4⟩)
section
variable {St Sc:Stb}{G:Gh}{w:World}{s:Nat} (gn:∀s p,(G.hd s p).oneCell'=iB) (ek:∀b x,St b=iz x→Sc b=iz x) (ep:∀b,(∃y,G.ow b=iz (s,y))→Sc b=w.heap[b]?)
 include gn ek ep
mutual
theorem frz:(t:T)→ ∀(p:List Nat)(b o:Nat)(cs:Array Value)(e:TypeId)(fr:Nat×Nat),w.heap[b]? =iz (.cells cs e fr)→Loc G w s t p b o→R St G w s t p→RoC Sc (strip t) cs o
 |.agg xs,p,b,o,cs,e,fr,hb,hl,hr=>by simp only[Loc,R,strip,RoC]at hl hr ⊢;exact yAr xs p 0 b o cs e fr hb hl.2 hr
 |.tup _,_,_,_,_,_,_,_,hl,_=>by have _:=ep;simp only[Loc]at hl
 |.any,p,b,o,cs,e,fr,hb,hl,hr|.same _ _,p,b,o,cs,e,fr,hb,hl,hr|.addr _ _,p,b,o,cs,e,fr,hb,hl,hr|.sub _ _ _ _ _,p,b,o,cs,e,fr,hb,hl,hr=>by have h1:=(wS rfl hl).2.2;simp only[yJ,World.cell?,hb]at h1;simp only[strip,RoC];exact⟨_,by simpa using h1,gn s p⟩
 |.lit v,p,b,o,cs,e,fr,hb,hl,hr=>by
  have h1:=(wS rfl hl).2.2;simp only[yJ,World.cell?,hb]at h1;simp only[strip,RoC,R]at hr ⊢
  exact⟨by rw[←hr];simpa using h1,by rw[←hr];exact gn s p⟩
 |.ro u,p,b,o,cs,e,fr,hb,hl,hr=>by
  have h1:=(wS rfl hl).2.2;simp only[yJ,World.cell?,hb]at h1;simp only[strip,R]at hr ⊢
  split
  ·rename_i hu
   exact jP hu (uX ek u _ _ hr) (by simpa using h1)
  ·simp only[RoC];exact⟨_,by simpa using h1,gn s p⟩
 |.sl k xs,p,b,o,cs,e,fr,hb,hl,hr=>by have h1:=(wS rfl hl).2.2;simp only[yJ,World.cell?,hb]at h1;exact jP rfl (zLa (.sl k xs) p rfl hr) (by simpa using h1)
 |.ptr t,p,b,o,cs,e,fr,hb,hl,hr=>by have h1:=(wS rfl hl).2.2;simp only[yJ,World.cell?,hb]at h1;exact jP rfl (zLa (.ptr t) p rfl hr) (by simpa using h1)
theorem yAr:(xs:List T)→ ∀(p:List Nat)(j b o:Nat)(cs:Array Value)(e:TypeId)(fr:Nat×Nat),w.heap[b]? =iz (.cells cs e fr)→vD G w s xs p j b o→RF St G w s xs p j→RoF Sc (wO xs) cs o
 | [],_,_,_,_,_,_,_,_,_,_=>by have _:=gn;have _:=ek;have _:=ep;simp only[wO,RoF]
 |x::xs,p,j,b,o,cs,e,fr,hb,hl,hr=>by
  simp only[vD,RF,wO,RoF]at hl hr ⊢
  exact⟨frz x _ b o cs e fr hb hl.1 hr.1,by rw[zEp];exact yAr xs p (j+1) b _ cs e fr hb hl.2 hr.2⟩
theorem yAs:(xs:List T)→ ∀(p:List Nat)(i b o k:Nat)(cs:Array Value)(e:TypeId)(fr:Nat×Nat),w.heap[b]? =iz (.cells cs e fr)→RL St G w s xs p i b o k→RoL Sc (wO xs) cs o k
 | [],_,_,_,_,_,_,_,_,_,_=>by have _:=gn;have _:=ek;have _:=ep;simp only[wO,RoL]
 |x::xs,p,i,b,o,k,cs,e,fr,hb,hr=>by
  simp only[RL,wO,RoL]at hr ⊢
  exact⟨frz x _ b o cs e fr hb hr.1.1 hr.2.1,yAs xs p (i+1) b _ k cs e fr hb hr.2.2⟩
theorem zLa:(t:T)→ ∀(p:List Nat),t.single=iB→R St G w s t p→RoC Sc (strip t) #[G.hd s p] 0
 |.agg _,_,h,_|.tup _,_,h,_=>by simp[T.single]at h
 |.any,p,_,_|.same _ _,p,_,_|.addr _ _,p,_,_|.sub _ _ _ _ _,p,_,_=>by simp only[strip,RoC];exact⟨_,by simp,gn s p⟩
 |.lit v,p,_,hr=>by simp only[strip,RoC,R]at hr ⊢;exact⟨by simp[hr],by rw[←hr];exact gn s p⟩
 |.ro u,p,_,hr=>by
  simp only[strip,R]at hr ⊢
  split
  ·exact uX ek u _ _ hr
  ·simp only[RoC];exact⟨_,by simp,gn s p⟩
 |.sl k xs,p,_,hr=>by
  simp only[strip,R,RoC]at hr ⊢
  rw[zAt];rcases hr with⟨rfl,a,h1⟩|⟨b,o0,cap,cs,e,h1,h2,h3,h4,h5,h6,h7,h8⟩
  ·exact⟨a,0,by simp[h1],by simp,by simp[maxLen],fun h=>by simp[wO]at h⟩
  ·exact⟨iz ⟨b,o0,iA⟩,cap,by simp[h1],h3,h4,fun _=>⟨b,o0,cs,e,(0,0),rfl,by rw[ep b ⟨_,h6⟩];exact h2,yAs xs p 0 b o0 k cs e (0,0) h2 h8⟩⟩
 |.ptr t,p,_,hr=>by
  simp only[strip,R,RoC]at hr ⊢
  obtain⟨b,cs,e,h1,h2,h3,h6,h4,h5⟩:=hr;exact⟨b,0,cs,e,(0,0),by simp[h1],by rw[ep b ⟨_,h6⟩];exact h2,frz t _ b 0 cs e (0,0) h2 h4 h5⟩
end
end
end Go.Ab

namespace Go.Ab
open Go
mutual
def clo(E:Env):T→T
 |.agg ts=>.agg (zBU E ts)
 |.lit v=>.lit v
 |.ro u=>.ro u
 |.same r q=>match qP E 4 r q with
  |some (_,_,.ro u)=>.ro u
  |some (_,_,.lit v)=>.lit v
  |some (_,_,t)=>if t.single then .ro (strip t)else .any
  |none=>.any
 |.sub r q k lo hi=>match qP E 4 r q with
  |some (_,_,.sl k' xs)=>if k=k'∧lo≤hi∧hi≤xs.length then .ro (.sl k (((wO xs).drop lo).take (hi-lo)))else .any
  |_=>.any
 |.sl k xs=>.ro (strip (.sl k xs))
 |.ptr t=>.ro (strip (.ptr t))
 |.any|.addr _ _|.tup _=>.any
def zBU(E:Env):List T→List T
 | []=>[]
 |x::xs=>clo E x::zBU E xs
end
mutual
def sX(E:Env)(rs:List Nat)(s:Nat):T→Bool
 |.agg ts=>zBj E rs s ts
 |.same r q|.sub r q _ _ _=>match qP E 4 r q with
  |some (r',_,_)=> !rs.contains r'
  |none=>iB
 |.sl _ _|.ptr _=> !rs.contains s
 |.lit _|.ro _|.any|.addr _ _=>iB
 |.tup _=>iC
def zBj(E:Env)(rs:List Nat)(s:Nat):List T→Bool
 | []=>iB
 |x::xs=>sX E rs s x&&zBj E rs s xs
end
theorem zVl{St:Stb}{k:Nat}{xs:List T}{v:Value}{lo hi:Nat}(h:RoC St (.sl k xs) #[v] 0)(h1:lo≤hi)(h2:hi≤xs.length):RoC St (.sl k ((xs.drop lo).take (hi-lo))) #[zBf v k lo hi] 0:=by
 simp only[RoC]at h ⊢
 obtain⟨a',c,g4,g5,g6,g7⟩:=h;have hv:v=.slice a' xs.length c:=by grind
 subst hv;have gm:((xs.drop lo).take (hi-lo)).length=hi-lo:=by simp;omega
 refine⟨if c=lo then a' else a'.map (·.add (lo*k)),c-lo,by grind[zBf],by omega,by omega,?_⟩;intro gf;have eF:xs≠[]:=by grind
 obtain⟨b,o',cs',e',fr,rfl,h3,h4⟩:=g7 eF;have gD:c≠lo:=by grind
 grind[vW,zHd,zHc]
section
variable {Γ:Ctx}{E:Env}{G Gc:Gh}{a:Act}{w:World}{Sc:Stb}{rs:List Nat}{s i:Nat} (gc:Rep Γ E G a.tmps w) (ek:∀b x,Γ.St b=iz x→Sc b=iz x) (ep:∀r,r∉rs→ ∀b,(∃y,G.ow b=iz (r,y))→Sc b=w.heap[b]?) (gL:∀z,Gc.hd i z=G.hd s z)
 include gc ek ep gL
mutual
theorem zX6:(t:T)→ ∀(p:List Nat),sX E rs s t=iB→R Γ.St G w s t p→R Sc Gc w i (clo E t) p
 |.agg ts,p,h,hr=>by simp only[sX,clo,R]at h hr ⊢;exact zR0 ts p 0 h hr
 |.tup _,_,h,_=>by grind[sX]
 |.lit v,p,_,hr=>by simp only[clo,R]at hr ⊢;grind
 |.ro u,p,_,hr=>by simp only[clo,R]at hr ⊢;grind[uX]
 |.any,_,_,_|.addr _ _,_,_,_=>by simp only[clo,R]
 |.sl k xs,p,h,hr=>by
  simp only[sX,G4,Lr,decide_eq_false_iff_not]at h;have:=zLa (fun s p=>gc.mem.one s p) ek (ep s h) (.sl k xs) p rfl hr;simp only[clo,R]
  grind
 |.ptr t,p,h,hr=>by
  simp only[sX,G4,Lr,decide_eq_false_iff_not]at h;have:=zLa (fun s p=>gc.mem.one s p) ek (ep s h) (.ptr t) p rfl hr;simp only[clo,R]
  grind
 |.same r q,p,h,hr=>by
  simp only[sX,clo,R]at h hr ⊢
  cases hf:qP E 4 r q with
  |none=>simp only[R]
  |some x=>
   obtain⟨r',q',t⟩:=x;simp only[hf,G4,Lr,decide_eq_false_iff_not]at h;obtain⟨h1,h2,_⟩:=zD2 gc 4 r q r' q' t hf;have h3:Gc.hd i p=G.hd r' q':=by grind
   by_cases hs:t.single=iB
   ·have h4:=zLa (fun s p=>gc.mem.one s p) ek (ep r' h) t q' hs h1
    cases t with
    |ro u=>simp only[R]at h1 ⊢;grind[uX]
    |lit v=>simp only[R]at h1 ⊢;grind
    |agg _=>grind[T.single]
    |tup _=>grind[T.single]
    |_=>simp only[hs,if_true,R];grind
   ·cases t<;>simp[T.single]at hs<;>simp[T.single,R]
 |.sub r q k lo hi,p,h,hr=>by
  simp only[sX,clo,R]at h hr ⊢
  cases hf:qP E 4 r q with
  |none=>simp only[R]
  |some x=>
   obtain⟨r',q',t⟩:=x;simp only[hf,G4,Lr,decide_eq_false_iff_not]at h;obtain⟨h1,h2,_⟩:=zD2 gc 4 r q r' q' t hf;cases t with
   |sl k' xs=>
    simp only[];split
    ·rename_i hc
     obtain⟨rfl,fK,fm⟩:=hc;have h4:=zLa (fun s p=>gc.mem.one s p) ek (ep r' h) (.sl k xs) q' rfl h1;simp only[strip]at h4;simp only[R]
     grind[zVl,zAt]
    ·simp only[R]
   |_=>simp only[R]
theorem zR0:(ts:List T)→ ∀(p:List Nat)(j:Nat),zBj E rs s ts=iB→RF Γ.St G w s ts p j→RF Sc Gc w i (zBU E ts) p j
 | [],_,_,_,_=>by have _:=gc;have _:=ek;have _:=ep;have _:=gL;simp only[zBU,RF]
 |x::xs,p,j,h,hr=>by
  simp only[zBj,J3,zBU,RF]at h hr ⊢
  exact⟨zX6 x _ h.1 hr.1,zR0 xs p (j+1) h.2 hr.2⟩
end
end
section
variable {E:Env}{G Gc:Gh}{rs:List Nat}{s i:Nat}
theorem zHs(t:T)(h:t.single=iB):(clo E t).single=iB:=by cases t<;>simp[T.single]at h<;>simp only[clo]<;>first|rfl|(split<;>first|rfl|(split<;>rfl))
mutual
theorem zR1(gL:∀z,Gc.hd i z=G.hd s z):(t:T)→ ∀(p:List Nat),sX E rs s t=iB→vals Gc i (clo E t) p=vals G s t p
 |.agg ts,p,h=>by simp only[sX,clo,vals]at h ⊢;exact zF7 gL ts p 0 h
 |.tup _,_,h=>by grind[sX]
 |.lit _,p,_|.ro _,p,_|.any,p,_|.addr _ _,p,_|.sl _ _,p,_|.ptr _,p,_|.same _ _,p,_|.sub _ _ _ _ _,p,_=>by
  have h1:∀u:T,u.single=iB→vals Gc i u p=[G.hd s p]:=fun u hu=>by cases u<;>simp[T.single]at hu<;>simp[vals,gL]
  rw[h1 _ (zHs _ rfl)];simp[vals]
theorem zF7(gL:∀z,Gc.hd i z=G.hd s z):(ts:List T)→ ∀(p:List Nat)(j:Nat),zBj E rs s ts=iB→yF Gc i (zBU E ts) p j=yF G s ts p j
 | [],_,_,_=>by rfl
 |x::xs,p,j,h=>by simp only[zBj,J3]at h;simp only[zBU,yF];rw[zR1 gL x _ h.1,zF7 gL xs p _ h.2]
end
theorem zJZ(gL:∀z,Gc.hd i z=G.hd s z)(t:T)(h:sX E rs s t=iB):mkV Gc i (clo E t) []=mkV G s t []:=by
 cases t with
 |agg ts=>grind[sX,clo,mkV,zF7]
 |tup _=>grind[sX]
 |_=>rw[xJ (zHs _ rfl),xJ rfl,gL]
end
end Go.Ab
