/- x -/
import Derived.Orders
import Derived.Laws.AppendOwn
import Derived.Laws.MakeOwn
import Derived.Great.BuildSlice
import Derived.Laws.Tables
open Bool renaming and_eq_true→J1,false_eq_true→Ln,not_eq_true'→Hc,false_and→Q4
open List renaming replicate→J2,getElem?_eq_some_iff→J9,append_nil→Ja,mem_map→Jb,getElem?_append_right→Jc,append_assoc→Jd,map_cons→Jh,length_append→Ji,mem_cons→Jj,getElem?_map→Jr,eq_nil_of_length_eq_zero→Js,all_eq_true→Jy,length_cons→K5,getElem?_append→K8,nil_append→K9,mem_append→Ka,reverse_reverse→Kf,length_take→Kj,nodup_cons→Kk,set_cons_succ→Kl,replicate_succ→Km,set_cons_zero→Kn,take_succ_cons→Kw,mem_of_getElem?→Ky,ext_getElem?→Kz,getElem?_append_left→L1,mem_range→L3,getElem?_drop→L6,cons_append→L7,flatMap_cons→L8,contains_eq_mem→Ld,reverse_nil→He,drop_eq_getElem_cons→Hh,length_replicate→Hl,map_take→Hw,map_nil→G4,length_nil→G5,reverse_cons→G8,length_set→G9,getElem?_take_of_lt→Gk,reverse_append→Ud,take_append→Uv,isEmpty_iff→Uw,getElem?_cons_succ→Uy,flatMap_append→Uz,cons→Q0,size_toArray→Q5
open Nat renaming zero_add→J6,le_refl→Jf,lt_or_ge→Jt,succ_mul→La,mul_le_mul_right→Le,add_assoc→Lf,le_trans→Lh,min_eq_left→Hb,add_mul→Hj,mul_le_mul→Hv,add_zero→Gx,lt_of_lt_of_le→Un
open Array renaming getElem?_setIfInBounds→J8,length_toList→K0,getD_eq_getD_getElem?→K1,getElem?_toList→Kb,getElem?_eq_some_iff→L9,range→Qa,ext'→Qg
open Int renaming toNat_natCast→Jl,natCast_mul→Q3
open Option renaming isSome_none→U6,map_none→Um
open Prod renaming mk→Q2
open Option renaming some→VU,none→VV
open Bool renaming true→VW,false→VX
theorem VY{p:Prop}[h:Decidable p](a:¬p):decide p=false:=decide_eq_false a
theorem VZ{p:Prop}[h:Decidable p](a:p):decide p=true:=decide_eq_true a
namespace Go.Ab
open Go
inductive T where
 |any
 |lit (v:Value)
 |ro (t:T)
 |same (r:Nat) (p:List Nat)
 |addr (r:Nat) (p:List Nat)
 |sub (r:Nat) (p:List Nat) (k lo hi:Nat)
 |sl (k:Nat) (xs:List T)
 |agg (xs:List T)
 |ptr (t:T)
 |tup (xs:List T)
 |mp (ks:List Value) (xs:List T)
 deriving Inhabited
abbrev Stb:=Nat→Option Obj
mutual
def T.size:T→Nat
 |.agg xs=>T.sizes xs
 |_=>1
def T.sizes:List T→Nat
 | []=>0
 |x::xs=>x.size+T.sizes xs
end
mutual
def RoC(St:Stb):T→Array Value→Nat→Prop
 |.any,cs,o=> ∃v,cs[o]? =VU v∧v.oneCell'=VW
 |.lit v,cs,o=>cs[o]? =VU v∧v.oneCell'=VW
 |.ro u,cs,o=> ∃f vs,cs[o]? =VU (.func (.func f) #[] vs)∧vs.size+1=u.size∧RoC St u (#[.func (.func f) #[] #[]]++vs) 0
 |.sl k xs,cs,o=> ∃a c,cs[o]? =VU (.slice a xs.length c)∧xs.length≤c∧c≤maxLen∧
   (xs≠[]→ ∃b o' cs' e fr,a=VU ⟨b,o',VV⟩∧St b=VU (.cells cs' e fr)∧RoL St xs cs' o' k)
 |.agg xs,cs,o=>RoF St xs cs o
 |.ptr t,cs,o=> ∃b o' cs' e fr,cs[o]? =VU (.pointer (VU ⟨b,o',VV⟩))∧St b=VU (.cells cs' e fr)∧RoC St t cs' o'
 |.same _ _,_,_=>False
 |.addr _ _,_,_=>False
 |.sub _ _ _ _ _,_,_=>False
 |.tup _,_,_=>False
 |.mp _ _,_,_=>False
def RoL(St:Stb):List T→Array Value→Nat→Nat→Prop
 | [],_,_,_=>True
 |x::xs,cs,o,k=>RoC St x cs o∧RoL St xs cs (o+k) k
def RoF(St:Stb):List T→Array Value→Nat→Prop
 | [],_,_=>True
 |x::xs,cs,o=>RoC St x cs o∧RoF St xs cs (o+x.size)
end
def RoM(St:Stb):List Value→List T→List MapEntry→Prop
 | [],[],[]=>True
 |k::ks,x::xs,e::es=>e.key=k∧RoC St x #[e.val] 0∧RoM St ks xs es
 |_,_,_=>False
structure Gh where
 hd:Nat→List Nat→Value
 ad:Nat→List Nat→Addr
 lb:Nat→Nat→Option (Bool×Nat×List Nat)
 ow:Nat→Option (Nat×List Nat)
def yX(w:World)(b o:Nat):Option Value:=w.cell? ⟨b,o,VV⟩
mutual
def Loc(G:Gh)(w:World)(s:Nat):T→List Nat→Nat→Nat→Prop
 |.agg xs,p,b,o=>G.ad s p=⟨b,o,VV⟩∧uN G w s xs p 0 b o
 |.tup _,_,_,_=>False
 |.any,p,b,o|.lit _,p,b,o|.ro _,p,b,o|.same _ _,p,b,o|.addr _ _,p,b,o|.sub _ _ _ _ _,p,b,o|.sl _ _,p,b,o|.ptr _,p,b,o|.mp _ _,p,b,o=>
  G.ad s p=⟨b,o,VV⟩∧G.lb b o=VU (VX,s,p)∧yX w b o=VU (G.hd s p)
def uN(G:Gh)(w:World)(s:Nat):List T→List Nat→Nat→Nat→Nat→Prop
 | [],_,_,_,_=>True
 |x::xs,p,j,b,o=>Loc G w s x (j::p) b o∧uN G w s xs p (j+1) b (o+x.size)
end
def zB6(v:Value)(k lo hi:Nat):Value:=
 match v with
 |.slice a _ c=>.slice (if c=lo then a else a.map (·.add (lo*k))) (hi-lo) (c-lo)
 |v=>v
mutual
def R(St:Stb)(G:Gh)(w:World)(s:Nat):T→List Nat→Prop
 |.any,_=>True
 |.lit v,p=>G.hd s p=v
 |.ro t,p=>RoC St t #[G.hd s p] 0
 |.same r q,p=>G.hd s p=G.hd r q
 |.addr r q,p=>G.hd s p=.pointer (VU (G.ad r q))
 |.sub r q k lo hi,p=>G.hd s p=zB6 (G.hd r q) k lo hi
 |.sl k xs,p=>(xs=[]∧ ∃a,G.hd s p=.slice a 0 0)∨ ∃b o0 cap cs e,G.hd s p=.slice (VU ⟨b,o0,VV⟩) xs.length cap∧
   w.heap[b]? =VU (.cells cs e (0,0))∧xs.length≤cap∧cap≤maxLen∧o0+cap*k≤cs.size∧G.ow b=VU (s,p)∧
   (∀o,o0+xs.length*k≤o→o<o0+cap*k→G.lb b o=VU (VW,s,p))∧RL St G w s xs p 0 b o0 k
 |.agg xs,p=>RF St G w s xs p 0
 |.ptr t,p=> ∃b cs e,G.hd s p=.pointer (VU ⟨b,0,VV⟩)∧w.heap[b]? =VU (.cells cs e (0,0))∧cs.size=t.size∧G.ow b=VU (s,p)∧
   Loc G w s t (0::p) b 0∧R St G w s t (0::p)
 |.tup xs,p=>RF St G w s xs p 0
 |.mp ks xs,p=> ∃b ms c,G.hd s p=.map (VU b)∧w.heap[b]? =VU (.map ms c)∧G.ow b=VU (s,p)∧RoM St ks xs ms.toList
def RL(St:Stb)(G:Gh)(w:World)(s:Nat):List T→List Nat→Nat→Nat→Nat→Nat→Prop
 | [],_,_,_,_,_=>True
 |x::xs,p,i,b,o,k=>(Loc G w s x (i::p) b o∧x.size=k)∧R St G w s x (i::p)∧RL St G w s xs p (i+1) b (o+k) k
def RF(St:Stb)(G:Gh)(w:World)(s:Nat):List T→List Nat→Nat→Prop
 | [],_,_=>True
 |x::xs,p,j=>R St G w s x (j::p)∧RF St G w s xs p (j+1)
end
mutual
def xE(φ:Nat→List Nat→Prop):T→Prop
 |.same r p|.addr r p|.sub r p _ _ _=>φ r p
 |.sl _ xs|.agg xs|.tup xs=>xZ φ xs
 |.ptr t=>xE φ t
 |.any|.lit _|.ro _|.mp _ _=>True
def xZ(φ:Nat→List Nat→Prop):List T→Prop
 | []=>True
 |x::xs=>xE φ x∧xZ φ xs
end
mutual
theorem xE.mono{φ ψ:Nat→List Nat→Prop}(h:∀r p,φ r p→ψ r p):(t:T)→xE φ t→xE ψ t
 |.same _ _,ht|.addr _ _,ht|.sub _ _ _ _ _,ht=>h _ _ ht
 |.sl _ xs,ht|.agg xs,ht|.tup xs,ht=>by simp only[xE]at ht ⊢;exact xZ.mono h xs ht
 |.ptr t,ht=>by simp only[xE]at ht ⊢;exact xE.mono h t ht
 |.any,_|.lit _,_|.ro _,_|.mp _ _,_=>by simp[xE]
theorem xZ.mono{φ ψ:Nat→List Nat→Prop}(h:∀r p,φ r p→ψ r p):(xs:List T)→xZ φ xs→xZ ψ xs
 | [],_=>trivial
 |x::xs,hx=>⟨xE.mono h x hx.1,xZ.mono h xs hx.2⟩
end
mutual
theorem xE.triv{φ:Nat→List Nat→Prop}(h:∀r p,φ r p):(t:T)→xE φ t
 |.same _ _|.addr _ _|.sub _ _ _ _ _=>by simp only[xE];exact h _ _
 |.sl _ xs|.agg xs|.tup xs=>by simp only[xE];exact xZ.triv h xs
 |.ptr t=>by simp only[xE];exact xE.triv h t
 |.any|.lit _|.ro _|.mp _ _=>by simp only[xE]
theorem xZ.triv{φ:Nat→List Nat→Prop}(h:∀r p,φ r p):(xs:List T)→xZ φ xs
 | []=>by simp only[xZ]
 |x::xs=>by simp only[xZ];exact⟨xE.triv h x,xZ.triv h xs⟩
end
abbrev zW(t:T):Prop:=xE (fun _ _=>False) t
abbrev xH(xs:List T):Prop:=xZ (fun _ _=>False) xs
def Blk(w w':World):Prop:=∀(b:Nat) cs e,w.heap[b]? =VU (.cells cs e (0,0))→ ∃cs',w'.heap[b]? =VU (.cells cs' e (0,0))∧cs'.size=cs.size
structure MovesE (G:Gh) (w:World) (G':Gh) (w':World) (s:Nat) (p:List Nat) (s':Nat) (p':List Nat):Prop where
 hd:∀z,G'.hd s' (z++p')=G.hd s (z++p)
 ad:∀z,z≠[]→G'.ad s' (z++p')=G.ad s (z++p)
 lb:∀b o f z,z≠[]→(∃y,G.ow b=VU (s,y))→G.lb b o=VU (f,s,z++p)→G'.lb b o=VU (f,s',z++p')∧yX w' b o=yX w b o
 ow:∀b z,z≠[]→G.ow b=VU (s,z++p)→G'.ow b=VU (s',z++p')
 blk:Blk w w'
 mp:∀b z ms c,G.ow b=VU (s,z++p)→w.heap[b]? =VU (.map ms c)→w'.heap[b]? =VU (.map ms c)
structure zHC (G:Gh) (w:World) (G':Gh) (w':World) (s:Nat) (p:List Nat) (s':Nat) (p':List Nat):Prop extends MovesE G w G' w' s p s' p' where
 sp:∀b o,(∃y,G.ow b=VU (s,y))→G.lb b o=VU (VW,s,p)→G'.lb b o=VU (VW,s',p')∧yX w' b o=yX w b o
 ow0:∀b,G.ow b=VU (s,p)→G'.ow b=VU (s',p')
def zAO(G G':Gh)(r:Nat)(p:List Nat):Prop:=G'.hd r p=G.hd r p∧G'.ad r p=G.ad r p
section
variable {St:Stb}{G:Gh}{w:World}{G':Gh}{w':World}{s:Nat}{p:List Nat}{s':Nat}{p':List Nat}
mutual
theorem zEi(hm:MovesE G w G' w' s p s' p'):(t:T)→ ∀(z:List Nat)(b o:Nat),z≠[]→(∃y,G.ow b=VU (s,y))→Loc G w s t (z++p) b o→Loc G' w' s' t (z++p') b o
 |.agg xs,z,b,o,hz,gS,h=>by
  simp only[Loc]at h ⊢
  exact⟨(hm.ad z hz).trans h.1,zHD hm xs z 0 b o gS h.2⟩
 |.any,z,b,o,hz,gS,h|.lit _,z,b,o,hz,gS,h|.ro _,z,b,o,hz,gS,h|.same _ _,z,b,o,hz,gS,h|.addr _ _,z,b,o,hz,gS,h|.sub _ _ _ _ _,z,b,o,hz,gS,h|.sl _ _,z,b,o,hz,gS,h|.ptr _,z,b,o,hz,gS,h|.mp _ _,z,b,o,hz,gS,h=>by
  simp only[Loc]at h ⊢
  obtain⟨h1,h2,h3⟩:=h;have hl:=hm.lb b o VX z hz gS h2;exact⟨(hm.ad z hz).trans h1,hl.1,by rw[hl.2,h3,hm.hd]⟩
 |.tup _,_,_,_,_,_,h=>by simp only[Loc]at h
theorem zHD(hm:MovesE G w G' w' s p s' p'):(xs:List T)→ ∀(z:List Nat)(j b o:Nat),(∃y,G.ow b=VU (s,y))→uN G w s xs (z++p) j b o→uN G' w' s' xs (z++p') j b o
 | [],_,_,_,_,_,_=>by simp only[uN]
 |x::xs,z,j,b,o,gS,h=>by
  simp only[uN]at h ⊢
  exact⟨zEi hm x (j::z) b o (by simp) gS h.1,zHD hm xs z (j+1) b _ gS h.2⟩
end
mutual
theorem zEj(hm:MovesE G w G' w' s p s' p'):(t:T)→ ∀(z:List Nat),z≠[]→xE (zAO G G') t→R St G w s t (z++p)→R St G' w' s' t (z++p')
 |.any,_,_,_,_=>by simp only[R]
 |.lit _,z,_,_,h=>by simp only[R]at h ⊢;rw[hm.hd];exact h
 |.ro _,z,_,_,h=>by simp only[R]at h ⊢;rw[hm.hd];exact h
 |.same r q,z,_,hk,h=>by simp only[R]at h ⊢;rw[hm.hd,hk.1];exact h
 |.addr r q,z,_,hk,h=>by simp only[R]at h ⊢;rw[hm.hd,hk.2];exact h
 |.sub r q k lo hi,z,_,hk,h=>by simp only[R]at h ⊢;rw[hm.hd,hk.1];exact h
 |.agg xs,z,_,hk,h=>by simp only[R,xE]at h hk ⊢;exact zEk hm xs z 0 hk h
 |.tup xs,z,_,hk,h=>by simp only[R,xE]at h hk ⊢;exact zEk hm xs z 0 hk h
 |.sl k xs,z,hz,hk,h=>by
  simp only[R,xE]at h hk ⊢
  rw[hm.hd];rcases h with h|⟨b,o0,cap,cs,e,h1,h2,h3,h4,h5,h6,h7,h8⟩
  ·exact .inl h
  ·obtain⟨cs',fK,gv⟩:=hm.blk b cs e h2
   exact .inr ⟨b,o0,cap,cs',e,h1,fK,h3,h4,by omega,hm.ow b z hz h6,fun o ho cX=>(hm.lb b o VW z hz ⟨_,h6⟩ (h7 o ho (by omega))).1,zI9 hm xs z 0 b o0 k ⟨_,h6⟩ hk h8⟩
 |.ptr t,z,hz,hk,h=>by
  simp only[R,xE]at h hk ⊢
  rw[hm.hd];obtain⟨b,cs,e,h1,h2,h3,h6,h4,h5⟩:=h;obtain⟨cs',fK,gv⟩:=hm.blk b cs e h2;exact⟨b,cs',e,h1,fK,by omega,hm.ow b z hz h6,zEi hm t (0::z) b 0 (by simp) ⟨_,h6⟩ h4,zEj hm t (0::z) (by simp) hk h5⟩
 |.mp ks xs,z,hz,_,h=>by
  simp only[R]at h ⊢
  rw[hm.hd];obtain⟨b,ms,c,h1,h2,h3,h4⟩:=h;exact⟨b,ms,c,h1,hm.mp b z ms c h3 h2,hm.ow b z hz h3,h4⟩
theorem zI9(hm:MovesE G w G' w' s p s' p'):(xs:List T)→ ∀(z:List Nat)(i b o k:Nat),(∃y,G.ow b=VU (s,y))→xZ (zAO G G') xs→RL St G w s xs (z++p) i b o k→RL St G' w' s' xs (z++p') i b o k
 | [],_,_,_,_,_,_,_,_=>by simp only[RL]
 |x::xs,z,i,b,o,k,gS,hk,h=>by
  simp only[RL,xZ]at h hk ⊢
  exact⟨⟨zEi hm x (i::z) b o (by simp) gS h.1.1,h.1.2⟩,zEj hm x (i::z) (by simp) hk.1 h.2.1,zI9 hm xs z (i+1) b _ k gS hk.2 h.2.2⟩
theorem zEk(hm:MovesE G w G' w' s p s' p'):(xs:List T)→ ∀(z:List Nat)(j:Nat),xZ (zAO G G') xs→RF St G w s xs (z++p) j→RF St G' w' s' xs (z++p') j
 | [],_,_,_,_=>by simp only[RF]
 |x::xs,z,j,hk,h=>by
  simp only[RF,xZ]at h hk ⊢
  exact⟨zEj hm x (j::z) (by simp) hk.1 h.1,zEk hm xs z (j+1) hk.2 h.2⟩
end
theorem zAU(hm:zHC G w G' w' s p s' p')(t:T)(hk:xE (zAO G G') t)(h:R St G w s t p):R St G' w' s' t p':=by
 have hd0:G'.hd s' p'=G.hd s p:=by simpa using hm.hd []
 cases t with
 |any=>simp only[R]
 |lit _=>simp only[R]at h ⊢;rw[hd0];exact h
 |ro _=>simp only[R]at h ⊢;rw[hd0];exact h
 |same r q=>simp only[R]at h ⊢;rw[hd0,hk.1];exact h
 |addr r q=>simp only[R]at h ⊢;rw[hd0,hk.2];exact h
 |sub r q k lo hi=>simp only[R]at h ⊢;rw[hd0,hk.1];exact h
 |agg xs=>simp only[R,xE]at h hk ⊢;simpa using zEk hm.toMovesE xs [] 0 hk (by simpa using h)
 |tup xs=>simp only[R,xE]at h hk ⊢;simpa using zEk hm.toMovesE xs [] 0 hk (by simpa using h)
 |sl k xs=>
  simp only[R,xE]at h hk ⊢
  rw[hd0];rcases h with h|⟨b,o0,cap,cs,e,h1,h2,h3,h4,h5,h6,h7,h8⟩
  ·exact .inl h
  ·obtain⟨cs',fK,gv⟩:=hm.blk b cs e h2
   exact .inr ⟨b,o0,cap,cs',e,h1,fK,h3,h4,by omega,hm.ow0 b h6,fun o ho cX=>(hm.sp b o ⟨_,h6⟩ (h7 o ho (by omega))).1,by simpa using zI9 hm.toMovesE xs [] 0 b o0 k ⟨_,h6⟩ hk (by simpa using h8)⟩
 |ptr t=>
  simp only[R,xE]at h hk ⊢
  rw[hd0];obtain⟨b,cs,e,h1,h2,h3,h6,h4,h5⟩:=h;obtain⟨cs',fK,gv⟩:=hm.blk b cs e h2;exact⟨b,cs',e,h1,fK,by omega,hm.ow0 b h6,zEi hm.toMovesE t [0] b 0 (by simp) ⟨_,h6⟩ h4,zEj hm.toMovesE t [0] (by simp) hk h5⟩
 |mp ks xs=>
  simp only[R]at h ⊢
  rw[hd0];obtain⟨b,ms,c,h1,h2,h3,h4⟩:=h;exact⟨b,ms,c,h1,hm.mp b [] ms c (by simpa using h3) h2,hm.ow0 b h3,h4⟩
theorem zOn(hm:zHC G w G' w' s p s' p')(t:T)(z:List Nat)(hk:xE (zAO G G') t)(h:R St G w s t (z++p)):R St G' w' s' t (z++p'):=by
 cases z with
 |nil=>exact zAU hm t hk h
 |cons i z=>exact zEj hm.toMovesE t (i::z) (by simp) hk h
end
end Go.Ab

namespace Go.Ab
open Go
def T.get:T→List Nat→Option T
 |t,[]=>VU t
 |.sl _ xs,i::f|.agg xs,i::f|.tup xs,i::f=>match xs[i]? with
  |some x=>x.get f
  |none=>VV
 |.ptr t,i::f=>if i=0 then t.get f else VV
 |.any,_::_|.lit _,_::_|.ro _,_::_|.same _ _,_::_|.addr _ _,_::_|.sub _ _ _ _ _,_::_|.mp _ _,_::_=>VV
termination_by structural _ f=>f
def T.set:T→List Nat→T→T
 |_,[],u=>u
 |.sl k xs,i::f,u=>match xs[i]? with
  |some x=>.sl k (xs.set i (x.set f u))
  |none=>.sl k xs
 |.agg xs,i::f,u=>match xs[i]? with
  |some x=>.agg (xs.set i (x.set f u))
  |none=>.agg xs
 |.tup xs,i::f,u=>match xs[i]? with
  |some x=>.tup (xs.set i (x.set f u))
  |none=>.tup xs
 |.ptr t,i::f,u=>if i=0 then .ptr (t.set f u)else .ptr t
 |.any,_::_,_=>.any
 |.lit v,_::_,_=>.lit v
 |.ro t,_::_,_=>.ro t
 |.same r q,_::_,_=>.same r q
 |.addr r q,_::_,_=>.addr r q
 |.sub r q k lo hi,_::_,_=>.sub r q k lo hi
 |.mp ks xs,_::_,_=>.mp ks xs
termination_by structural _ f _=>f
def T.locd:T→List Nat→Bool
 |_,[]=>VX
 |.sl _ _,_::_|.ptr _,_::_=>VW
 |.agg xs,i::f|.tup xs,i::f=>match xs[i]? with
  |some x=>x.locd f
  |none=>VX
 |.any,_::_|.lit _,_::_|.ro _,_::_|.same _ _,_::_|.addr _ _,_::_|.sub _ _ _ _ _,_::_|.mp _ _,_::_=>VX
termination_by structural _ f=>f
abbrev rp(f p:List Nat):List Nat:=f.reverse++p
theorem zBr(i:Nat)(f p:List Nat):rp (i::f) p=rp f (i::p):=by simp[rp]
section
variable {St:Stb}{G:Gh}{w:World}{s:Nat}
theorem zAf:(xs:List T)→ ∀(p:List Nat)(i0 b o k i:Nat)(x:T),RL St G w s xs p i0 b o k→xs[i]? =VU x→
  Loc G w s x ((i0+i)::p) b (o+i*k)∧x.size=k∧R St G w s x ((i0+i)::p)
 | [],_,_,_,_,_,_,_,_,h=>by simp at h
 |y::ys,p,i0,b,o,k,i,x,hr,h=>by
  simp only[RL]at hr;cases i with
  |zero=>
   simp at h;subst h;simpa using⟨hr.1.1,hr.1.2,hr.2.1⟩
  |succ i=>
   have:=zAf ys p (i0+1) b (o+k) k i x hr.2.2 (by simpa using h);rw[show i0+(i+1)=i0+1+i from by omega,show o+(i+1)*k=o+k+i*k from by rw[La];omega];exact this
theorem zB1:(xs:List T)→ ∀(p:List Nat)(j i:Nat)(x:T),RF St G w s xs p j→xs[i]? =VU x→R St G w s x ((j+i)::p)
 | [],_,_,_,_,_,h=>by simp at h
 |y::ys,p,j,i,x,hr,h=>by
  simp only[RF]at hr;cases i with
  |zero=>simp at h;subst h;simpa using hr.1
  |succ i=>
   have:=zB1 ys p (j+1) i x hr.2 (by simpa using h)
   rwa [show j+(i+1)=j+1+i from by omega]
theorem zJq:(xs:List T)→ ∀(p:List Nat)(j b o i:Nat)(x:T),uN G w s xs p j b o→xs[i]? =VU x→
  ∃o',Loc G w s x ((j+i)::p) b o'∧o≤o'∧o'+x.size≤o+T.sizes xs
 | [],_,_,_,_,_,_,_,h=>by simp at h
 |y::ys,p,j,b,o,i,x,hr,h=>by
  simp only[uN]at hr;cases i with
  |zero=>simp at h;subst h;exact⟨o,by simpa using hr.1,by omega,by simp[T.sizes]⟩
  |succ i=>
   obtain⟨o',h1,h2,h3⟩:=zJq ys p (j+1) b (o+y.size) i x hr.2 (by simpa using h);refine⟨o',?_,by omega,by simp only[T.sizes];omega⟩
   rwa [show j+(i+1)=j+1+i from by omega]
def At(G:Gh)(w:World)(s:Nat)(t:T)(p:List Nat):Prop:=
 ∃b o cs e,Loc G w s t p b o∧w.heap[b]? =VU (.cells cs e (0,0))∧o+t.size≤cs.size
theorem At.field{xs:List T}{p:List Nat}(h:At G w s (.agg xs) p){i:Nat}{x:T}(hx:xs[i]? =VU x):At G w s x (i::p):=by obtain⟨b,o,cs,e,hl,hh,hs⟩:=h;simp only[Loc]at hl;obtain⟨o',h1,h2,h3⟩:=zJq xs p 0 b o i x hl.2 hx;simp only[T.size]at hs;exact⟨b,o',cs,e,by simpa using h1,hh,by omega⟩
theorem zCT{k:Nat}{xs:List T}{p:List Nat}(h:R St G w s (.sl k xs) p){i:Nat}{x:T}(hx:xs[i]? =VU x):
  At G w s x (i::p)∧R St G w s x (i::p):=by
 simp only[R]at h;have hi:=(J9.1 hx).1;rcases h with⟨rfl,_⟩|⟨b,o0,cap,cs,e,h1,h2,h3,h4,h5,h6,h7,h8⟩
 ·simp at hx
 ·obtain⟨a1,a2,a3⟩:=zAf xs p 0 b o0 k i x h8 hx
  simp only[J6]at a1 a3;refine⟨⟨b,o0+i*k,cs,e,a1,h2,?_⟩,a3⟩;rw[a2,Lf,←La];exact Lh (Nat.add_le_add_left (Le _ (by omega)) _) h5
theorem zB7{t:T}{p:List Nat}(h:R St G w s (.ptr t) p):At G w s t (0::p)∧R St G w s t (0::p):=by simp only[R]at h;obtain⟨b,cs,e,h1,h2,h3,h6,h4,h5⟩:=h;exact⟨⟨b,0,cs,e,h4,h2,by omega⟩,h5⟩
theorem zBf:(f:List Nat)→ ∀(t u:T)(p:List Nat),At G w s t p→R St G w s t p→t.get f=VU u→At G w s u (rp f p)∧R St G w s u (rp f p)
 | [],t,u,p,ha,h,hg=>by simp[T.get]at hg;subst hg;simpa[rp]using⟨ha,h⟩
 |i::f,t,u,p,ha,h,hg=>by
  rw[zBr];cases t with
  |sl k xs=>
   simp only[T.get]at hg;cases hx:xs[i]? with
   |none=>simp[hx]at hg
   |some x=>rw[hx]at hg;exact zBf f x u _ (zCT h hx).1 (zCT h hx).2 hg
  |ptr t=>
   simp only[T.get]at hg;split at hg
   ·rename_i hi;subst hi;exact zBf f t u _ (zB7 h).1 (zB7 h).2 hg
   ·cases hg
  |agg xs=>
   simp only[T.get]at hg;cases hx:xs[i]? with
   |none=>simp[hx]at hg
   |some x=>rw[hx]at hg;exact zBf f x u _ (ha.field hx) (by simp only[R]at h;simpa using zB1 xs p 0 i x h hx) hg
  |tup xs=>obtain⟨b,o,cs,e,hl,_⟩:=ha;simp only[Loc]at hl
  |_=>simp[T.get]at hg
theorem zB8:(f:List Nat)→ ∀(t u:T)(p:List Nat),R St G w s t p→t.get f=VU u→R St G w s u (rp f p)∧(t.locd f=VW→At G w s u (rp f p))
 | [],t,u,p,h,hg=>by simp[T.get]at hg;subst hg;simpa[rp,T.locd]using h
 |i::f,t,u,p,h,hg=>by
  rw[zBr];cases t with
  |sl k xs=>
   simp only[T.get]at hg;cases hx:xs[i]? with
   |none=>simp[hx]at hg
   |some x=>rw[hx]at hg;exact⟨(zBf f x u _ (zCT h hx).1 (zCT h hx).2 hg).2,fun _=>(zBf f x u _ (zCT h hx).1 (zCT h hx).2 hg).1⟩
  |ptr t=>
   simp only[T.get]at hg;split at hg
   ·rename_i hi;subst hi;exact⟨(zBf f t u _ (zB7 h).1 (zB7 h).2 hg).2,fun _=>(zBf f t u _ (zB7 h).1 (zB7 h).2 hg).1⟩
   ·cases hg
  |agg xs=>
   simp only[T.get,T.locd]at hg ⊢
   cases hx:xs[i]? with
   |none=>simp[hx]at hg
   |some x=>rw[hx]at hg;exact zB8 f x u _ (by simp only[R]at h;simpa using zB1 xs p 0 i x h hx) hg
  |tup xs=>
   simp only[T.get,T.locd]at hg ⊢
   cases hx:xs[i]? with
   |none=>simp[hx]at hg
   |some x=>rw[hx]at hg;exact zB8 f x u _ (by simp only[R]at h;simpa using zB1 xs p 0 i x h hx) hg
  |_=>simp[T.get]at hg
end
structure Upd (G:Gh) (w:World) (G':Gh) (w':World) (s:Nat) (tgt:List Nat):Prop where
 hd:∀p,¬tgt<:+p→G'.hd s p=G.hd s p
 ad:∀p,¬tgt<:+p→G'.ad s p=G.ad s p
 lb:∀b o f p,G.lb b o=VU (f,s,p)→ ¬tgt<:+p→G'.lb b o=VU (f,s,p)∧yX w' b o=yX w b o
 ow:∀b p,G.ow b=VU (s,p)→ ¬tgt<:+p→G'.ow b=VU (s,p)
 blk:Blk w w'
 mp:∀b p ms c,G.ow b=VU (s,p)→ ¬tgt<:+p→w.heap[b]? =VU (.map ms c)→w'.heap[b]? =VU (.map ms c)
section
variable {St:Stb}{G:Gh}{w:World}{G':Gh}{w':World}{s:Nat}{tgt:List Nat}
theorem Upd.moves(h:Upd G w G' w' s tgt){p:List Nat}(hp:∀z,¬tgt<:+z++p):zHC G w G' w' s p s p where
 hd z:=h.hd _ (hp z)
 ad z _:=h.ad _ (hp z)
 lb b o f z _ _ hl:=h.lb b o f _ hl (hp z)
 ow b z _ hl:=h.ow b _ hl (hp z)
 sp b o _ hl:=h.lb b o VW p hl (hp [])
 ow0 b hl:=h.ow b p hl (hp [])
 blk:=h.blk
 mp b z ms c hl hb:=h.mp b _ ms c hl (hp z) hb
mutual
theorem zEl(hm:Upd G w G' w' s tgt):(t:T)→ ∀(p:List Nat)(b o:Nat),(∀z,¬tgt<:+z++p)→Loc G w s t p b o→Loc G' w' s t p b o
 |.agg xs,p,b,o,hz,h=>by
  simp only[Loc]at h ⊢
  exact⟨(hm.ad p (hz [])).trans h.1,zJr hm xs p 0 b o hz h.2⟩
 |.any,p,b,o,hz,h|.lit _,p,b,o,hz,h|.ro _,p,b,o,hz,h|.same _ _,p,b,o,hz,h|.addr _ _,p,b,o,hz,h|.sub _ _ _ _ _,p,b,o,hz,h|.sl _ _,p,b,o,hz,h|.ptr _,p,b,o,hz,h|.mp _ _,p,b,o,hz,h=>by
  simp only[Loc]at h ⊢
  obtain⟨h1,h2,h3⟩:=h;have hl:=hm.lb b o VX p h2 (hz []);exact⟨(hm.ad p (hz [])).trans h1,hl.1,by rw[hl.2,h3,hm.hd p (hz [])]⟩
 |.tup _,_,_,_,_,h=>by simp only[Loc]at h
theorem zJr(hm:Upd G w G' w' s tgt):(xs:List T)→ ∀(p:List Nat)(j b o:Nat),(∀z,¬tgt<:+z++p)→uN G w s xs p j b o→uN G' w' s xs p j b o
 | [],_,_,_,_,_,_=>by simp only[uN]
 |x::xs,p,j,b,o,hz,h=>by
  simp only[uN]at h ⊢
  exact⟨zEl hm x (j::p) b o (fun z=>by have:=hz (z++[j]);simpa using this) h.1,zJr hm xs p (j+1) b _ hz h.2⟩
end
theorem zJs(hm:Upd G w G' w' s tgt)(t u:T)(p:List Nat)(b o:Nat)(ht:∀xs,t≠.agg xs)(hu:∀xs,u≠.agg xs)(iz:∀xs,u≠.tup xs)(hz:¬tgt<:+p)(h:Loc G w s t p b o):Loc G' w' s u p b o:=by
 have h3:G.ad s p=⟨b,o,VV⟩∧G.lb b o=VU (VX,s,p)∧yX w b o=VU (G.hd s p):=by
  cases t with
  |agg xs=>exact absurd rfl (ht xs)
  |tup xs=>simp only[Loc]at h
  |_=>simpa only[Loc]using h
 obtain⟨h1,h2,h3⟩:=h3;have hl:=hm.lb b o VX p h2 hz;have h4:G'.ad s p=⟨b,o,VV⟩∧G'.lb b o=VU (VX,s,p)∧yX w' b o=VU (G'.hd s p):=⟨(hm.ad p hz).trans h1,hl.1,by rw[hl.2,h3,hm.hd p hz]⟩;cases u with
 |agg xs=>exact absurd rfl (hu xs)
 |tup xs=>exact absurd rfl (iz xs)
 |_=>simpa only[Loc]using h4
theorem zAg{f p:List Nat}{i i':Nat}(hi:i'≠i)(z:List Nat):¬f.reverse++(i::p)<:+z++(i'::p):=by
 rintro⟨y,hy⟩
 rw[←Jd]at hy;have:=List.append_inj_right' hy rfl;simp at this;exact hi this.symm
theorem zA2{f p:List Nat}{i:Nat}:¬f.reverse++(i::p)<:+p:=by intro h;have:=h.length_le;simp at this;omega
theorem zHE:(xs:List T)→ ∀(i:Nat)(x y:T),xs[i]? =VU x→y.size=x.size→T.sizes (xs.set i y)=T.sizes xs
 | [],_,_,_,h,_=>by simp at h
 |z::zs,i,x,y,h,hs=>by
  cases i with
  |zero=>simp at h;subst h;simp[T.sizes,hs]
  |succ i=>simp only[Kl,T.sizes,zHE zs i x y (by simpa using h) hs]
theorem zEm:(f:List Nat)→ ∀(t u u0:T),t.get f=VU u0→u.size=u0.size→(t.set f u).size=t.size
 | [],t,u,u0,h,hs=>by simp[T.get]at h;subst h;simpa[T.set]using hs
 |i::f,t,u,u0,h,hs=>by
  cases t with
  |sl k xs=>simp only[T.get]at h;cases hx:xs[i]? <;>simp[hx,T.set,T.size]at h ⊢
  |tup xs=>simp only[T.get]at h;cases hx:xs[i]? <;>simp[hx,T.set,T.size]at h ⊢
  |agg xs=>
   simp only[T.get]at h;cases hx:xs[i]? with
   |none=>simp[hx]at h
   |some x=>
    rw[hx]at h;simp only[T.set,hx,T.size];exact zHE xs i x _ hx (zEm f x u u0 h hs)
  |ptr t=>simp only[T.get]at h;split at h<;>simp_all [T.set,T.size]
  |_=>simp[T.get]at h
theorem zJt(hm:Upd G w G' w' s tgt):(xs:List T)→ ∀(p:List Nat)(j b o i:Nat)(x y:T),uN G w s xs p j b o→xs[i]? =VU x→y.size=x.size→
  (∀i',i'≠j+i→ ∀z,¬tgt<:+z++(i'::p))→(∀o',Loc G w s x ((j+i)::p) b o'→Loc G' w' s y ((j+i)::p) b o')→uN G' w' s (xs.set i y) p j b o
 | [],_,_,_,_,_,_,_,_,h,_,_,_=>by simp at h
 |z::zs,p,j,b,o,i,x,y,hl,h,hs,hz,hy=>by
  simp only[uN]at hl;cases i with
  |zero=>
   simp at h;subst h;simp only[Kn,uN,hs];exact⟨by simpa using hy o (by simpa using hl.1),LocF_upd' hm zs p (j+1) b _ (fun i' ek=>hz i' (by omega)) hl.2⟩
  |succ i=>
   simp only[Kl,uN];refine⟨zEl hm z _ b o (hz j (by omega)) hl.1,zJt hm zs p (j+1) b _ i x y hl.2 (by simpa using h) hs (fun i' ek=>hz i' (by omega)) ?_⟩;rw[show j+1+i=j+(i+1)from by omega];exact hy
where LocF_upd' (hm:Upd G w G' w' s tgt):(xs:List T)→ ∀(p:List Nat)(j b o:Nat),(∀i',j≤i'→ ∀z,¬tgt<:+z++(i'::p))→uN G w s xs p j b o→uN G' w' s xs p j b o
 | [],_,_,_,_,_,_=>by simp only[uN]
 |x::xs,p,j,b,o,hz,h=>by
  simp only[uN]at h ⊢
  exact⟨zEl hm x (j::p) b o (hz j (Jf _)) h.1,LocF_upd' hm xs p (j+1) b _ (fun i' ek=>hz i' (by omega)) h.2⟩
theorem zIA:(f:List Nat)→ ∀(t u u0:T)(p:List Nat)(b o:Nat),Upd G w G' w' s (rp f p)→Loc G w s t p b o→t.get f=VU u0→u.size=u0.size→
  (∀o',Loc G w s u0 (rp f p) b o'→Loc G' w' s u (rp f p) b o')→Loc G' w' s (t.set f u) p b o
 | [],t,u,u0,p,b,o,hm,hl,hg,hs,hu=>by simp[T.get]at hg;subst hg;simpa[T.set,rp]using hu o (by simpa[rp]using hl)
 |i::f,t,u,u0,p,b,o,hm,hl,hg,hs,hu=>by
  have gC:=hm;rw[zBr]at gC;cases t with
  |sl k xs=>
   have:∃ys,(T.sl k xs).set (i::f) u=.sl k ys:=by simp only[T.set];split<;>exact⟨_,rfl⟩
   obtain⟨ys,hy⟩:=this;rw[hy];exact zJs gC (.sl k xs) (.sl k ys) p b o (by simp) (by simp) (by simp) zA2 hl
  |ptr t=>
   have:∃ys,(T.ptr t).set (i::f) u=.ptr ys:=by simp only[T.set];split<;>exact⟨_,rfl⟩
   obtain⟨ys,hy⟩:=this;rw[hy];exact zJs gC (.ptr t) (.ptr ys) p b o (by simp) (by simp) (by simp) zA2 hl
  |agg xs=>
   simp only[T.get]at hg;cases hx:xs[i]? with
   |none=>simp[hx]at hg
   |some x=>
    rw[hx]at hg;simp only[T.set,hx];simp only[Loc]at hl ⊢
    refine⟨(gC.ad p zA2).trans hl.1,zJt gC xs p 0 b o i x _ hl.2 hx (zEm f x u u0 hg hs) (fun i' ek z=>zAg (by omega) z) ?_⟩;intro o' ho';simp only[J6]at ho' ⊢
    exact zIA f x u u0 (i::p) b o' gC ho' hg hs (by simpa only[zBr]using hu)
  |tup xs=>simp only[Loc]at hl
  |_=>simp[T.get]at hg
end
end Go.Ab

namespace Go.Ab
open Go
section
variable {St:Stb}{G:Gh}{w:World}{G':Gh}{w':World}{s:Nat}{tgt:List Nat}
theorem zLV(hm:Upd G w G' w' s tgt)(t:T)(p:List Nat)(hz:∀z,¬tgt<:+z++p)(hk:xE (zAO G G') t)(h:R St G w s t p):R St G' w' s t p:=by simpa using zOn (hm.moves hz) t [] hk (by simpa using h)
theorem zOo(hm:Upd G w G' w' s tgt):(xs:List T)→ ∀(p:List Nat)(i b o k:Nat),(∀i',i≤i'→ ∀z,¬tgt<:+z++(i'::p))→xZ (zAO G G') xs→RL St G w s xs p i b o k→RL St G' w' s xs p i b o k
 | [],_,_,_,_,_,_,_,_=>by simp only[RL]
 |x::xs,p,i,b,o,k,hz,hk,h=>by
  simp only[RL,xZ]at h hk ⊢
  exact⟨⟨zEl hm x (i::p) b o (hz i (Jf _)) h.1.1,h.1.2⟩,zLV hm x (i::p) (hz i (Jf _)) hk.1 h.2.1,
   zOo hm xs p (i+1) b _ k (fun i' ek=>hz i' (by omega)) hk.2 h.2.2⟩
theorem zOp(hm:Upd G w G' w' s tgt):(xs:List T)→ ∀(p:List Nat)(i0 b o k i:Nat)(x y:T),RL St G w s xs p i0 b o k→xs[i]? =VU x→y.size=x.size→xZ (zAO G G') xs→
  (∀i',i'≠i0+i→ ∀z,¬tgt<:+z++(i'::p))→(∀o',Loc G w s x ((i0+i)::p) b o'→Loc G' w' s y ((i0+i)::p) b o')→R St G' w' s y ((i0+i)::p)→
  RL St G' w' s (xs.set i y) p i0 b o k
 | [],_,_,_,_,_,_,_,_,_,h,_,_,_,_,_=>by simp at h
 |z::zs,p,i0,b,o,k,i,x,y,hr,h,hs,hk,hz,hl,hy=>by
  simp only[RL,xZ]at hr hk;cases i with
  |zero=>
   simp at h;subst h;simp only[Kn,RL];exact⟨⟨by simpa using hl o (by simpa using hr.1.1),by omega⟩,by simpa using hy,zOo hm zs p (i0+1) b _ k (fun i' ek=>hz i' (by omega)) hk.2 hr.2.2⟩
  |succ i=>
   simp only[Kl,RL];rw[show i0+(i+1)=i0+1+i from by omega]at hl hy hz;exact⟨⟨zEl hm z _ b o (hz i0 (by omega)) hr.1.1,hr.1.2⟩,zLV hm z _ (hz i0 (by omega)) hk.1 hr.2.1,zOp hm zs p (i0+1) b _ k i x y hr.2.2 (by simpa using h) hs hk.2 hz hl hy⟩
theorem zOq(hm:Upd G w G' w' s tgt):(xs:List T)→ ∀(p:List Nat)(i:Nat),(∀i',i≤i'→ ∀z,¬tgt<:+z++(i'::p))→xZ (zAO G G') xs→RF St G w s xs p i→RF St G' w' s xs p i
 | [],_,_,_,_,_=>by simp only[RF]
 |x::xs,p,i,hz,hk,h=>by
  simp only[RF,xZ]at h hk ⊢
  exact⟨zLV hm x (i::p) (hz i (Jf _)) hk.1 h.1,zOq hm xs p (i+1) (fun i' ek=>hz i' (by omega)) hk.2 h.2⟩
theorem zKV(hm:Upd G w G' w' s tgt):(xs:List T)→ ∀(p:List Nat)(i0 i:Nat)(x y:T),RF St G w s xs p i0→xs[i]? =VU x→xZ (zAO G G') xs→
  (∀i',i'≠i0+i→ ∀z,¬tgt<:+z++(i'::p))→R St G' w' s y ((i0+i)::p)→
  RF St G' w' s (xs.set i y) p i0
 | [],_,_,_,_,_,_,h,_,_,_=>by simp at h
 |z::zs,p,i0,i,x,y,hr,h,hk,hz,hy=>by
  simp only[RF,xZ]at hr hk;cases i with
  |zero=>
   simp at h;subst h;simp only[Kn,RF];exact⟨by simpa using hy,zOq hm zs p (i0+1) (fun i' ek=>hz i' (by omega)) hk.2 hr.2⟩
  |succ i=>
   simp only[Kl,RF];rw[show i0+(i+1)=i0+1+i from by omega]at hy hz;exact⟨zLV hm z _ (hz i0 (by omega)) hk.1 hr.1,zKV hm zs p (i0+1) i x y hr.2 (by simpa using h) hk.2 hz hy⟩
theorem tI{φ:Nat→List Nat→Prop}:(xs:List T)→xZ φ xs→ ∀(i:Nat)(x:T),xs[i]? =VU x→xE φ x
 | [],_,_,_,h=>by simp at h
 |y::ys,hk,i,x,h=>by
  simp only[xZ]at hk;cases i with
  |zero=>simp at h;subst h;exact hk.1
  |succ i=>exact tI ys hk.2 i x (by simpa using h)
theorem zGh:(f:List Nat)→ ∀(t u u0:T)(p:List Nat),Upd G w G' w' s (rp f p)→R St G w s t p→t.get f=VU u0→u.size=u0.size→xE (zAO G G') t→
  (∀b o,Loc G w s u0 (rp f p) b o→Loc G' w' s u (rp f p) b o)→R St G' w' s u (rp f p)→R St G' w' s (t.set f u) p
 | [],t,u,u0,p,hm,hr,hg,hs,hk,hl,hu=>by simpa[T.set,rp]using hu
 |i::f,t,u,u0,p,hm,hr,hg,hs,hk,hl,hu=>by
  have gC:=hm;rw[zBr]at gC hl hu;cases t with
  |sl k xs=>
   simp only[T.get]at hg;cases hx:xs[i]? with
   |none=>simp[hx]at hg
   |some x=>
    rw[hx]at hg;simp only[T.set,hx];simp only[R,xE]at hr hk ⊢
    rcases hr with⟨rfl,_⟩|⟨b,o0,cap,cs,e,h1,h2,h3,h4,h5,h6,h7,h8⟩
    ·simp at hx
    ·obtain⟨cs',fK,gv⟩:=gC.blk b cs e h2
     refine .inr ⟨b,o0,cap,cs',e,by rw[gC.hd p zA2,G9];exact h1,fK,by rw[G9];exact h3,h4,by omega,gC.ow b p h6 zA2,?_,?_⟩
     ·intro o ho cX
      rw[G9]at ho;exact(gC.lb b o VW p (h7 o ho (by omega)) zA2).1
     ·have bS:=zAf xs p 0 b o0 k i x h8 hx
      simp only[J6]at bS;refine zOp gC xs p 0 b o0 k i x _ h8 hx (zEm f x u u0 hg hs) hk (fun i' ek z=>zAg (by omega) z) ?_ ?_
      ·intro o' ho'
       simp only[J6]at ho' ⊢
       exact zIA f x u u0 (i::p) b o' gC ho' hg hs (fun o''=>hl b o'')
      ·simp only[J6]
       exact zGh f x u u0 (i::p) gC bS.2.2 hg hs (tI xs hk i x hx) hl hu
  |ptr t=>
   simp only[T.get]at hg;split at hg
   ·rename_i hi;subst hi
    simp only[T.set,if_true];simp only[R,xE]at hr hk ⊢
    obtain⟨b,cs,e,h1,h2,h3,h6,h4,h5⟩:=hr;obtain⟨cs',fK,gv⟩:=gC.blk b cs e h2;refine⟨b,cs',e,by rw[gC.hd p zA2];exact h1,fK,by rw[zEm f t u u0 hg hs];omega,gC.ow b p h6 zA2,zIA f t u u0 (0::p) b 0 gC h4 hg hs (fun o''=>hl b o''),zGh f t u u0 (0::p) gC h5 hg hs hk hl hu⟩
   ·cases hg
  |agg xs=>
   simp only[T.get]at hg;cases hx:xs[i]? with
   |none=>simp[hx]at hg
   |some x=>
    rw[hx]at hg;simp only[T.set,hx];simp only[R,xE]at hr hk ⊢
    refine zKV gC xs p 0 i x _ hr hx hk (fun i' ek z=>zAg (by omega) z) ?_;simp only[J6];exact zGh f x u u0 (i::p) gC (by simpa using zB1 xs p 0 i x hr hx) hg hs (tI xs hk i x hx) hl hu
  |tup xs=>
   simp only[T.get]at hg;cases hx:xs[i]? with
   |none=>simp[hx]at hg
   |some x=>
    rw[hx]at hg;simp only[T.set,hx];simp only[R,xE]at hr hk ⊢
    refine zKV gC xs p 0 i x _ hr hx hk (fun i' ek z=>zAg (by omega) z) ?_;simp only[J6];exact zGh f x u u0 (i::p) gC (by simpa using zB1 xs p 0 i x hr hx) hg hs (tI xs hk i x hx) hl hu
  |_=>simp[T.get]at hg
end
end Go.Ab

namespace Go.Ab
open Go
mutual
def vals(G:Gh)(s:Nat):T→List Nat→List Value
 |.agg xs,p=>yD G s xs p 0
 |.any,p|.lit _,p|.ro _,p|.same _ _,p|.addr _ _,p|.sub _ _ _ _ _,p|.sl _ _,p|.ptr _,p|.tup _,p|.mp _ _,p=>[G.hd s p]
def yD(G:Gh)(s:Nat):List T→List Nat→Nat→List Value
 | [],_,_=>[]
 |x::xs,p,j=>vals G s x (j::p)++yD G s xs p (j+1)
end
def qH(G:Gh)(s:Nat)(t:T)(p:List Nat):Value:=
 match t with
 |.agg xs=>.agg (yD G s xs p 0).toArray
 |_=>G.hd s p
def zA8(G:Gh)(s:Nat):List T→List Nat→Nat→List Value
 | [],_,_=>[]
 |x::xs,p,j=>qH G s x (j::p)::zA8 G s xs p (j+1)
def mkV(G:Gh)(s:Nat)(t:T)(p:List Nat):Value:=
 match t with
 |.agg xs=>.agg (yD G s xs p 0).toArray
 |.tup xs=>.tuple (zA8 G s xs p 0).toArray
 |_=>G.hd s p
mutual
def Top:T→Prop
 |.sl _ xs=>xH xs
 |.ptr t=>zW t
 |.agg xs|.tup xs=>tA xs
 |.any|.lit _|.ro _|.same _ _|.addr _ _|.sub _ _ _ _ _|.mp _ _=>True
def tA:List T→Prop
 | []=>True
 |x::xs=>Top x∧tA xs
end
mutual
theorem Top.of_clean:(t:T)→zW t→Top t
 |.sl _ xs,h=>by simpa only[Top,zW,xE]using h
 |.ptr t,h=>by simpa only[Top,zW,xE]using h
 |.agg xs,h|.tup xs,h=>by simp only[Top];exact tA.of_clean xs (by simpa only[zW,xE]using h)
 |.any,_|.lit _,_|.ro _,_|.same _ _,_|.addr _ _,_|.sub _ _ _ _ _,_|.mp _ _,_=>by simp only[Top]
theorem tA.of_clean:(xs:List T)→xH xs→tA xs
 | [],_=>by simp only[tA]
 |x::xs,h=>by simp only[tA];exact⟨Top.of_clean x h.1,tA.of_clean xs h.2⟩
end
abbrev Chg:=List (Nat×Nat)
def Off(chg:Chg)(s:Nat)(p:List Nat):Prop:=∀n,(s,n)∈chg→p.length<n
def zBg(chg:Chg)(r:Nat)(p:List Nat):Bool:=chg.all fun c=>c.1 != r||decide (p.length<c.2)
theorem zNr{chg:Chg}{r:Nat}{p:List Nat}(h:zBg chg r p=VW):Off chg r p:=by
 intro n hn;have:=Jy.1 h _ hn
 grind
mutual
def T.okB(chg:Chg):T→Bool
 |.same r p|.addr r p|.sub r p _ _ _=>zBg chg r p
 |.agg xs|.tup xs=>zGi chg xs
 |.any|.lit _|.ro _|.sl _ _|.ptr _|.mp _ _=>VW
def zGi(chg:Chg):List T→Bool
 | []=>VW
 |x::xs=>x.okB chg&&zGi chg xs
end
mutual
theorem zBs{chg:Chg}:(t:T)→Top t→t.okB chg=VW→xE (Off chg) t
 |.same r p,_,h|.addr r p,_,h|.sub r p _ _ _,_,h=>by simp only[T.okB]at h;simp only[xE];exact zNr h
 |.agg xs,ht,h|.tup xs,ht,h=>by simp only[T.okB,Top]at h ht;simp only[xE];exact zGj xs ht h
 |.sl _ xs,ht,_=>by simp only[Top]at ht;simp only[xE];grind[xZ.mono]
 |.ptr t,ht,_=>by simp only[Top]at ht;simp only[xE];grind[xE.mono]
 |.any,_,_|.lit _,_,_|.ro _,_,_|.mp _ _,_,_=>by simp only[xE]
theorem zGj{chg:Chg}:(xs:List T)→tA xs→zGi chg xs=VW→xZ (Off chg) xs
 | [],_,_=>by simp only[xZ]
 |x::xs,ht,h=>by simp only[zGi,tA,J1]at h ht;simp only[xZ];exact⟨zBs x ht.1 h.1,zGj xs ht.2 h.2⟩
end
abbrev Env:=Nat→Option T
abbrev Wr:=List (Nat×Option T)
def Wr.find(wr:Wr)(s:Nat):Option (Option T):=
 match wr with
 | []=>VV
 |(k,x)::r=>if k=s then VU x else Wr.find r s
def Env.app(E:Env)(wr:Wr)(chg:Chg):Env:=fun s=>
 match wr.find s with
 |some x=>x
 |none=>match E s with
  |some t=>if t.okB chg then VU t else VV
  |none=>VV
structure Ctx where
 St:Stb
 W:Nat→Prop
 w0:World
 N:Nat
def zC4(Γ:Ctx)(w:World)(b:Nat):Prop:=b<w.heap.size∧(Γ.w0.heap.size≤b∨Γ.W b)∧Γ.St b=VV
structure zRo (w w':World):Prop where
 blk:Blk w w'
 os:w'.os=w.os
 out:w'.output=w.output
structure Mem (Γ:Ctx) (G:Gh) (w:World):Prop where
 one:∀s p,(G.hd s p).oneCell'=VW
 lb:∀b o l,G.lb b o=VU l→zC4 Γ w b
 ow:∀b l,G.ow b=VU l→zC4 Γ w b
 st:∀b x,Γ.St b=VU x→w.heap[b]? =VU x
 fr:∀b,b<Γ.w0.heap.size→ ¬Γ.W b→w.heap[b]? =Γ.w0.heap[b]?
 sz:Γ.w0.heap.size≤w.heap.size
 bk:zRo Γ.w0 w
theorem Blk.trans{w w' w'':World}(h:Blk w w')(h':Blk w' w''):Blk w w'':=fun b cs e hb=>by
 obtain⟨cs',h1,h2⟩:=h b cs e hb;obtain⟨cs'',h3,h4⟩:=h' b cs' e h1
 grind
theorem zRo.trans{w w' w'':World}(h:zRo w w')(h':Blk w' w'')(ho:w''.os=w'.os)(hq:w''.output=w'.output):zRo w w'':=⟨h.blk.trans h',ho.trans h.os,hq.trans h.out⟩
def Ent(Γ:Ctx)(G:Gh)(w:World)(v:Option Value)(s:Nat)(t:T):Prop:=v=VU (mkV G s t [])∧R Γ.St G w s t []∧Top t
structure Rep (Γ:Ctx) (E:Env) (G:Gh) (tmps:Array Value) (w:World):Prop where
 size:tmps.size=Γ.N
 ent:∀s t,E s=VU t→Ent Γ G w tmps[s]? s t
 mem:Mem Γ G w
def Sim(Γ:Ctx)(E:Env)(a:Act)(w:World):Prop:=a.defers=[]∧ ∃G,Rep Γ E G a.tmps w
structure zDC (S S':Stb) (W:Nat→Prop) (n:Nat):Prop where
 le:∀b x,S b=VU x→S' b=VU x
 nw:∀b,S b=VV→S' b≠VV→n≤b∨W b
theorem zDC.refl{S:Stb}{W:Nat→Prop}{n:Nat}:zDC S S W n:=⟨fun _ _ h=>h,by grind⟩
theorem zDC.trans{S S' S'':Stb}{W:Nat→Prop}{n:Nat}(h:zDC S S' W n)(h':zDC S' S'' W n):zDC S S'' W n:=
 ⟨fun b x hb=>h'.le b x (h.le b x hb),fun b hb ff=>by
  cases hs:S' b with
  |none=>exact h'.nw b hs ff
  |some x=>exact h.nw b hb (by grind)⟩
abbrev Ctx.at(Γ:Ctx)(S:Stb):Ctx:={ Γ with St:=S }
def zAh(Γ:Ctx)(E:Env)(a:Act)(w:World):Prop:=∃S,zDC Γ.St S Γ.W Γ.w0.heap.size∧Sim (Γ.at S) E a w
theorem zAh.of{Γ:Ctx}{E:Env}{a:Act}{w:World}(h:Sim Γ E a w):zAh Γ E a w:=⟨Γ.St,.refl,h⟩
theorem zAh.up{Γ:Ctx}{E:Env}{a:Act}{w:World}{S:Stb}(hS:zDC Γ.St S Γ.W Γ.w0.heap.size)(h:zAh (Γ.at S) E a w):zAh Γ E a w:=by obtain⟨S',h1,h2⟩:=h;exact⟨S',hS.trans h1,h2⟩
structure zAF (chg:Chg) (G:Gh) (w:World) (G':Gh) (w':World):Prop where
 hd:∀s p,Off chg s p→G'.hd s p=G.hd s p
 ad:∀s p,Off chg s p→G'.ad s p=G.ad s p
 lb:∀b o f s p,(∃y,G.ow b=VU (s,y))→G.lb b o=VU (f,s,p)→(∀n,(s,n)∉chg)→G'.lb b o=VU (f,s,p)∧yX w' b o=yX w b o
 ow:∀b s p,G.ow b=VU (s,p)→(∀n,(s,n)∉chg)→G'.ow b=VU (s,p)
 blk:Blk w w'
 mp:∀b s p ms c,G.ow b=VU (s,p)→(∀n,(s,n)∉chg)→w.heap[b]? =VU (.map ms c)→w'.heap[b]? =VU (.map ms c)
theorem Off.of_not{chg:Chg}{s:Nat}(h:∀n,(s,n)∉chg)(p:List Nat):Off chg s p:=fun n hn=>absurd hn (h n)
section
variable {Γ:Ctx}{G G':Gh}{w w':World}{s:Nat}{chg:Chg}
mutual
theorem zBt{s':Nat}:(t:T)→ ∀(p p':List Nat),(∀z,G'.hd s' (z++p')=G.hd s (z++p))→vals G' s' t p'=vals G s t p
 |.agg xs,p,p',h=>by simp only[vals];exact zEn xs p p' 0 h
 |.any,p,p',h|.lit _,p,p',h|.ro _,p,p',h|.same _ _,p,p',h|.addr _ _,p,p',h|.sub _ _ _ _ _,p,p',h|.sl _ _,p,p',h|.ptr _,p,p',h|.tup _,p,p',h|.mp _ _,p,p',h=>by simp only[vals];rw[show G'.hd s' p'=G.hd s p from by simpa using h []]
theorem zEn{s':Nat}:(xs:List T)→ ∀(p p':List Nat)(j:Nat),(∀z,G'.hd s' (z++p')=G.hd s (z++p))→yD G' s' xs p' j=yD G s xs p j
 | [],_,_,_,_=>by rfl
 |x::xs,p,p',j,h=>by simp only[yD];rw[zBt x (j::p) (j::p') (fun z=>by have:=h (z++[j]);grind),zEn xs p p' (j+1) h]
end
theorem zBV{s':Nat}(t:T)(p p':List Nat)(h:∀z,G'.hd s' (z++p')=G.hd s (z++p)):qH G' s' t p'=qH G s t p:=by
 unfold qH;split
 ·grind[zEn]
 ·simpa using h []
theorem zLW{s':Nat}:(xs:List T)→ ∀(p p':List Nat)(j:Nat),(∀z,G'.hd s' (z++p')=G.hd s (z++p))→zA8 G' s' xs p' j=zA8 G s xs p j
 | [],_,_,_,_=>by rfl
 |x::xs,p,p',j,h=>by simp only[zA8];rw[zBV x (j::p) (j::p') (fun z=>by have:=h (z++[j]);simpa using this),zLW xs p p' (j+1) h]
theorem zET{s':Nat}(t:T)(p p':List Nat)(h:∀z,G'.hd s' (z++p')=G.hd s (z++p)):mkV G' s' t p'=mkV G s t p:=by
 unfold mkV;split
 ·grind[zEn]
 ·grind[zLW]
 ·simpa using h []
theorem zAF.moves(hk:zAF chg G w G' w')(hs:∀n,(s,n)∉chg)(p:List Nat):zHC G w G' w' s p s p where
 hd _:=hk.hd _ _ (.of_not hs _)
 ad _ _:=hk.ad _ _ (.of_not hs _)
 lb b o f _ _ gS hl:=hk.lb b o f s _ gS hl hs
 ow b _ _ hl:=hk.ow b s _ hl hs
 sp b o gS hl:=hk.lb b o VW s _ gS hl hs
 ow0 b hl:=hk.ow b s _ hl hs
 blk:=hk.blk
 mp b _ ms c hl hb:=hk.mp b s _ ms c hl hs hb
theorem zAF.keepR(hk:zAF chg G w G' w'){t:T}(h:xE (Off chg) t):xE (zAO G G') t:=
 xE.mono (fun r p hr=>⟨hk.hd r p hr,hk.ad r p hr⟩) t h
theorem Ent.keep(hk:zAF chg G w G' w')(hs:∀n,(s,n)∉chg){v:Option Value}{t:T}(ht:t.okB chg=VW)(h:Ent Γ G w v s t):Ent Γ G' w' v s t:=by
 obtain⟨h1,h2,h3⟩:=h;refine⟨?_,?_,h3⟩
 ·rw[h1,zET t [] [] (fun z=>hk.hd _ _ (.of_not hs _))]
 ·simpa using zOn (hk.moves hs []) t [] (hk.keepR (zBs t h3 ht)) (by grind)
end
theorem tK{Γ:Ctx}{E:Env}{G G':Gh}{tmps tmps':Array Value}{w w':World}{wr:Wr}{chg:Chg}(h:Rep Γ E G tmps w)
  (gL:tmps'.size=tmps.size)(hk:zAF chg G w G' w')(gE:Mem Γ G' w')
  (gB:∀s,wr.find s=VV→(∀n,(s,n)∉chg)∧tmps'[s]? =tmps[s]?)
  (eb:∀s t,wr.find s=VU (VU t)→Ent Γ G' w' tmps'[s]? s t):Rep Γ (E.app wr chg) G' tmps' w' where
 size:=by rw[gL,h.size]
 mem:=gE
 ent s t hs:=by
  unfold Env.app at hs;cases hf:wr.find s with
  |some x=>
   grind
  |none=>
   rw[hf]at hs;simp at hs;cases he:E s with
   |none=>grind
   |some u=>
    simp[he]at hs;obtain⟨gM,rfl⟩:=hs;rw[(gB s hf).2];exact Ent.keep hk (gB s hf).1 gM (h.ent s u he)
end Go.Ab

namespace Go.Ab
open Go
mutual
def cpT(s:Nat):T→List Nat→T
 |.lit v,_=>.lit v
 |.ro t,_=>.ro t
 |.same r q,_=>.same r q
 |.addr r q,_=>.addr r q
 |.sub r q k lo hi,_=>.sub r q k lo hi
 |.agg xs,p=>.agg (cpF s xs p 0)
 |.any,p|.sl _ _,p|.ptr _,p|.mp _ _,p|.tup _,p=>.same s p
def cpF(s:Nat):List T→List Nat→Nat→List T
 | [],_,_=>[]
 |x::xs,p,j=>cpT s x (j::p)::cpF s xs p (j+1)
end
mutual
theorem jS(s:Nat):(t:T)→ ∀p,Top (cpT s t p)
 |.agg xs,p=>by simp only[cpT,Top];exact zLX s xs p 0
 |.lit _,_|.ro _,_|.same _ _,_|.addr _ _,_|.sub _ _ _ _ _,_|.any,_|.sl _ _,_|.ptr _,_|.mp _ _,_|.tup _,_=>by simp only[cpT,Top]
theorem zLX(s:Nat):(xs:List T)→ ∀p j,tA (cpF s xs p j)
 | [],_,_=>by simp only[cpF,tA]
 |x::xs,p,j=>by simp only[cpF,tA];exact⟨jS s x _,zLX s xs p _⟩
end
section
variable {St:Stb}{G G':Gh}{w w':World}{s d:Nat}
mutual
theorem zDD(hs:∀p,G'.hd s p=G.hd s p):(t:T)→ ∀(p p':List Nat),(∀z,G'.hd d (z++p')=G.hd s (z++p))→(∀xs,t≠.tup xs)→xE (zAO G G') (cpT s t p)→R St G w s t p→R St G' w' d (cpT s t p) p'
 |.lit _,p,p',hd,_,_,h=>by simp only[cpT,R]at h ⊢;rw[show G'.hd d p'=_ from by simpa using hd []];exact h
 |.ro _,p,p',hd,_,_,h=>by simp only[cpT,R]at h ⊢;rw[show G'.hd d p'=_ from by simpa using hd []];exact h
 |.same r q,p,p',hd,_,hk,h=>by simp only[cpT,R,xE]at h hk ⊢;rw[show G'.hd d p'=_ from by simpa using hd [],hk.1];exact h
 |.addr r q,p,p',hd,_,hk,h=>by simp only[cpT,R,xE]at h hk ⊢;rw[show G'.hd d p'=_ from by simpa using hd [],hk.2];exact h
 |.sub r q k lo hi,p,p',hd,_,hk,h=>by simp only[cpT,R,xE]at h hk ⊢;rw[show G'.hd d p'=_ from by simpa using hd [],hk.1];exact h
 |.any,p,p',hd,_,_,_|.sl _ _,p,p',hd,_,_,_|.ptr _,p,p',hd,_,_,_|.mp _ _,p,p',hd,_,_,_=>by simp only[cpT,R];rw[show G'.hd d p'=_ from by simpa using hd [],hs]
 |.tup xs,_,_,_,h,_,_=>absurd rfl (h xs)
 |.agg xs,p,p',hd,_,hk,h=>by simp only[cpT,R,xE]at h hk ⊢;exact zIB hs xs p p' 0 hd hk h
theorem zIB(hs:∀p,G'.hd s p=G.hd s p):(xs:List T)→ ∀(p p':List Nat)(j:Nat),(∀z,G'.hd d (z++p')=G.hd s (z++p))→xZ (zAO G G') (cpF s xs p j)→RF St G w s xs p j→RF St G' w' d (cpF s xs p j) p' j
 | [],_,_,_,_,_,_=>by simp only[cpF,RF]
 |x::xs,p,p',j,hd,hk,h=>by
  simp only[cpF,RF,xZ]at h hk ⊢
  refine⟨?_,zIB hs xs p p' (j+1) hd hk.2 h.2⟩
  by_cases hx:∃ys,x=.tup ys
  ·obtain⟨ys,rfl⟩:=hx
   simp only[cpT,R];rw[show G'.hd d (j::p')=_ from by simpa using hd [j],hs]
  ·exact zDD hs x (j::p) (j::p') (fun z=>by have:=hd (z++[j]);simpa using this) (fun ys e=>hx ⟨ys,e⟩) hk.1 h.1
end
mutual
theorem zNs:(t:T)→ ∀(p p':List Nat),(∀z,G'.hd d (z++p')=G.hd s (z++p))→vals G' d (cpT s t p) p'=vals G s t p
 |.agg xs,p,p',h=>by simp only[cpT,vals];exact zDE xs p p' 0 h
 |.any,p,p',h|.lit _,p,p',h|.ro _,p,p',h|.same _ _,p,p',h|.addr _ _,p,p',h|.sub _ _ _ _ _,p,p',h|.sl _ _,p,p',h|.ptr _,p,p',h|.mp _ _,p,p',h|.tup _,p,p',h=>by simp only[cpT,vals];rw[show G'.hd d p'=G.hd s p from by simpa using h []]
theorem zDE:(xs:List T)→ ∀(p p':List Nat)(j:Nat),(∀z,G'.hd d (z++p')=G.hd s (z++p))→yD G' d (cpF s xs p j) p' j=yD G s xs p j
 | [],_,_,_,_=>by rfl
 |x::xs,p,p',j,h=>by simp only[cpF,yD];rw[zNs x (j::p) (j::p') (fun z=>by have:=h (z++[j]);grind),zDE xs p p' (j+1) h]
end
theorem zBh(t:T)(p p':List Nat)(ht:∀xs,t≠.tup xs)(h:∀z,G'.hd d (z++p')=G.hd s (z++p)):mkV G' d (cpT s t p) p'=qH G s t p:=by
 cases t with
 |agg xs=>grind[cpT,mkV,qH,zDE]
 |tup xs=>grind
 |_=>simpa[cpT,mkV,qH]using h []
end
theorem zA9(G:Gh)(s:Nat)(t:T)(p:List Nat)(ht:∀xs,t≠.tup xs):mkV G s t p=qH G s t p:=by
 cases t with
 |tup xs=>grind
 |_=>rfl
def Gh.put(G:Gh)(d:Nat)(f:List Nat→Value):Gh:={ G with hd:=fun s z=>if s=d then f z else G.hd s z }
theorem Gh.put_other(G:Gh){d s:Nat}(f:List Nat→Value)(p:List Nat)(h:s≠d):(G.put d f).hd s p=G.hd s p:=by simp[Gh.put,h]
theorem Gh.put_self(G:Gh)(d:Nat)(f:List Nat→Value)(p:List Nat):(G.put d f).hd d p=f p:=by simp[Gh.put]
theorem zTB{d s:Nat}{p:List Nat}(h:Off [(d,0)] s p):s≠d:=by
 rintro rfl
 exact absurd (h 0 (by simp)) (by simp)
theorem Gh.put_keep(G:Gh){w w':World}(hw:w'.heap=w.heap)(d:Nat)(f:List Nat→Value):zAF [(d,0)] G w (G.put d f) w' where
 hd s p h:=G.put_other f p (zTB h)
 ad _ _ _:=rfl
 lb b o f' s p _ h _:=⟨h,by grind[yX,World.cell?]⟩
 ow b s p h _:=h
 blk b cs e h:=by grind
 mp b s p ms c _ _ h:=by grind
theorem Mem.put{Γ:Ctx}{G:Gh}{w w':World}(h:Mem Γ G w)(hw:w'.heap=w.heap)(d:Nat)(f:List Nat→Value)(hf:∀z,(f z).oneCell'=VW)(ho:w'.os=w.os:=by rfl)(hq:w'.output=w.output:=by rfl):Mem Γ (G.put d f) w' where
 one s p:=by unfold Gh.put;dsimp only;split;exact hf p;exact h.one s p
 lb b o l hl:=by have:=h.lb b o l hl;exact⟨by rw[hw];exact this.1,this.2⟩
 ow b l hl:=by have:=h.ow b l hl;exact⟨by rw[hw];exact this.1,this.2⟩
 st b x hx:=by rw[hw];exact h.st b x hx
 fr b h1 h2:=by rw[hw];exact h.fr b h1 h2
 sz:=by rw[hw];exact h.sz
 bk:=h.bk.trans (fun b cs e hb=>by grind) ho hq
theorem jP(d:Nat)(x:Option T)(s:Nat):Wr.find [(d,x)] s=if d=s then VU x else VV:=by rfl
theorem uG{Γ:Ctx}{E:Env}{G:Gh}{tmps:Array Value}{w w':World}(h:Rep Γ E G tmps w)(hw:w'.heap=w.heap){d:Nat}(hd:d<Γ.N)
  (f:List Nat→Value)(hf:∀z,(f z).oneCell'=VW)(t:T)(v:Value)(hv:v=mkV (G.put d f) d t [])(hr:R Γ.St (G.put d f) w' d t [])(ht:Top t)(ho:w'.os=w.os:=by rfl)(hq:w'.output=w.output:=by rfl):
  Rep Γ (E.app [(d,VU t)] [(d,0)]) (G.put d f) (tmps.setIfInBounds d v) w':=by
 refine tK h (by simp) (G.put_keep hw d f) (h.mem.put hw d f hf ho hq) ?_ ?_
 ·grind[jP]
 ·intro s t' hs
  rw[jP]at hs;split at hs
  ·rename_i he
   subst he;simp at hs;subst hs;refine⟨?_,hr,ht⟩;rw[J8];simp[h.size,hd,hv]
  ·cases hs
def wP(P:Program)(Γ:Ctx)(o:Oper)(E E':Env):Prop:=
 ∀(a:Act)(w:World)(K:Act→World→Prop)(Q:Exit→Act→World→Prop),Sim Γ E a w→(∀a' w',zAh Γ E' a' w'→K a' w')→o.wp P a w K Q
def opT(E:Env):Operand→Option T
 |.tmp s=>E s
 |.const v=>if v.oneCell' then VU (.lit v)else VV
 |.func f=>VU (.lit (.func (.func f) #[] #[]))
 |.global _=>VV
def tV(x:Operand)(t:T):T:=match x with
 |.tmp s=>cpT s t []
 |_=>t
section
variable {P:Program}{Γ:Ctx}{E E':Env}{o:Oper}{d:Nat}
theorem wL{a:Act}{s:Nat}{v:Value}(h:a.tmps[s]? =VU v):a.eval (.tmp s)=v:=by simp[Act.eval,K1,h]
theorem wP.value(ho:o.dst=VU d)
  (h:∀(a:Act)(w:World)(G:Gh),Rep Γ E G a.tmps w→ ∃v w',(execOp a.eval o).run P w=.ok (.value v) w'∧ ∃G',Rep Γ E' G' (a.tmps.setIfInBounds d v) w'):wP P Γ o E E':=by
 intro a w K Q ⟨gY,G,gc⟩ hK;obtain⟨v,w',gw,G',eS⟩:=h a w G gc;unfold Oper.wp;rw[gw,Oper.upon_value];refine hK _ _ ?_;rw[ho];exact .of ⟨gY,G',eS⟩
theorem wP.skip(ho:o.dst=VV)
  (h:∀(a:Act)(w:World)(G:Gh),Rep Γ E G a.tmps w→ ∃w',(execOp a.eval o).run P w=.ok .skip w'∧ ∃G',Rep Γ E' G' a.tmps w'):wP P Γ o E E':=by
 intro a w K Q ⟨gY,G,gc⟩ hK;obtain⟨w',gw,G',eS⟩:=h a w G gc;unfold Oper.wp;rw[gw,Oper.upon_skip];refine hK _ _ ?_;rw[ho];exact .of ⟨gY,G',eS⟩
theorem opd{G:Gh}{a:Act}{w:World}(gc:Rep Γ E G a.tmps w){x:Operand}{t:T}(hx:opT E x=VU t)(ht:∀xs,t≠.tup xs):
  ∃f:List Nat→Value,(∀z,(f z).oneCell'=VW)∧(∀d,(∀s,x=.tmp s→s≠d)→T.okB [(d,0)] (tV x t)=VW→
   a.eval x=mkV (G.put d f) d (tV x t) []∧R Γ.St (G.put d f) w d (tV x t) [])∧Top (tV x t):=by
 cases x with
 |tmp s=>
  obtain⟨h1,h2,h3⟩:=gc.ent s t hx;refine⟨fun z=>G.hd s z,fun z=>gc.mem.one s z,?_,jS s t []⟩;intro d gk gM;have ex:=gk s rfl;have hk:=G.put_keep (w:=w) (w':=w) rfl d (fun z=>G.hd s z);have hz:∀z,(G.put d (fun z=>G.hd s z)).hd d (z++[])=G.hd s (z++[]):=by grind[Gh.put_self]
  refine⟨?_,?_⟩
  ·grind[wL,tV,zBh,zA9]
  ·exact zDD (fun p=>G.put_other _ p ex) t [] [] hz ht (hk.keepR (zBs _ (jS s t []) gM)) h2
 |const v=>
  simp only[opT]at hx;split at hx
  ·rename_i gA
   simp at hx;subst hx;exact⟨fun _=>v,fun _=>gA,fun d _ _=>⟨by simp[Act.eval,tV,mkV,Gh.put],by simp[tV,R,Gh.put]⟩,by simp[tV,Top]⟩
  ·cases hx
 |func f=>
  simp only[opT]at hx;simp at hx;subst hx;exact⟨fun _=>.func (.func f) #[] #[],fun _=>rfl,fun d _ _=>⟨by simp[Act.eval,tV,mkV,Gh.put],by simp[tV,R,Gh.put]⟩,by simp[tV,Top]⟩
 |global g=>cases hx
theorem zLY(x:Operand)(t:T)(ho:o.op=.move x∨o.op=.assign x)(gg:o.dst=VU d)(hd:d<Γ.N)(hx:opT E x=VU t)(ht:∀xs,t≠.tup xs)
  (gk:∀s,x=.tmp s→s≠d)(gM:T.okB [(d,0)] (tV x t)=VW):wP P Γ o E (E.app [(d,VU (tV x t))] [(d,0)]):=by
 refine wP.value gg fun a w G gc=>?_
 obtain⟨f,hf,h1,h2⟩:=opd gc hx ht;obtain⟨h3,h4⟩:=h1 d gk gM;refine⟨a.eval x,w,?_,_,uG gc rfl hd f hf _ _ h3 h4 h2⟩;rcases ho with ho|ho<;>simp[execOp,ho]
theorem wI{G:Gh}{a:Act}{w:World}(gc:Rep Γ E G a.tmps w){x:Operand}{v:Value}(hx:opT E x=VU (.lit v)):a.eval x=v∧v.oneCell'=VW:=by
 cases x with
 |tmp s=>
  obtain⟨h1,h2,_⟩:=gc.ent s _ hx;simp only[R]at h2;refine⟨?_,by rw[←h2];exact gc.mem.one s []⟩
  grind[wL,mkV]
 |const u=>
  simp only[opT]at hx;split at hx
  ·simp at hx;subst hx;exact⟨rfl,by assumption⟩
  ·cases hx
 |func f=>simp only[opT]at hx;simp at hx;subst hx;exact⟨rfl,rfl⟩
 |global g=>cases hx
theorem zAG(v:Value)(hv:v.oneCell'=VW)(gg:o.dst=VU d)(hd:d<Γ.N)
  (h:∀(a:Act)(w:World)(G:Gh),Rep Γ E G a.tmps w→(execOp a.eval o).run P w=.ok (.value v) w):wP P Γ o E (E.app [(d,VU (.lit v))] [(d,0)]):=by
 refine wP.value gg fun a w G gc=>?_
 exact⟨v,w,h a w G gc,_,uG gc rfl hd (fun _=>v) (fun _=>hv) (.lit v) v (by simp[mkV,Gh.put]) (by simp[R,Gh.put]) (by simp[Top])⟩
def zIC(op:BinOp)(k:IntKind)(a b:Int):Option Value:=
 match op with
 |.add=>VU (.int k (k.wrap (a+b)))
 |.sub=>VU (.int k (k.wrap (a-b)))
 |.mul=>VU (.int k (k.wrap (a*b)))
 |.quo=>if b=0 then VV else VU (.int k (k.wrap (a.tdiv b)))
 |.rem=>if b=0 then VV else VU (.int k (a.tmod b))
 |.eql=>VU (.bool (a==b))
 |.neq=>VU (.bool (a != b))
 |.lss=>VU (.bool (decide (a<b)))
 |.leq=>VU (.bool (decide (a≤b)))
 |.gtr=>VU (.bool (decide (a> b)))
 |.geq=>VU (.bool (decide (a≥b)))
 |_=>VV
theorem zOr{op:BinOp}{k:IntKind}{a b:Int}{v:Value}(h:zIC op k a b=VU v):v.oneCell'=VW:=by cases op<;>simp[zIC]at h<;>first|(subst h;rfl)|(obtain⟨_,rfl⟩:=h;rfl)
theorem tT(op:BinOp)(xt yt:TypeId)(x y:Operand)(k:IntKind)(m n:Int)(v:Value)(ho:o.op=.binOp op xt x y yt)(gg:o.dst=VU d)(hd:d<Γ.N)
  (hx:opT E x=VU (.lit (.int k m)))(hy:opT E y=VU (.lit (.int k n)))(hv:zIC op k m n=VU v):wP P Γ o E (E.app [(d,VU (.lit v))] [(d,0)]):=by
 refine zAG v (zOr hv) gg hd fun a w G gc=>?_
 have h1:=(wI gc hx).1;have h2:=(wI gc hy).1;cases op<;>simp[zIC]at hv<;>
  first
   |(subst hv;simp[execOp,ho,h1,h2,eqGuard,binOp,Op.intArith,Op.intCmp];done)
   |(obtain⟨h0,rfl⟩:=hv;simp[execOp,ho,h1,h2,eqGuard,binOp,Op.intDiv,h0])
theorem zTC(xt:TypeId)(x:Operand)(b:Bool)(ho:o.op=.unOp .not xt x)(gg:o.dst=VU d)(hd:d<Γ.N)
  (hx:opT E x=VU (.lit (.bool b))):wP P Γ o E (E.app [(d,VU (.lit (.bool !b)))] [(d,0)]):=by
 refine zAG _ rfl gg hd fun a w G gc=>?_
 have h1:=(wI gc hx).1;simp[execOp,ho,h1,Op.unary]
theorem zTD(xt:TypeId)(x:Operand)(k:IntKind)(n:Int)(ho:o.op=.unOp .neg xt x)(gg:o.dst=VU d)(hd:d<Γ.N)
  (hx:opT E x=VU (.lit (.int k n))):wP P Γ o E (E.app [(d,VU (.lit (.int k (k.wrap (0-n)))))] [(d,0)]):=by
 refine zAG _ rfl gg hd fun a w G gc=>?_
 have h1:=(wI gc hx).1;simp[execOp,ho,h1,Op.unary,Op.intArith]
theorem zRp(src dst:TypeId)(ds:TypeDesc)(x:Operand)(k k':IntKind)(n:Int)(ho:o.op=.convert src dst x)(gg:o.dst=VU d)(hd:d<Γ.N)
  (hs:P.underlying src=VU ds)(ht:P.underlying dst=VU (.int k'))(hx:opT E x=VU (.lit (.int k n))):
  wP P Γ o E (E.app [(d,VU (.lit (.int k' (k'.wrap n))))] [(d,0)]):=by
 refine zAG _ rfl gg hd fun a w G gc=>?_
 have h1:=(wI gc hx).1;simp[execOp,ho,h1,convert,run_underlying hs,run_underlying ht,Conv.intToInt]
theorem zRq(c x y:Operand)(b:Bool)(t:T)(ho:o.op=.pick c x y)(gg:o.dst=VU d)(hd:d<Γ.N)
  (hc:opT E c=VU (.lit (.bool b)))(hx:opT E (if b then x else y)=VU t)(ht:∀xs,t≠.tup xs)
  (gk:∀s,(if b then x else y)=.tmp s→s≠d)(gM:T.okB [(d,0)] (tV (if b then x else y) t)=VW):wP P Γ o E (E.app [(d,VU (tV (if b then x else y) t))] [(d,0)]):=by
 refine wP.value gg fun a w G gc=>?_
 obtain⟨f,hf,h1,h2⟩:=opd gc hx ht;obtain⟨h3,h4⟩:=h1 d gk gM;refine⟨a.eval (if b then x else y),w,?_,_,uG gc rfl hd f hf _ _ h3 h4 h2⟩;have h5:=(wI gc hc).1;cases b<;>simp[execOp,ho,h5,asBool]
end
end Go.Ab

namespace Go.Ab
open Go
def jZ(E:Env):Nat→Nat→List Nat→Option (Nat×List Nat×T)
 |0,_,_=>VV
 |n+1,r,q=>match E r with
  |some t=>match t.get q.reverse with
   |some (.same r' q')=>jZ E n r' q'
   |some u=>VU (r,q,u)
   |none=>VV
  |none=>VV
def sD(E:Env):Operand→Option (Nat×List Nat×T)
 |.tmp s=>jZ E 4 s []
 |_=>VV
def T.single:T→Bool
 |.agg _|.tup _=>VX
 |_=>VW
theorem xY{G:Gh}{s:Nat}{t:T}{p:List Nat}(h:t.single=VW):mkV G s t p=G.hd s p:=by cases t<;>simp[T.single]at h<;>rfl
section
variable {P:Program}{Γ:Ctx}{E:Env}{o:Oper}{d:Nat}
theorem zCU{G:Gh}{a:Act}{w:World}(gc:Rep Γ E G a.tmps w):∀(n s:Nat)(p:List Nat)(r:Nat)(q:List Nat)(u:T),jZ E n s p=VU (r,q,u)→
  R Γ.St G w r u q∧G.hd s p=G.hd r q∧(∃t,E r=VU t∧t.get q.reverse=VU u)
 |0,_,_,_,_,_,h=>by simp[jZ]at h
 |n+1,s,p,r,q,u,h=>by
  simp only[jZ]at h;split at h
  ·rename_i t ht
   obtain⟨_,h4,_⟩:=gc.ent _ _ ht;split at h
   ·rename_i r' q' hg
    obtain⟨h1,h2,h3⟩:=zCU gc n r' q' r q u h;have h5:=(zB8 p.reverse t _ [] h4 hg).1;simp only[rp,Kf,Ja,R]at h5;exact⟨h1,h5.trans h2,h3⟩
   ·rename_i u' hns hg
    simp at h;obtain⟨rfl,rfl,rfl⟩:=h;have h5:=(zB8 p.reverse t _ [] h4 hg).1;simp only[rp,Kf,Ja]at h5;exact⟨h5,rfl,t,ht,hg⟩
   ·cases h
  ·cases h
theorem kK{G:Gh}{a:Act}{w:World}(gc:Rep Γ E G a.tmps w){x:Operand}{r:Nat}{q:List Nat}{u:T}(h:sD E x=VU (r,q,u))(hu:u.single=VW):
  R Γ.St G w r u q∧a.eval x=G.hd r q:=by
 cases x with
 |tmp s=>
  obtain⟨h1,h2,_⟩:=zCU gc 4 s [] r q u h;refine⟨h1,?_⟩;rw[←h2];simp only[sD,jZ]at h;split at h
  ·rename_i t ht
   obtain⟨h3,_,_⟩:=gc.ent s _ ht;rw[wL h3];simp only[He,T.get]at h;have:t.single=VW:=by cases t<;>first|rfl|(simp at h;obtain⟨_,_,rfl⟩:=h;simp[T.single]at hu)
   exact xY this
  ·cases h
 |_=>simp[sD]at h
theorem zID{St:Stb}{G:Gh}{w:World}{s:Nat}{k:Nat}{xs:List T}{p:List Nat}(h:R St G w s (.sl k xs) p):∃a c,G.hd s p=.slice a xs.length c:=by
 simp only[R]at h;rcases h with⟨rfl,a,h⟩|⟨b,_,cap,_,_,h,_⟩
 ·exact⟨a,0,h⟩
 ·exact⟨_,_,h⟩
theorem zCV{St:Stb}{G:Gh}{w:World}{s:Nat}{k:Nat}{xs:List T}{p:List Nat}(h:R St G w s (.ro (.sl k xs)) p):∃a c,G.hd s p=.slice a xs.length c∧xs.length≤c∧c≤maxLen∧
   (xs≠[]→ ∃b o' cs' e fr,a=VU ⟨b,o',VV⟩∧St b=VU (.cells cs' e fr)∧RoL St xs cs' o' k):=by
 simp only[R,RoC]at h;obtain⟨a,c,h1,h2,h3,h4⟩:=h;exact⟨a,c,by simpa using h1,h2,h3,h4⟩
def zJu:T→Option Nat
 |.sl _ xs|.ro (.sl _ xs)=>VU xs.length
 |.lit (.slice _ n _)=>VU n
 |.lit (.string s)=>VU s.size
 |_=>VV
def zRr:T→TypeDesc→Bool
 |.lit (.string _),.string=>VW
 |.sl _ _,.slice _|.ro (.sl _ _),.slice _|.lit (.slice _ _ _),.slice _=>VW
 |_,_=>VX
theorem zOs(x:Operand)(t:TypeId)(ds:TypeDesc)(r:Nat)(q:List Nat)(u:T)(n:Nat)(ho:o.op=.call { callee:=.builtin .len,args:=#[x],argTypes:=#[t] })(gg:o.dst=VU d)(hd:d<Γ.N)
  (ht:P.underlying t=VU ds)(hx:sD E x=VU (r,q,u))(hl:zJu u=VU n)(pG:zRr u ds=VW):
  wP P Γ o E (E.app [(d,VU (.lit (.int .i64 n)))] [(d,0)]):=by
 refine zAG (.int .i64 n) rfl gg hd fun a w G gc=>?_
 have hu:u.single=VW:=by cases u<;>simp[zJu]at hl<;>rfl
 obtain⟨h1,h2⟩:=kK gc hx hu;have h3:(Builtin.len_ #[t] o.type #[G.hd r q]).run P w=.ok (.int .i64 n) w:=by
  cases u with
  |sl k xs=>
   obtain⟨a',c,h4⟩:=zID h1;simp[zJu]at hl;subst hl;cases ds<;>simp[zRr]at pG
   simp[Builtin.len_,run_underlying ht,h4,goInt]
  |ro t'=>
   cases t'<;>simp[zJu]at hl
   obtain⟨a',c,h4,_⟩:=zCV h1;subst hl;cases ds<;>simp[zRr]at pG
   simp[Builtin.len_,run_underlying ht,h4,goInt]
  |lit v=>
   simp only[R]at h1;cases v<;>simp[zJu]at hl<;>(subst hl;cases ds<;>simp[zRr]at pG;simp[Builtin.len_,run_underlying ht,h1,goInt])
  |_=>simp[zJu]at hl
 simp[execOp,ho,resolve,invoke,builtin,h2,h3]
theorem zBW{G:Gh}{w:World}{s:Nat}{t:T}{p:List Nat}{b o:Nat}(h:Loc G w s t p b o):G.ad s p=⟨b,o,VV⟩:=by cases t<;>simp only[Loc]at h<;>first|exact h.1|exact h.elim
theorem tL(b o n:Nat):(⟨b,o,VV⟩:Addr).add n=⟨b,o+n,VV⟩:=by
 unfold Addr.add;split
 ·rename_i h;subst h;rfl
 ·rfl
theorem zRs{St:Stb}{G:Gh}{w:World}{s:Nat}{k:Nat}{xs:List T}{p:List Nat}(h:R St G w s (.sl k xs) p){i:Nat}(hi:i<xs.length):
  ∃b o0 cap,G.hd s p=.slice (VU ⟨b,o0,VV⟩) xs.length cap∧G.ad s (i::p)=⟨b,o0+i*k,VV⟩:=by
 simp only[R]at h;rcases h with⟨rfl,_⟩|⟨b,o0,cap,cs,e,h1,h2,h3,h4,h5,h6,h7,h8⟩
 ·simp at hi
 ·have:=(zAf xs p 0 b o0 k i xs[i] h8 (by simp[hi])).1
  simp only[J6]at this;exact⟨b,o0,cap,h1,zBW this⟩
theorem zOt(x y:Operand)(t e:TypeId)(ti:TypeInfo)(r:Nat)(q:List Nat)(k:Nat)(xs:List T)(kd:IntKind)(i:Int)(ho:o.op=.indexAddr t x y)(gg:o.dst=VU d)(hd:d<Γ.N)
  (ht:P.underlying t=VU (.slice e))(he:P.info? e=VU ti)(hk:ti.size=k)(hx:sD E x=VU (r,q,.sl k xs))(hy:opT E y=VU (.lit (.int kd i)))(h0:0≤i)(h1:i.toNat<xs.length):
  wP P Γ o E (E.app [(d,VU (.addr r (i.toNat::q)))] [(d,0)]):=by
 refine wP.value gg fun a w G gc=>?_
 obtain⟨g1,g2⟩:=kK gc hx rfl;have g3:=(wI gc hy).1;obtain⟨b,o0,cap,g4,g5⟩:=zRs g1 h1;refine⟨.pointer (VU (G.ad r (i.toNat::q))),w,?_,_,uG gc rfl hd (fun _=>.pointer (VU (G.ad r (i.toNat::q)))) (fun _=>rfl) _ _ (by simp[mkV,Gh.put]) (by simp[R,Gh.put]) (by simp[Top])⟩;have gI:i<(xs.length:Int):=by omega
 simp[execOp,ho,Instr.indexAt,g3,g2,g4,asIntOf,run_underlying ht,h0,gI,sizeOf,typeInfo,he,hk,tL,g5]
theorem zFT{St:Stb}:(xs:List T)→ ∀(cs:Array Value)(o k i:Nat)(x:T),RoL St xs cs o k→xs[i]? =VU x→RoC St x cs (o+i*k)
 | [],_,_,_,_,_,_,h=>by simp at h
 |y::ys,cs,o,k,i,x,hr,h=>by
  simp only[RoL]at hr;cases i with
  |zero=>simp at h;subst h;simpa using hr.1
  |succ i=>
   have:=zFT ys cs (o+k) k i x hr.2 (by simpa using h)
   rwa [show o+(i+1)*k=o+k+i*k from by rw[La];omega]
theorem zLZ{St:Stb}:(xs:List T)→ ∀(cs:Array Value)(o i:Nat)(x:T),RoF St xs cs o→xs[i]? =VU x→RoC St x cs (o+T.sizes (xs.take i))
 | [],_,_,_,_,_,h=>by simp at h
 |y::ys,cs,o,i,x,hr,h=>by
  simp only[RoF]at hr;cases i with
  |zero=>simp at h;subst h;simpa[T.sizes]using hr.1
  |succ i=>
   have:=zLZ ys cs (o+y.size) i x hr.2 (by simpa using h)
   rwa [Kw,T.sizes,←Lf]
theorem zOu(x y:Operand)(t e:TypeId)(ti:TypeInfo)(r:Nat)(q:List Nat)(k:Nat)(xs:List T)(kd:IntKind)(i:Int)(u:T)(ho:o.op=.indexAddr t x y)(gg:o.dst=VU d)(hd:d<Γ.N)
  (ht:P.underlying t=VU (.slice e))(he:P.info? e=VU ti)(hk:ti.size=k)(hx:sD E x=VU (r,q,.ro (.sl k xs)))(hy:opT E y=VU (.lit (.int kd i)))(h0:0≤i)(h1:xs[i.toNat]? =VU u):
  wP P Γ o E (E.app [(d,VU (.ro (.ptr u)))] [(d,0)]):=by
 refine wP.value gg fun a w G gc=>?_
 obtain⟨g1,g2⟩:=kK gc hx rfl;have g3:=(wI gc hy).1;have Vu:i.toNat<xs.length:=(J9.1 h1).1;obtain⟨a',c,g4,_,_,g5⟩:=zCV g1;obtain⟨b,o',cs',e',fr,rfl,g6,g7⟩:=g5 (by rintro rfl;simp at Vu);have g8:=zFT xs cs' o' k i.toNat u g7 h1;refine⟨.pointer (VU ⟨b,o'+i.toNat*k,VV⟩),w,?_,_,uG gc rfl hd (fun _=>.pointer (VU ⟨b,o'+i.toNat*k,VV⟩)) (fun _=>rfl) _ _ (by simp[mkV,Gh.put]) ?_ (by simp[Top])⟩
 ·have gI:i<(xs.length:Int):=by omega
  simp[execOp,ho,Instr.indexAt,g3,g2,g4,asIntOf,run_underlying ht,h0,gI,sizeOf,typeInfo,he,hk,tL]
 ·simp only[R,Gh.put_self,RoC]
  exact⟨b,_,cs',e',fr,by simp,g6,g8⟩
theorem zC5:(xs:List T)→ ∀{G:Gh}{w:World}{s:Nat}(p:List Nat)(j b o i:Nat)(x:T),uN G w s xs p j b o→xs[i]? =VU x→
  Loc G w s x ((j+i)::p) b (o+T.sizes (xs.take i))
 | [],_,_,_,_,_,_,_,_,_,_,h=>by simp at h
 |y::ys,G,w,s,p,j,b,o,i,x,hr,h=>by
  simp only[uN]at hr;cases i with
  |zero=>simp at h;subst h;simpa[T.sizes]using hr.1
  |succ i=>
   have:=zC5 ys p (j+1) b (o+y.size) i x hr.2 (by simpa using h)
   rwa [show j+(i+1)=j+1+i from by omega,Kw,T.sizes,←Lf]
theorem sQ{P:Program}{w:World}(a:Addr):(Instr.sureAddr (.pointer (VU a))).run P w=.ok a w:=rfl
theorem zC6{P:Program}{w:World}{S:TypeId}{fs:Array Field}{f:Field}{fi:TypeInfo}{j:Nat}{b o':Nat}(hS:P.underlying S=VU (.struct fs))(hf:fs[j]? =VU f)(hi:P.info? f.type=VU fi)(hz:fi.size≠0):
  (Instr.fieldAt S (.pointer (VU ⟨b,o',VV⟩)) j).run P w=.ok (.pointer (VU ⟨b,o'+f.offset,VV⟩)) w:=by
 simp[Instr.fieldAt,run_underlying hS,hf,sQ,fieldPlace,sizeOf,typeInfo,hi,hz,tL]
theorem zVn(x:Operand)(S:TypeId)(fs:Array Field)(f:Field)(fi:TypeInfo)(j:Nat)(r:Nat)(q:List Nat)(xs:List T)(u:T)(ho:o.op=.fieldAddr S x j)(gg:o.dst=VU d)(hd:d<Γ.N)
  (hS:P.underlying S=VU (.struct fs))(hf:fs[j]? =VU f)(hi:P.info? f.type=VU fi)(hz:fi.size≠0)(hx:sD E x=VU (r,q,.ptr (.agg xs)))(hu:xs[j]? =VU u)(gD:T.sizes (xs.take j)=f.offset):
  wP P Γ o E (E.app [(d,VU (.addr r (j::0::q)))] [(d,0)]):=by
 refine wP.value gg fun a w G gc=>?_
 obtain⟨g1,g2⟩:=kK gc hx rfl;simp only[R]at g1;obtain⟨b,cs,e,g4,_,_,_,g5,_⟩:=g1;simp only[Loc]at g5;have g6:=zC5 xs (0::q) 0 b 0 j u g5.2 hu;simp only[J6]at g6;refine⟨.pointer (VU (G.ad r (j::0::q))),w,?_,_,uG gc rfl hd (fun _=>.pointer (VU (G.ad r (j::0::q)))) (fun _=>rfl) _ _ (by simp[mkV,Gh.put]) (by simp[R,Gh.put]) (by simp[Top])⟩;have g7:=zC6 (w:=w) (b:=b) (o':=0) hS hf hi hz;simp[execOp,ho,g2,g4,g7,zBW g6,gD]
theorem zKW(x:Operand)(S:TypeId)(fs:Array Field)(f:Field)(fi:TypeInfo)(j:Nat)(r:Nat)(q:List Nat)(t:T)(xs:List T)(u:T)(ho:o.op=.fieldAddr S x j)(gg:o.dst=VU d)(hd:d<Γ.N)
  (hS:P.underlying S=VU (.struct fs))(hf:fs[j]? =VU f)(hi:P.info? f.type=VU fi)(hz:fi.size≠0)(hx:opT E x=VU (.addr r q))(hr:E r=VU t)(hg:t.get q.reverse=VU (.agg xs))(hl:t.locd q.reverse=VW)
  (hu:xs[j]? =VU u)(gD:T.sizes (xs.take j)=f.offset):
  wP P Γ o E (E.app [(d,VU (.addr r (j::q)))] [(d,0)]):=by
 refine wP.value gg fun a w G gc=>?_
 cases x with
 |tmp s=>
  obtain⟨h1,h2,_⟩:=gc.ent s _ hx;obtain⟨_,h4,_⟩:=gc.ent r _ hr;simp only[R]at h2;obtain⟨b,o',cs,e,h6,_,_⟩:=(zB8 q.reverse t _ [] h4 hg).2 hl;simp only[rp,Kf,Ja]at h6;have h7:=zBW h6;simp only[Loc]at h6;have g6:=zC5 xs q 0 b o' j u h6.2 hu;simp only[J6]at g6;refine⟨.pointer (VU (G.ad r (j::q))),w,?_,_,uG gc rfl hd (fun _=>.pointer (VU (G.ad r (j::q)))) (fun _=>rfl) _ _ (by simp[mkV,Gh.put]) (by simp[R,Gh.put]) (by simp[Top])⟩;have g7:=zC6 (w:=w) (b:=b) (o':=o') hS hf hi hz;simp[execOp,ho,wL h1,mkV,h2,h7,g7,zBW g6,gD]
 |const v=>simp only[opT]at hx;split at hx<;>simp at hx
 |func f=>simp[opT]at hx
 |global g=>simp[opT]at hx
theorem zKX{G:Gh}{a:Act}{w:World}(gc:Rep Γ E G a.tmps w){x:Operand}{u:T}(hx:opT E x=VU (.ro u)):RoC Γ.St u #[a.eval x] 0:=by
 cases x with
 |tmp s=>
  obtain⟨h1,h2,_⟩:=gc.ent s _ hx;simp only[R]at h2;rw[wL h1,xY rfl];exact h2
 |const v=>simp only[opT]at hx;split at hx<;>simp at hx
 |func f=>simp[opT]at hx
 |global g=>simp[opT]at hx
theorem zOv(x:Operand)(S:TypeId)(fs:Array Field)(f:Field)(fi:TypeInfo)(j:Nat)(xs:List T)(u:T)(ho:o.op=.fieldAddr S x j)(gg:o.dst=VU d)(hd:d<Γ.N)
  (hS:P.underlying S=VU (.struct fs))(hf:fs[j]? =VU f)(hi:P.info? f.type=VU fi)(hz:fi.size≠0)(hx:opT E x=VU (.ro (.ptr (.agg xs))))(hu:xs[j]? =VU u)(gD:T.sizes (xs.take j)=f.offset):
  wP P Γ o E (E.app [(d,VU (.ro (.ptr u)))] [(d,0)]):=by
 refine wP.value gg fun a w G gc=>?_
 have h1:=zKX gc hx;simp only[RoC]at h1;obtain⟨b,o',cs',e,fr,h2,h3,h4⟩:=h1;have h5:=zLZ xs cs' o' j u h4 hu;refine⟨.pointer (VU ⟨b,o'+f.offset,VV⟩),w,?_,_,uG gc rfl hd (fun _=>.pointer (VU ⟨b,o'+f.offset,VV⟩)) (fun _=>rfl) _ _ (by simp[mkV,Gh.put]) ?_ (by simp[Top])⟩
 ·have g7:=zC6 (w:=w) (b:=b) (o':=o') hS hf hi hz
  have h6:a.eval x=.pointer (VU ⟨b,o',VV⟩):=by simpa using h2
  simp[execOp,ho,h6,g7]
 ·simp only[R,Gh.put_self,RoC]
  exact⟨b,o'+f.offset,cs',e,fr,by simp,h3,by rw[←gD];exact h5⟩
def zEU:TypeDesc→Bool
 |.struct _|.array _ _=>VW
 |_=>VX
theorem zAi{P:Program}{w:World}{t:TypeId}{ds:TypeDesc}(ht:P.underlying t=VU ds):(isAgg t).run P w=.ok (zEU ds) w:=by cases ds<;>simp[isAgg,run_underlying ht,zEU]
theorem sH{G:Gh}{w:World}{s:Nat}{t:T}{p:List Nat}{b o:Nat}(ht:t.single=VW)(h:Loc G w s t p b o):G.ad s p=⟨b,o,VV⟩∧G.lb b o=VU (VX,s,p)∧yX w b o=VU (G.hd s p):=by cases t<;>simp[T.single]at ht<;>simpa only[Loc]using h
mutual
theorem zOw{G:Gh}{w:World}{s:Nat}:(t:T)→ ∀(p:List Nat)(b o:Nat),Loc G w s t p b o→ ∀(i:Nat)(v:Value),(vals G s t p)[i]? =VU v→yX w b (o+i)=VU v
 |.agg xs,p,b,o,h,i,v,hv=>by simp only[Loc,vals]at h hv;exact zB9 xs p 0 b o h.2 i v hv
 |.any,p,b,o,h,i,v,hv|.lit _,p,b,o,h,i,v,hv|.ro _,p,b,o,h,i,v,hv|.same _ _,p,b,o,h,i,v,hv|.addr _ _,p,b,o,h,i,v,hv|.sub _ _ _ _ _,p,b,o,h,i,v,hv|.sl _ _,p,b,o,h,i,v,hv|.ptr _,p,b,o,h,i,v,hv|.mp _ _,p,b,o,h,i,v,hv=>by
  simp only[Loc,vals]at h hv;cases i with
  |zero=>simp at hv;rw[←hv];exact h.2.2
  |succ i=>simp at hv
 |.tup _,_,_,_,h,_,_,_=>by simp only[Loc]at h
theorem zB9{G:Gh}{w:World}{s:Nat}:(xs:List T)→ ∀(p:List Nat)(j b o:Nat),uN G w s xs p j b o→ ∀(i:Nat)(v:Value),(yD G s xs p j)[i]? =VU v→yX w b (o+i)=VU v
 | [],_,_,_,_,_,i,v,hv=>by simp[yD]at hv
 |x::xs,p,j,b,o,h,i,v,hv=>by
  simp only[uN,yD]at h hv;rw[K8]at hv;split at hv
  ·exact zOw x (j::p) b o h.1 i v hv
  ·rename_i hge
   have gm:=uA (G:=G) (s:=s) x (j::p) (fun ys e=>by subst e;simp only[Loc]at h;exact h.1);have:=zB9 xs p (j+1) b (o+x.size) h.2 _ v hv
   rwa [show o+x.size+(i-(vals G s x (j::p)).length)=o+i from by omega]at this
theorem uA{G:Gh}{s:Nat}:(t:T)→ ∀(p:List Nat),(∀xs,t≠.tup xs)→(vals G s t p).length=t.size
 |.agg xs,p,_=>by simp only[vals,T.size];exact wY xs p 0
 |.any,_,_|.lit _,_,_|.ro _,_,_|.same _ _,_,_|.addr _ _,_,_|.sub _ _ _ _ _,_,_|.sl _ _,_,_|.ptr _,_,_|.mp _ _,_,_|.tup _,_,_=>by simp[vals,T.size]
theorem wY{G:Gh}{s:Nat}:(xs:List T)→ ∀(p:List Nat)(j:Nat),(yD G s xs p j).length=T.sizes xs
 | [],_,_=>by simp[yD,T.sizes]
 |x::xs,p,j=>by
  simp only[yD,Ji,T.sizes,wY xs p (j+1)]
  by_cases hx:∃ys,x=.tup ys
  ·obtain⟨ys,rfl⟩:=hx;simp[vals,T.size]
  ·rw[uA x (j::p) (fun ys e=>hx ⟨ys,e⟩)]
end
theorem zF4{P:Program}{G:Gh}{w:World}{s:Nat}{t:T}{p:List Nat}{b o':Nat}{T':TypeId}{ds:TypeDesc}{ti:TypeInfo}(hT:P.underlying T'=VU ds)(hi:P.info? T'=VU ti)(hl:Loc G w s t p b o')
  (eR:zEU ds= !t.single)(gv:ti.size=t.size):(loadVar T' ⟨b,o',VV⟩).run P w=.ok (qH G s t p) w:=by
 cases t with
 |agg xs=>
  have h1:=run_loadCells_list (P:=P) (w:=w) ⟨b,o',VV⟩ (yD G s xs p 0) (fun j v hv=>by rw[tL];simp only[Loc]at hl;exact zB9 xs p 0 b o' hl.2 j v hv)
  rw[wY]at h1;simp only[T.size]at gv;simp[T.single]at eR;simp[loadVar,zAi hT,eR,sizeOf,typeInfo,hi,gv,h1,qH]
 |tup xs=>simp only[Loc]at hl
 |_=>
  have h1:=(sH rfl hl).2.2;simp[T.single]at eR;simp only[yX]at h1;simp[loadVar,zAi hT,eR,load,Sem.run,h1,qH]
def zBu(Γ:Ctx)(E:Env)(x:Operand)(r:Nat)(q:List Nat):Prop:=∀(a:Act)(w:World)(G:Gh),Rep Γ E G a.tmps w→a.eval x=.pointer (VU (G.ad r q))
theorem zBu.addr{x:Operand}{r:Nat}{q:List Nat}(hx:opT E x=VU (.addr r q)):zBu Γ E x r q:=fun a w G gc=>by
 cases x with
 |tmp s=>
  obtain⟨h1,h2,_⟩:=gc.ent s _ hx;simp only[R]at h2;rw[wL h1];exact h2
 |const v=>simp only[opT]at hx;split at hx<;>simp at hx
 |func f=>simp[opT]at hx
 |global g=>simp[opT]at hx
theorem zBu.ptr{x:Operand}{r:Nat}{q:List Nat}{t:T}(hx:sD E x=VU (r,q,.ptr t)):zBu Γ E x r (0::q):=fun a w G gc=>by obtain⟨g1,g2⟩:=kK gc hx rfl;simp only[R]at g1;obtain⟨b,cs,e,g4,_,_,_,g5,_⟩:=g1;rw[g2,g4,zBW g5]
theorem zJv(x:Operand)(T':TypeId)(ds:TypeDesc)(ti:TypeInfo)(r:Nat)(q:List Nat)(t u:T)(ho:o.op=.load T' x)(gg:o.dst=VU d)(hd:d<Γ.N)
  (hT:P.underlying T'=VU ds)(hi:P.info? T'=VU ti)(eR:zEU ds= !u.single)(gv:ti.size=u.size)
  (hx:zBu Γ E x r q)(hr:E r=VU t)(hg:t.get q.reverse=VU u)(hl:t.locd q.reverse=VW)(gx:r≠d)(gM:T.okB [(d,0)] (cpT r u q)=VW):
  wP P Γ o E (E.app [(d,VU (cpT r u q))] [(d,0)]):=by
 refine wP.value gg fun a w G gc=>?_
 have bv:=hx a w G gc;obtain⟨_,h4,_⟩:=gc.ent r _ hr;obtain⟨h5,h6⟩:=zB8 q.reverse t u [] h4 hg;obtain⟨b,o',cs,e,h6,_,_⟩:=h6 hl;simp only[rp,Kf,Ja]at h5 h6;have gV:∀xs,u≠.tup xs:=by rintro xs rfl;simp only[Loc]at h6
 have h7:=zBW h6;have hz:∀z,(G.put d (fun z=>G.hd r (z++q))).hd d (z++[])=G.hd r (z++q):=fun z=>by rw[Gh.put_self,Ja]
 have hk:=G.put_keep (w:=w) (w':=w) rfl d (fun z=>G.hd r (z++q));refine⟨qH G r u q,w,?_,_,uG gc rfl hd (fun z=>G.hd r (z++q)) (fun z=>gc.mem.one _ _) _ _ (zBh u q [] gV hz).symm
  (zDD (fun p=>G.put_other _ p gx) u q [] hz gV (hk.keepR (zBs _ (jS r u q) gM)) h5) (jS r u q)⟩
 have h8:=zF4 (T':=T') hT hi h6 eR gv;simp[execOp,ho,bv,h7,Instr.loadAt,sQ,h8]
theorem zRt(x:Operand)(T':TypeId)(ds:TypeDesc)(ti:TypeInfo)(r:Nat)(q:List Nat)(t u:T)(ho:o.op=.load T' x)(gg:o.dst=VU d)(hd:d<Γ.N)
  (hT:P.underlying T'=VU ds)(hi:P.info? T'=VU ti)(eR:zEU ds= !u.single)(gv:ti.size=u.size)
  (hx:opT E x=VU (.addr r q))(hr:E r=VU t)(hg:t.get q.reverse=VU u)(hl:t.locd q.reverse=VW)(gx:r≠d)(gM:T.okB [(d,0)] (cpT r u q)=VW):
  wP P Γ o E (E.app [(d,VU (cpT r u q))] [(d,0)]):=zJv x T' ds ti r q t u ho gg hd hT hi eR gv (zBu.addr hx) hr hg hl gx gM
def roT:T→T
 |.lit v=>.lit v
 |.agg xs=>.agg (roTs xs)
 |.ro t=>.ro (.ro t)
 |.any=>.any
 |.same r q=>.ro (.same r q)
 |.addr r q=>.ro (.addr r q)
 |.sub r q k lo hi=>.ro (.sub r q k lo hi)
 |.sl k xs=>.ro (.sl k xs)
 |.ptr t=>.ro (.ptr t)
 |.tup xs=>.ro (.tup xs)
 |.mp ks xs=>.ro (.mp ks xs)
where roTs:List T→List T
 | []=>[]
 |x::xs=>roT x::roTs xs
end
end Go.Ab

namespace Go.Ab
open Go
def zAj(v:Value):Value:=if v.oneCell' then v else .bool VX
theorem zBA(v:Value):(zAj v).oneCell'=VW:=by
 unfold zAj;split
 ·assumption
 ·rfl
theorem zAV{v:Value}(h:v.oneCell'=VW):zAj v=v:=by simp[zAj,h]
def zDF:T→Array Value→Nat→List Nat→Value
 |.agg xs,cs,o,i::f=>match xs[i]? with
  |some x=>zDF x cs (o+T.sizes (xs.take i)) f
  |none=>.bool VX
 |_,cs,o,_=>cs.getD o (.bool VX)
termination_by structural _ _ _ f=>f
theorem zBv{t:T}(h:t.single=VW)(cs:Array Value)(o:Nat)(f:List Nat):zDF t cs o f=cs.getD o (.bool VX):=by cases t<;>simp[T.single]at h<;>cases f<;>rfl
mutual
theorem zEo:(u:T)→(∀xs,u≠.tup xs)→(roT u).size=u.size
 |.agg xs,_=>by simp only[roT,T.size];exact zEV xs
 |.lit _,_|.any,_|.sl _ _,_|.ptr _,_|.mp _ _,_|.ro _,_|.same _ _,_|.addr _ _,_|.sub _ _ _ _ _,_|.tup _,_=>by simp[roT,T.size]
theorem zEV:(xs:List T)→T.sizes (roT.roTs xs)=T.sizes xs
 | []=>by simp only[roT.roTs]
 |x::xs=>by
  simp only[roT.roTs,T.sizes,zEV xs]
  by_cases hx:∃ys,x=.tup ys
  ·obtain⟨ys,rfl⟩:=hx;simp[roT,T.size]
  ·rw[zEo x (fun ys e=>hx ⟨ys,e⟩)]
end
section
variable {St:Stb}{G:Gh}{w:World}{d:Nat}
theorem zGk{u:T}{cs:Array Value}{o:Nat}(hu:u.single=VW)(h:RoC St u cs o):∃v,cs[o]? =VU v∧v.oneCell'=VW∧RoC St u #[v] 0:=by
 cases u<;>simp[T.single]at hu<;>simp only[RoC]at h ⊢
 ·obtain⟨v,h1,h2⟩:=h;exact⟨v,h1,h2,v,by simp,h2⟩
 ·exact⟨_,h.1,h.2,by simp,h.2⟩
 ·obtain⟨f,vs,h1,h2⟩:=h;exact⟨_,h1,rfl,f,vs,by simp,h2⟩
 ·obtain⟨a,c,h1,h2⟩:=h;exact⟨_,h1,rfl,a,c,by simp,h2⟩
 ·obtain⟨b,o',cs',e,fr,h1,h2⟩:=h;exact⟨_,h1,rfl,b,o',cs',e,fr,by simp,h2⟩
mutual
theorem zOx:(u:T)→ ∀(cs:Array Value)(o:Nat)(p:List Nat),(∀z,G.hd d (z++p)=zAj (zDF u cs o z.reverse))→RoC St u cs o→R St G w d (roT u) p
 |.agg xs,cs,o,p,hd,h=>by
  simp only[roT,R,RoC]at h ⊢
  exact zOy xs cs o p 0 o (by simp) (fun z j x hx=>by have:=hd (z++[j]);simp only[Jd,L7,K9,Ud,G8,He,zDF]at this;rw[J6,this];simp[hx]) h
 |.lit v,cs,o,p,hd,h=>by
  simp only[roT,R,RoC]at h ⊢
  have:=hd [];rw[K9,zBv rfl]at this;rw[this];simp[K1,h.1,zAV h.2]
 |.any,_,_,_,_,_=>by simp only[roT,R]
 |.ro _,cs,o,p,hd,h|.sl _ _,cs,o,p,hd,h|.ptr _,cs,o,p,hd,h|.mp _ _,cs,o,p,hd,h=>by obtain⟨v,h1,h2,h3⟩:=zGk rfl h;have:=hd [];rw[K9,zBv rfl]at this;simp only[roT,R];rw[this];simpa[K1,h1,zAV h2]using h3
 |.same _ _,_,_,_,_,h|.addr _ _,_,_,_,_,h|.sub _ _ _ _ _,_,_,_,_,h|.tup _,_,_,_,_,h=>by simp only[RoC]at h
theorem zOy:(xs:List T)→ ∀(cs:Array Value)(o0:Nat)(p:List Nat)(j o:Nat),o0≤o→(∀z i x,xs[i]? =VU x→G.hd d (z++((j+i)::p))=zAj (zDF x cs (o+T.sizes (xs.take i)) z.reverse))→RoF St xs cs o→RF St G w d (roT.roTs xs) p j
 | [],_,_,_,_,_,_,_,_=>by simp only[roT.roTs,RF]
 |x::xs,cs,o0,p,j,o,ho,hd,h=>by
  simp only[roT.roTs,RF,RoF]at h ⊢
  refine⟨zOx x cs o (j::p) (fun z=>by simpa[T.sizes]using hd z 0 x (by simp)) h.1,zOy xs cs o0 p (j+1) (o+x.size) (by omega) (fun z i y hy=>?_) h.2⟩;have:=hd z (i+1) y (by simpa using hy);simp only[Kw,T.sizes]at this;rw[show j+1+i=j+(i+1)from by omega,show o+x.size+T.sizes (xs.take i)=o+(x.size+T.sizes (xs.take i))from Lf ..];exact this
end
mutual
theorem zGl:(u:T)→ ∀(cs:Array Value)(o:Nat)(p:List Nat),(∀z,G.hd d (z++p)=zAj (zDF u cs o z.reverse))→RoC St u cs o→ ∀(i:Nat)(v:Value),(vals G d (roT u) p)[i]? =VU v→cs[o+i]? =VU v
 |.agg xs,cs,o,p,hd,h,i,v,hv=>by
  simp only[roT,vals,RoC]at h hv;exact zHF xs cs p 0 o (fun z j x hx=>by have:=hd (z++[j]);simp only[Jd,L7,K9,Ud,G8,He,zDF]at this;rw[J6,this];simp[hx]) h i v hv
 |.lit _,cs,o,p,hd,h,i,v,hv|.ro _,cs,o,p,hd,h,i,v,hv|.any,cs,o,p,hd,h,i,v,hv|.sl _ _,cs,o,p,hd,h,i,v,hv|.ptr _,cs,o,p,hd,h,i,v,hv|.mp _ _,cs,o,p,hd,h,i,v,hv=>by
  obtain⟨v',h1,h2,h3⟩:=zGk rfl h;have:=hd [];rw[K9,zBv rfl]at this;simp only[roT,vals]at hv;cases i with
  |zero=>
   simp at hv;rw[←hv,this];simp[K1,h1,zAV h2]
  |succ i=>simp at hv
 |.same _ _,_,_,_,_,h,_,_,_|.addr _ _,_,_,_,_,h,_,_,_|.sub _ _ _ _ _,_,_,_,_,h,_,_,_|.tup _,_,_,_,_,h,_,_,_=>by simp only[RoC]at h
theorem zHF:(xs:List T)→ ∀(cs:Array Value)(p:List Nat)(j o:Nat),(∀z i x,xs[i]? =VU x→G.hd d (z++((j+i)::p))=zAj (zDF x cs (o+T.sizes (xs.take i)) z.reverse))→RoF St xs cs o→ ∀(i:Nat)(v:Value),(yD G d (roT.roTs xs) p j)[i]? =VU v→cs[o+i]? =VU v
 | [],_,_,_,_,_,_,i,v,hv=>by simp[roT.roTs,yD]at hv
 |x::xs,cs,p,j,o,hd,h,i,v,hv=>by
  simp only[roT.roTs,yD,RoF]at h hv;have hx:∀z,G.hd d (z++(j::p))=zAj (zDF x cs o z.reverse):=fun z=>by simpa[T.sizes]using hd z 0 x (by simp)
  have gm:(vals G d (roT x) (j::p)).length=x.size:=by have hs:(roT x).size=x.size:=zEo x (fun ys e=>by subst e;simp only[RoC]at h;exact h.1);rw[uA (roT x) (j::p) (fun ys e=>by cases x<;>simp[roT]at e),hs]
  rw[K8]at hv;split at hv
  ·exact zGl x cs o (j::p) hx h.1 i v hv
  ·have:=zHF xs cs p (j+1) (o+x.size) (fun z i y hy=>by
    have:=hd z (i+1) y (by simpa using hy);simp only[Kw,T.sizes]at this;rw[show j+1+i=j+(i+1)from by omega,show o+x.size+T.sizes (xs.take i)=o+(x.size+T.sizes (xs.take i))from Lf ..];exact this) h.2 _ v hv
   rwa [gm,show o+x.size+(i-x.size)=o+i from by omega]at this
end
mutual
theorem zMa:(u:T)→Top (roT u)
 |.agg xs=>by simp only[roT,Top];exact zJw xs
 |.lit _|.any|.sl _ _|.ptr _|.mp _ _|.ro _|.same _ _|.addr _ _|.sub _ _ _ _ _|.tup _=>by simp[roT,Top]
theorem zJw:(xs:List T)→tA (roT.roTs xs)
 | []=>by simp only[roT.roTs,tA]
 |x::xs=>by simp only[roT.roTs,tA];exact⟨zMa x,zJw xs⟩
end
end
section
variable {P:Program}{Γ:Ctx}{E:Env}{o:Oper}{d:Nat}
theorem zMb{G:Gh}{w:World}(hm:Mem Γ G w){b:Nat}{cs:Array Value}{e:TypeId}{fr:Nat×Nat}(h:Γ.St b=VU (.cells cs e fr))(i:Nat):w.cell? ⟨b,i,VV⟩=cs[i]?:=by simp[World.cell?,hm.st b _ h]
theorem zKY(x:Operand)(T':TypeId)(ds:TypeDesc)(ti:TypeInfo)(u:T)(ho:o.op=.load T' x)(gg:o.dst=VU d)(hd:d<Γ.N)
  (hT:P.underlying T'=VU ds)(hi:P.info? T'=VU ti)(eR:zEU ds= !u.single)(gv:ti.size=u.size)
  (hx:opT E x=VU (.ro (.ptr u))):wP P Γ o E (E.app [(d,VU (roT u))] [(d,0)]):=by
 refine wP.value gg fun a w G gc=>?_
 have h1:=zKX gc hx;simp only[RoC]at h1;obtain⟨b,o',cs',e,fr,h2,h3,h4⟩:=h1;have fK:a.eval x=.pointer (VU ⟨b,o',VV⟩):=by simpa using h2
 have gV:∀xs,u≠.tup xs:=by rintro xs rfl;simp only[RoC]at h4
 let f:List Nat→Value:=fun z=>zAj (zDF u cs' o' z.reverse)
 have hz:∀z,(G.put d f).hd d (z++[])=zAj (zDF u cs' o' z.reverse):=fun z=>by rw[Gh.put_self,Ja]
 refine⟨mkV (G.put d f) d (roT u) [],w,?_,_,uG gc rfl hd f (fun z=>zBA _) _ _ rfl (zOx u cs' o' [] hz h4) (zMa u)⟩;cases u with
 |agg xs=>
  have h5:∀j v,(yD (G.put d f) d (roT.roTs xs) [] 0)[j]? =VU v→w.cell? ((⟨b,o',VV⟩:Addr).add j)=VU v:=by intro j v hv;rw[tL,zMb gc.mem h3];exact zGl (.agg xs) cs' o' [] hz h4 j v (by simpa only[roT,vals]using hv)
  have h6:=run_loadCells_list (P:=P) (w:=w) ⟨b,o',VV⟩ _ h5;rw[wY,zEV]at h6;simp only[T.size]at gv;simp[T.single]at eR;simp[execOp,ho,fK,Instr.loadAt,sQ,loadVar,zAi hT,eR,sizeOf,typeInfo,hi,gv,h6,mkV,roT]
 |tup xs=>exact absurd rfl (gV xs)
 |_=>
  obtain⟨v,h5,h6,h7⟩:=zGk rfl h4;have h8:w.cell? ⟨b,o',VV⟩=VU v:=by rw[zMb gc.mem h3];exact h5
  simp[T.single]at eR;have h9:f []=v:=by show zAj (zDF _ cs' o' _)=v;rw[zBv rfl];simp[K1,h5,zAV h6]
  simp[execOp,ho,fK,Instr.loadAt,sQ,loadVar,zAi hT,eR,load,Sem.run,h8,mkV,roT,Gh.put_self,h9]
def zF5(E:Env)(x:Operand):Bool:=
 match opT E x with
 |some (.addr _ _)|some (.ro (.ptr _))=>VW
 |_=>match sD E x with
  |some (_,_,.ptr _)=>VW
  |some (_,_,.ro (.ptr _))=>VW
  |_=>VX
theorem zOz{G:Gh}{a:Act}{w:World}(gc:Rep Γ E G a.tmps w){x:Operand}(h:zF5 E x=VW):∃ad,a.eval x=.pointer (VU ad):=by
 unfold zF5 at h;split at h
 ·rename_i r q hx
  cases x with
  |tmp s=>
   obtain⟨h1,h2,_⟩:=gc.ent s _ hx;simp only[R]at h2;exact⟨_,by rw[wL h1,xY rfl,h2]⟩
  |const v=>simp only[opT]at hx;split at hx<;>simp at hx
  |func f=>simp[opT]at hx
  |global g=>simp[opT]at hx
 ·rename_i u hx
  have:=zKX gc hx;simp only[RoC]at this;obtain⟨b,o',_,_,_,h1,_⟩:=this;exact⟨_,by simpa using h1⟩
 ·split at h
  ·rename_i hl
   obtain⟨h1,h2⟩:=kK gc hl rfl;simp only[R]at h1;obtain⟨b,cs,e,h3,_⟩:=h1;exact⟨_,by rw[h2,h3]⟩
  ·rename_i hl
   obtain⟨h1,h2⟩:=kK gc hl rfl;simp only[R,RoC]at h1;obtain⟨b,o',_,_,_,h3,_⟩:=h1;exact⟨_,by rw[h2];simpa using h3⟩
  ·cases h
theorem zTE(x:Operand)(t:T)(ho:o.op=.nilCheck x)(gg:o.dst=VU d)(hd:d<Γ.N)(hx:opT E x=VU t)(hp:zF5 E x=VW)(ht:∀xs,t≠.tup xs)
  (gk:∀s,x=.tmp s→s≠d)(gM:T.okB [(d,0)] (tV x t)=VW):wP P Γ o E (E.app [(d,VU (tV x t))] [(d,0)]):=by
 refine wP.value gg fun a w G gc=>?_
 obtain⟨f,hf,h1,h2⟩:=opd gc hx ht;obtain⟨h3,h4⟩:=h1 d gk gM;obtain⟨ad,h5⟩:=zOz gc hp;refine⟨a.eval x,w,?_,_,uG gc rfl hd f hf _ _ h3 h4 h2⟩;simp[execOp,ho,h5]
theorem zJx{G:Gh}{s:Nat}:(xs:List T)→ ∀(p:List Nat)(j i:Nat)(x:T),xs[i]? =VU x→(zA8 G s xs p j)[i]? =VU (qH G s x ((j+i)::p))
 | [],_,_,_,_,h=>by simp at h
 |y::ys,p,j,i,x,h=>by
  cases i with
  |zero=>simp at h;subst h;simp[zA8]
  |succ i=>
   have:=zJx (G:=G) (s:=s) ys p (j+1) i x (by simpa using h);rw[show j+(i+1)=j+1+i from by omega];simpa[zA8]using this
theorem zKZ(s i:Nat)(ts:List T)(t:T)(ho:o.op=.extract (.tmp s) i)(gg:o.dst=VU d)(hd:d<Γ.N)(hs:E s=VU (.tup ts))(hi:ts[i]? =VU t)(ht:∀xs,t≠.tup xs)
  (gk:s≠d)(gM:T.okB [(d,0)] (cpT s t [i])=VW):wP P Γ o E (E.app [(d,VU (cpT s t [i]))] [(d,0)]):=by
 refine wP.value gg fun a w G gc=>?_
 obtain⟨h1,h2,_⟩:=gc.ent s _ hs;simp only[R]at h2;have h3:=zB1 ts [] 0 i t h2 hi;simp only[J6]at h3;have h4:=zJx (G:=G) (s:=s) ts [] 0 i t hi;simp only[J6]at h4;have hk:=G.put_keep (w:=w) (w':=w) rfl d (fun z=>G.hd s (z++[i]));have hz:∀z,(G.put d (fun z=>G.hd s (z++[i]))).hd d (z++[])=G.hd s (z++[i]):=fun z=>by rw[Gh.put_self,Ja]
 refine⟨qH G s t [i],w,?_,_,uG gc rfl hd (fun z=>G.hd s (z++[i])) (fun z=>gc.mem.one _ _) _ _ (zBh t [i] [] ht hz).symm
  (zDD (fun p=>G.put_other _ p gk) t [i] [] hz ht (hk.keepR (zBs _ (jS s t [i]) gM)) h3) (jS s t [i])⟩
 simp[execOp,ho,wL h1,mkV,Instr.extract,h4]
def zBX(E:Env)(x:Option Operand)(dflt n:Nat):Prop:=
 match x with
 |none=>n=dflt
 |some y=> ∃kd,opT E y=VU (.lit (.int kd n))
theorem zGm{St:Stb}:(xs:List T)→ ∀(cs:Array Value)(o k l:Nat),RoL St xs cs o k→RoL St (xs.drop l) cs (o+l*k) k
 | [],_,_,_,_,_=>by simp[RoL]
 |x::xs,cs,o,k,l,h=>by
  cases l with
  |zero=>simpa using h
  |succ l=>
   simp only[RoL]at h;have:=zGm xs cs (o+k) k l h.2
   rwa [List.drop_succ_cons,show o+(l+1)*k=o+k+l*k from by rw[La];omega]
theorem zGn{St:Stb}:(xs:List T)→ ∀(cs:Array Value)(o k l:Nat),RoL St xs cs o k→RoL St (xs.take l) cs o k
 | [],_,_,_,_,_=>by simp[RoL]
 |x::xs,cs,o,k,l,h=>by
  cases l with
  |zero=>simp[RoL]
  |succ l=>simp only[RoL,Kw]at h ⊢;exact⟨h.1,zGn xs cs _ k l h.2⟩
theorem zCW{P:Program}{G:Gh}{a:Act}{w:World}(gc:Rep Γ E G a.tmps w){x:Operand}{kd:IntKind}{n y:Nat}{c:BoundsCode}(hx:opT E x=VU (.lit (.int kd n)))(h:n≤y):
  (Instr.sliceBound (a.eval x) y c).run P w=.ok n w:=by
 rw[(wI gc hx).1];have:(n:Int)≤(y:Int):=by omega
 simp[Instr.sliceBound,asIntOf,this]
theorem zGo{P:Program}{G:Gh}{a:Act}{w:World}(gc:Rep Γ E G a.tmps w){lo hi:Option Operand}{l h n c:Nat}(ev:zBX E lo 0 l)(fd:zBX E hi n h)(h1:l≤h)(h2:h≤c):
  (Instr.sliceBounds VW n c (lo.map a.eval) (hi.map a.eval) VV).run P w=.ok (l,h,c) w:=by
 cases lo with
 |none=>
  cases hi with
  |none=>simp only[zBX]at ev fd;subst ev;subst fd;simp[Instr.sliceBounds]
  |some y=>simp only[zBX]at ev fd;obtain⟨kd,hy⟩:=fd;subst ev;simp[Instr.sliceBounds,zCW gc hy h2]
 |some x=>
  obtain⟨kd,hx⟩:=ev;cases hi with
  |none=>simp only[zBX]at fd;subst fd;simp[Instr.sliceBounds,zCW gc hx h1]
  |some y=>obtain⟨kd',hy⟩:=fd;simp[Instr.sliceBounds,zCW gc hy h2,zCW gc hx h1]
theorem zJy(x:Operand)(lo hi:Option Operand)(t e:TypeId)(ti:TypeInfo)(r:Nat)(q:List Nat)(k:Nat)(xs:List T)(l h:Nat)(ho:o.op=.slice t x lo hi VV)(gg:o.dst=VU d)(hd:d<Γ.N)
  (ht:P.underlying t=VU (.slice e))(he:P.info? e=VU ti)(hk:ti.size=k)(hx:sD E x=VU (r,q,.ro (.sl k xs)))(ev:zBX E lo 0 l)(fd:zBX E hi xs.length h)(h1:l≤h)(h2:h≤xs.length):
  wP P Γ o E (E.app [(d,VU (.ro (.sl k ((xs.drop l).take (h-l)))))] [(d,0)]):=by
 refine wP.value gg fun a w G gc=>?_
 obtain⟨g1,g2⟩:=kK gc hx rfl;obtain⟨a',c,g4,g5,g6,g7⟩:=zCV g1;have g8:=zGo (P:=P) gc ev fd h1 (Lh h2 g5);have gm:((xs.drop l).take (h-l)).length=h-l:=by simp;omega
 refine⟨.slice (if c=l then a' else a'.map (·.add (l*k))) (h-l) (c-l),w,?_,_,uG gc rfl hd (fun _=>.slice (if c=l then a' else a'.map (·.add (l*k))) (h-l) (c-l)) (fun _=>rfl) _ _ (by simp[mkV,Gh.put]) ?_ (by simp[Top])⟩
 ·simp only[execOp,ho,Um]
  simp[Instr.sliceAt,Instr.slice,run_underlying ht,g2,g4,g8,sizeOf,typeInfo,he,hk]
 ·simp only[R,Gh.put_self,RoC]
  refine⟨_,_,by rw[gm];rfl,by omega,by omega,?_⟩;intro gk;have ei:xs≠[]:=by rintro rfl;simp at gk
  obtain⟨b,o',cs',e',fr,rfl,h3,h4⟩:=g7 ei;have gK:c≠l:=by rintro rfl;apply gk;apply Js;omega
  exact⟨b,o'+l*k,cs',e',fr,by simp[gK,tL],h3,zGn _ _ _ _ _ (zGm _ _ _ _ _ h4)⟩
theorem zIE(x:Operand)(lo hi:Option Operand)(t e:TypeId)(ti:TypeInfo)(r:Nat)(q:List Nat)(k:Nat)(xs:List T)(l h:Nat)(ho:o.op=.slice t x lo hi VV)(gg:o.dst=VU d)(hd:d<Γ.N)
  (ht:P.underlying t=VU (.slice e))(he:P.info? e=VU ti)(hk:ti.size=k)(hx:sD E x=VU (r,q,.sl k xs))(ev:zBX E lo 0 l)(fd:zBX E hi xs.length h)(h1:l≤h)(h2:h≤xs.length)(gx:r≠d):
  wP P Γ o E (E.app [(d,VU (.sub r q k l h))] [(d,0)]):=by
 refine wP.value gg fun a w G gc=>?_
 obtain⟨g1,g2⟩:=kK gc hx rfl;obtain⟨a',c,g4⟩:=zID g1;have g5:xs.length≤c:=by
  simp only[R]at g1;rcases g1 with⟨rfl,_⟩|⟨b,o0,cap,cs,e,g,_,g',_⟩
  ·simp
  ·rw[g4]at g;simp at g;omega
 have g8:=zGo (P:=P) gc ev fd h1 (Lh h2 g5);refine⟨zB6 (G.hd r q) k l h,w,?_,_,uG gc rfl hd (fun _=>zB6 (G.hd r q) k l h) (fun _=>by rw[g4];rfl) _ _ (by simp[mkV,Gh.put]) ?_ (by simp[Top])⟩
 ·simp only[execOp,ho,Um]
  simp[Instr.sliceAt,Instr.slice,run_underlying ht,g2,g4,g8,sizeOf,typeInfo,he,hk,zB6]
 ·simp only[R,Gh.put_self]
  rw[Gh.put_other _ _ _ gx]
end
end Go.Ab

namespace Go.Ab
open Go
def T.inT:T→List Nat→Bool
 |_,[]=>VW
 |.agg xs,i::f=>match xs[i]? with
  |some x=>x.inT f
  |none=>VX
 |.any,_::_|.lit _,_::_|.ro _,_::_|.same _ _,_::_|.addr _ _,_::_|.sub _ _ _ _ _,_::_|.sl _ _,_::_|.ptr _,_::_|.mp _ _,_::_|.tup _,_::_=>VX
termination_by structural _ f=>f
def T.offT:T→List Nat→Nat
 |_,[]=>0
 |.agg xs,i::f=>match xs[i]? with
  |some x=>T.sizes (xs.take i)+x.offT f
  |none=>0
 |.any,_::_|.lit _,_::_|.ro _,_::_|.same _ _,_::_|.addr _ _,_::_|.sub _ _ _ _ _,_::_|.sl _ _,_::_|.ptr _,_::_|.mp _ _,_::_|.tup _,_::_=>0
termination_by structural _ f=>f
theorem zGp{t:T}(h:t.single=VW){f:List Nat}(hf:f≠[]):t.inT f=VX:=by
 cases f with
 |nil=>grind
 |cons i f=>cases t<;>simp[T.single]at h<;>rfl
mutual
def zO0:T→List Nat→Nat→Option (List Nat)
 |.agg xs,p,o=>zC7 xs p 0 o
 |.any,p,o|.lit _,p,o|.ro _,p,o|.same _ _,p,o|.addr _ _,p,o|.sub _ _ _ _ _,p,o|.sl _ _,p,o|.ptr _,p,o|.mp _ _,p,o|.tup _,p,o=>if o=0 then VU p else VV
def zC7:List T→List Nat→Nat→Nat→Option (List Nat)
 | [],_,_,_=>VV
 |x::xs,p,j,o=>if o<x.size then zO0 x (j::p) o else zC7 xs p (j+1) (o-x.size)
end
mutual
def T.okTup:T→Bool
 |.tup _=>VX
 |.agg xs=>yN xs
 |.any|.lit _|.ro _|.same _ _|.addr _ _|.sub _ _ _ _ _|.sl _ _|.ptr _|.mp _ _=>VW
def yN:List T→Bool
 | []=>VW
 |x::xs=>x.okTup&&yN xs
end
theorem zDG:(xs:List T)→ ∀(p:List Nat)(j o:Nat),T.sizes xs≤o→zC7 xs p j o=VV
 | [],_,_,_,_=>by rfl
 |x::xs,p,j,o,h=>by simp only[T.sizes]at h;simp only[zC7];rw[if_neg (by omega)];exact zDG xs p (j+1) _ (by omega)
section
variable {G:Gh}{w:World}{d:Nat}
mutual
theorem zTF:(x:T)→ ∀(p:List Nat)(B o:Nat),(∀xs,x≠.tup xs)→x.okTup=VW→
  (∀f,x.inT f=VW→G.ad d (f.reverse++p)=⟨B,o+x.offT f,VV⟩)→(∀j p',j<x.size→zO0 x p j=VU p'→G.lb B (o+j)=VU (VX,d,p'))→
  (∀j v,(vals G d x p)[j]? =VU v→yX w B (o+j)=VU v)→Loc G w d x p B o
 |.agg xs,p,B,o,_,hn,ha,hl,hc=>by
  simp only[Loc];refine⟨by simpa[T.offT]using ha [] rfl,zFU xs p 0 B o (by grind[T.okTup]) (fun i x hx f hf=>?_) (fun j p' hj hp=>?_) (by grind[vals])⟩
  ·have:=ha (i::f) (by grind[T.inT])
   grind[T.offT]
  grind[T.size,zO0]
 |.any,p,B,o,_,_,ha,hl,hc|.lit _,p,B,o,_,_,ha,hl,hc|.ro _,p,B,o,_,_,ha,hl,hc|.same _ _,p,B,o,_,_,ha,hl,hc|.addr _ _,p,B,o,_,_,ha,hl,hc|.sub _ _ _ _ _,p,B,o,_,_,ha,hl,hc|.sl _ _,p,B,o,_,_,ha,hl,hc|.ptr _,p,B,o,_,_,ha,hl,hc|.mp _ _,p,B,o,_,_,ha,hl,hc=>by simp only[Loc];exact⟨by simpa[T.offT]using ha [] rfl,by simpa using hl 0 p (by simp[T.size]) (by rfl),by simpa using hc 0 (G.hd d p) (by simp[vals])⟩
 |.tup xs,_,_,_,h,_,_,_,_=>absurd rfl (h xs)
theorem zFU:(xs:List T)→ ∀(p:List Nat)(j B o:Nat),yN xs=VW→
  (∀i x,xs[i]? =VU x→ ∀f,x.inT f=VW→G.ad d (f.reverse++((j+i)::p))=⟨B,o+(T.sizes (xs.take i)+x.offT f),VV⟩)→
  (∀i p',i<T.sizes xs→zC7 xs p j i=VU p'→G.lb B (o+i)=VU (VX,d,p'))→
  (∀i v,(yD G d xs p j)[i]? =VU v→yX w B (o+i)=VU v)→uN G w d xs p j B o
 | [],_,_,_,_,_,_,_,_=>by simp only[uN]
 |x::xs,p,j,B,o,hn,ha,hl,hc=>by
  simp only[yN,J1]at hn;have gV:∀ys,x≠.tup ys:=by rintro ys rfl;grind[T.okTup]
  simp only[uN];refine⟨zTF x (j::p) B o gV hn.1 (fun f hf=>by simpa[T.sizes]using ha 0 x (by simp) f hf) (fun i p' hi hp=>hl i p' (by grind[T.sizes]) (by simp only[zC7,hi,if_true];exact hp)) (fun i v hv=>hc i v ?_),
   zFU xs p (j+1) B (o+x.size) hn.2 (fun i y hy f hf=>?_) (fun i p' hi hp=>?_) (fun i v hv=>?_)⟩
  ·grind[yD]
  ·have:=ha (i+1) y (by grind) f hf
   grind[T.sizes]
  ·have:=hl (x.size+i) p' (by grind[T.sizes]) (by simp only[zC7];grind)
   grind
  ·have:=hc (x.size+i) v (by
    grind[yD,uA])
   grind
end
end
structure MvC (G:Gh) (w:World) (G':Gh) (w':World) (s:Nat) (p:List Nat) (s':Nat) (p':List Nat) (t:T):Prop where
 hd:∀z,G'.hd s' (z++p')=G.hd s (z++p)
 ad:∀z,t.inT z.reverse=VX→G'.ad s' (z++p')=G.ad s (z++p)
 lb:∀b o f z,(f=VW∨t.inT z.reverse=VX)→G.lb b o=VU (f,s,z++p)→G'.lb b o=VU (f,s',z++p')∧yX w' b o=yX w b o
 ow:∀b z,G.ow b=VU (s,z++p)→G'.ow b=VU (s',z++p')
 blk:Blk w w'
 mp:∀b z ms c,G.ow b=VU (s,z++p)→w.heap[b]? =VU (.map ms c)→w'.heap[b]? =VU (.map ms c)
section
variable {St:Stb}{G:Gh}{w:World}{G':Gh}{w':World}{s:Nat}{s':Nat}
theorem MvC.moves{p p':List Nat}{t:T}(h:MvC G w G' w' s p s' p' t)(ht:t.single=VW):zHC G w G' w' s p s' p' where
 hd:=h.hd
 ad z hz:=h.ad z (zGp ht (by simp_all))
 lb b o f z hz _ hl:=h.lb b o f z (.inr (zGp ht (by simp_all))) hl
 ow b z _ hl:=h.ow b z hl
 blk:=h.blk
 mp:=h.mp
 sp b o _ hl:=by simpa using h.lb b o VW [] (.inl rfl) (by grind)
 ow0 b hl:=by simpa using h.ow b [] (by grind)
theorem MvC.field{p p':List Nat}{xs:List T}(h:MvC G w G' w' s p s' p' (.agg xs)){j:Nat}{x:T}(hx:xs[j]? =VU x):MvC G w G' w' s (j::p) s' (j::p') x where
 hd z:=by have:=h.hd (z++[j]);grind
 ad z hz:=by
  have:=h.ad (z++[j]) (by grind[T.inT])
  grind
 lb b o f z hf hl:=by
  have:=h.lb b o f (z++[j]) (by grind[T.inT]) (by grind)
  grind
 ow b z hl:=by
  have:=h.ow b (z++[j]) (by grind)
  grind
 blk:=h.blk
 mp b z ms c hl hb:=h.mp b (z++[j]) ms c (by simpa using hl) hb
mutual
theorem zJz:(t:T)→ ∀(p p':List Nat),t.okTup=VW→MvC G w G' w' s p s' p' t→xE (zAO G G') t→R St G w s t p→R St G' w' s' t p'
 |.agg xs,p,p',hn,h,hk,hr=>by
  simp only[R,xE,T.okTup]at hr hk hn ⊢
  exact zO1 xs p p' 0 hn (fun j x hx=>by rw[J6];exact h.field hx) hk hr
 |.any,p,p',_,h,hk,hr|.lit _,p,p',_,h,hk,hr|.ro _,p,p',_,h,hk,hr|.same _ _,p,p',_,h,hk,hr|.addr _ _,p,p',_,h,hk,hr|.sub _ _ _ _ _,p,p',_,h,hk,hr|.sl _ _,p,p',_,h,hk,hr|.ptr _,p,p',_,h,hk,hr|.mp _ _,p,p',_,h,hk,hr=>
  zAU (h.moves rfl) _ hk hr
 |.tup _,_,_,hn,_,_,_=>by grind[T.okTup]
theorem zO1:(xs:List T)→ ∀(p p':List Nat)(j:Nat),yN xs=VW→(∀i x,xs[i]? =VU x→MvC G w G' w' s ((j+i)::p) s' ((j+i)::p') x)→xZ (zAO G G') xs→RF St G w s xs p j→RF St G' w' s' xs p' j
 | [],_,_,_,_,_,_,_=>by simp only[RF]
 |x::xs,p,p',j,hn,h,hk,hr=>by
  simp only[RF,xZ,yN,J1]at hr hk hn ⊢
  exact⟨zJz x (j::p) (j::p') hn.1 (by simpa using h 0 x (by simp)) hk.1 hr.1,zO1 xs p p' (j+1) hn.2 (fun i y hy=>by
   have:=h (i+1) y (by grind)
   grind) hk.2 hr.2⟩
end
end
theorem zMc{St:Stb}{G:Gh}{w:World}{s:Nat}:(xs:List T)→ ∀(p:List Nat)(j:Nat),(∀i x,xs[i]? =VU x→R St G w s x ((j+i)::p))→RF St G w s xs p j
 | [],_,_,_=>by simp only[RF]
 |x::xs,p,j,h=>by
  simp only[RF];exact⟨by simpa using h 0 x (by simp),zMc xs p (j+1) (fun i y hy=>by
   have:=h (i+1) y (by grind)
   grind)⟩
theorem zO2{St:Stb}{G:Gh}{w:World}{s:Nat}{k:Nat}:(xs:List T)→ ∀(p:List Nat)(j b o:Nat),(∀x∈xs,x.size=k)→uN G w s xs p j b o→RF St G w s xs p j→RL St G w s xs p j b o k
 | [],_,_,_,_,_,_,_=>by simp only[RL]
 |x::xs,p,j,b,o,hk,hl,hr=>by
  simp only[RL,uN,RF]at hl hr ⊢
  have h1:=hk x (by simp);exact⟨⟨hl.1,h1⟩,hr.1,zO2 xs p (j+1) b (o+k) (by grind) (by grind) hr.2⟩
theorem vM{k:Nat}:(xs:List T)→(∀x∈xs,x.size=k)→T.sizes xs=xs.length*k
 | [],_=>by simp[T.sizes]
 |x::xs,h=>by simp[T.sizes,vM xs (fun y hy=>h y (by simp[hy])),h x (by simp),La];omega
def Gh.nb(G:Gh)(d B:Nat)(xs:List T)(src:Nat→Option (Nat×List Nat))(φ:Nat→List Nat→Option (List Nat))(f:Nat→List Nat→Value)(gU:Value):Gh where
 hd s z:=if s=d then(match z.getLast? with
  |some i=>f i z.dropLast
  |none=>gU)else G.hd s z
 ad s z:=if s=d then(if(T.agg xs).inT z.reverse then⟨B,(T.agg xs).offT z.reverse,VV⟩else match z.getLast? with
  |some i=>(match src i with
   |some (x,q)=>G.ad x (z.dropLast++q)
   |none=>default)
  |none=>default)else G.ad s z
 lb b o:=if b=B then VU (match zC7 xs [] 0 o with
  |some p=>(VX,d,p)
  |none=>(VW,d,[]))else match G.lb b o with
  |some (fl,s,z)=>(match φ s z with
   |some z'=>VU (fl,d,z')
   |none=>VU (fl,s,z))
  |none=>VV
 ow b:=if b=B then VU (d,[])else match G.ow b with
  |some (s,z)=>(match φ s z with
   |some z'=>VU (d,z')
   |none=>VU (s,z))
  |none=>VV
theorem zCX{Γ:Ctx}{G:Gh}{w w':World}(hm:Mem Γ G w){cells:Array Value}{e:TypeId}(hw:w'.heap=w.heap.push (.cells cells e))(d:Nat)(xs:List T)
  (src:Nat→Option (Nat×List Nat))(φ:Nat→List Nat→Option (List Nat))(f:Nat→List Nat→Value)(gU:Value)(chg:Chg)
  (gM:yN xs=VW)(hf:∀(i:Nat)(z:List Nat),(f i z).oneCell'=VW)(hh:gU.oneCell'=VW)
  (hφ:∀(i:Nat) u x q(z:List Nat),xs[i]? =VU u→src i=VU (x,q)→φ x (z++q)=VU (z++[i]))
  (iC:∀(i:Nat) u x q,xs[i]? =VU u→src i=VU (x,q)→(∀z,f i z=G.hd x (z++q))∧R Γ.St G w x u q∧zW u∧x≠d)
  (dh:∀(i:Nat) u,xs[i]? =VU u→src i=VV→ ∀(G2:Gh)(w2:World),(∀z,G2.hd d (z++[i])=f i z)→R Γ.St G2 w2 d u [i])
  (fD:∀(G2:Gh),(∀i z,G2.hd d (z++[i])=f i z)→ ∀(o:Nat)(v:Value),(yD G2 d xs [] 0)[o]? =VU v→cells[o]? =VU v)
  (dA:∀s p,(∀n,(s,n)∉(d,0)::chg)→φ s p=VV)(ho:w'.os=w.os:=by rfl)(hq:w'.output=w.output:=by rfl):
  zAF ((d,0)::chg) G w (G.nb d w.heap.size xs src φ f gU) w'∧Mem Γ (G.nb d w.heap.size xs src φ f gU) w'∧
  uN (G.nb d w.heap.size xs src φ f gU) w' d xs [] 0 w.heap.size 0∧RF Γ.St (G.nb d w.heap.size xs src φ f gU) w' d xs [] 0∧
  w'.heap[w.heap.size]? =VU (.cells cells e):=by
 have eb:w'.heap[w.heap.size]? =VU (.cells cells e):=by grind
 have gB:∀b,b<w.heap.size→w'.heap[b]? =w.heap[b]?:=fun b hb=>by rw[hw,Array.getElem?_push];grind
 have gv:w'.heap.size=w.heap.size+1:=by grind
 have eE:∀b o,b<w.heap.size→yX w' b o=yX w b o:=fun b o hb=>by simp[yX,World.cell?,gB b hb]
 have gH:Blk w w':=fun b cs e' h=>⟨cs,by rw[gB b (by grind)];exact h,rfl⟩
 have gA:=hm.one
 generalize gp:G.nb d w.heap.size xs src φ f gU=G'
 have ghd:∀i z,G'.hd d (z++[i])=f i z:=fun i z=>by rw[←gp];simp[Gh.nb]
 have gad:∀g,(T.agg xs).inT g=VW→G'.ad d g.reverse=⟨w.heap.size,(T.agg xs).offT g,VV⟩:=fun g hg=>by rw[←gp];simp[Gh.nb,hg]
 have gadm:∀i x q z,src i=VU (x,q)→(T.agg xs).inT (i::z.reverse)=VX→G'.ad d (z++[i])=G.ad x (z++q):=fun i x q z hs ej=>by rw[←gp];simp[Gh.nb,ej,hs]
 have glb:∀o p,zC7 xs [] 0 o=VU p→G'.lb w.heap.size o=VU (VX,d,p):=fun o p h=>by rw[←gp];simp[Gh.nb,h]
 have glbm:∀b o fl x z z',G.lb b o=VU (fl,x,z)→φ x z=VU z'→G'.lb b o=VU (fl,d,z'):=fun b o fl x z z' h1 h2=>by have:=(hm.lb b o _ h1).1;rw[←gp];simp[Gh.nb,h1,h2,show b≠w.heap.size from by omega]
 have gowm:∀b x z z',G.ow b=VU (x,z)→φ x z=VU z'→G'.ow b=VU (d,z'):=fun b x z z' h1 h2=>by have:=(hm.ow b _ h1).1;rw[←gp];simp[Gh.nb,h1,h2,show b≠w.heap.size from by omega]
 have gk:∀s p,Off ((d,0)::chg) s p→s≠d:=fun s p h e=>absurd (h 0 (by simp[e])) (by simp)
 have gy:zAF ((d,0)::chg) G w G' w':=by
  refine⟨fun s p h=>?_,fun s p h=>?_,fun b o fl s p _ hl h=>⟨?_,eE b o (hm.lb b o _ hl).1⟩,fun b s p hl h=>?_,gH,fun b s p ms c hl _ hb=>by rw[gB b (hm.ow b _ hl).1];exact hb⟩
  ·rw[←gp];simp[Gh.nb,gk s p h]
  ·rw[←gp];simp[Gh.nb,gk s p h]
  ·have:=(hm.lb b o _ hl).1
   rw[←gp];simp[Gh.nb,hl,dA s p h,show b≠w.heap.size from by omega]
  ·have:=(hm.ow b _ hl).1
   rw[←gp];simp[Gh.nb,hl,dA s p h,show b≠w.heap.size from by omega]
 refine⟨gy,?_,?_,?_,eb⟩
 ·
  have hB:zC4 Γ w' w.heap.size:=⟨by omega,.inl hm.sz,by
   cases gJ:Γ.St w.heap.size with
   |none=>rfl
   |some x=>have:=hm.st _ x gJ;simp at this⟩
  have fR:∀b,zC4 Γ w b→zC4 Γ w' b:=fun b h=>⟨by have:=h.1;omega,h.2⟩
  refine⟨fun s p=>?_,fun b o l hl=>?_,fun b l hl=>?_,fun b x hx=>?_,fun b h1 h2=>?_,by have:=hm.sz;omega,hm.bk.trans gH ho hq⟩
  ·rw[←gp]
   simp only[Gh.nb];split
   ·split
    ·exact hf _ _
    ·exact hh
   ·exact gA s p
  ·rw[←gp]at hl
   simp only[Gh.nb]at hl;split at hl
   ·grind
   ·split at hl
    ·rename_i hg;exact fR b (hm.lb b o _ hg)
    ·cases hl
  ·rw[←gp]at hl
   simp only[Gh.nb]at hl;split at hl
   ·grind
   ·split at hl
    ·rename_i hg;exact fR b (hm.ow b _ hg)
    ·cases hl
  ·have:=hm.st b x hx
   rw[gB b (L9.1 this).1];exact this
  ·rw[gB b (Un h1 hm.sz)]
   exact hm.fr b h1 h2
 ·
  refine zFU xs [] 0 w.heap.size 0 gM (fun i x hx g hg=>?_) (fun i p' _ hp=>by simpa using glb i p' hp) (fun i v hv=>?_)
  ·have:=gad (i::g) (by simp only[T.inT,hx];exact hg)
   simpa[T.offT,hx]using this
  ·have:=fD G' ghd i v hv
   rw[J6];simp[yX,World.cell?,eb,this]
 ·
  refine zMc xs [] 0 (fun i u hu=>?_);rw[J6];cases hs:src i with
  |none=>exact dh i u hu hs G' w' (fun z=>ghd i z)
  |some xq=>
   obtain⟨x,q⟩:=xq;obtain⟨h1,h2,h3,h4⟩:=iC i u x q hu hs;have ej:∀g,(T.agg xs).inT (i::g)=u.inT g:=fun g=>by simp only[T.inT,hu]
   refine zJz u q [i] (okTups_get xs gM i u hu) ⟨fun z=>by rw[ghd,h1],fun z hz=>gadm i x q z hs (by rw[ej];exact hz),fun b o fl z hz hl=>⟨glbm b o fl x _ _ hl (hφ i u x q z hu hs),eE b o (hm.lb b o _ hl).1⟩,
    fun b z hl=>gowm b x _ _ hl (hφ i u x q z hu hs),gH,fun b z ms c hl hb=>by rw[gB b (hm.ow b _ hl).1];exact hb⟩ (xE.mono (by simp) u h3) h2
where okTups_get:(xs:List T)→yN xs=VW→ ∀(i:Nat)(x:T),xs[i]? =VU x→x.okTup=VW
 | [],_,_,_,h=>by simp at h
 |y::ys,hk,i,x,h=>by
  simp only[yN,J1]at hk;cases i with
  |zero=>grind
  |succ i=>exact okTups_get ys hk.2 i x (by grind)
end Go.Ab

namespace Go.Ab
open Go
inductive yR where
 |slot (s:Nat) (t:T)
 |zero (u:T)
def yR.tree:yR→T
 |.slot _ t=>t
 |.zero u=>u
def qI:T→Bool
 |.lit _|.ro _=>VX
 |_=>VW
mutual
def T.zOk:T→Bool
 |.lit v=>v.oneCell'
 |.sl _ xs=>xs.isEmpty
 |.agg xs=>zAW xs
 |.any|.ro _|.same _ _|.addr _ _|.sub _ _ _ _ _|.ptr _|.tup _|.mp _ _=>VX
def zAW:List T→Bool
 | []=>VW
 |x::xs=>x.zOk&&zAW xs
end
def zhd:T→List Nat→Value
 |.agg xs,i::f=>match xs[i]? with
  |some x=>zhd x f
  |none=>.bool VX
 |.lit v,_=>v
 |.sl _ _,_=>.slice VV 0 0
 |.agg _,[] |.any,_|.ro _,_|.same _ _,_|.addr _ _,_|.sub _ _ _ _ _,_|.ptr _,_|.tup _,_|.mp _ _,_=>.bool VX
termination_by structural _ f=>f
mutual
def sG:T→List Value
 |.lit v=>[v]
 |.sl _ _=>[.slice VV 0 0]
 |.agg xs=>jN xs
 |.any|.ro _|.same _ _|.addr _ _|.sub _ _ _ _ _|.ptr _|.tup _|.mp _ _=>[]
def jN:List T→List Value
 | []=>[]
 |x::xs=>sG x++jN xs
end
section
variable {St:Stb}{G:Gh}{w:World}{d:Nat}
mutual
theorem zIF:(u:T)→ ∀(p:List Nat),u.zOk=VW→(∀z,G.hd d (z++p)=zAj (zhd u z.reverse))→R St G w d u p
 |.lit v,p,h,hd=>by
  simp only[T.zOk,R]at h ⊢
  have:=hd [];rw[K9]at this;rw[this];exact zAV h
 |.sl k xs,p,h,hd=>by simp only[T.zOk,Uw]at h;subst h;have:=hd [];rw[K9]at this;simp only[R];exact .inl ⟨trivial,VV,by rw[this];rfl⟩
 |.agg xs,p,h,hd=>by
  simp only[T.zOk,R]at h ⊢
  exact zMd xs p 0 h (fun i x hx z=>by
   rw[J6];have:=hd (z++[i])
   grind[zhd])
 |.any,_,h,_|.ro _,_,h,_|.same _ _,_,h,_|.addr _ _,_,h,_|.sub _ _ _ _ _,_,h,_|.ptr _,_,h,_|.tup _,_,h,_|.mp _ _,_,h,_=>by grind[T.zOk]
theorem zMd:(xs:List T)→ ∀(p:List Nat)(j:Nat),zAW xs=VW→(∀i x,xs[i]? =VU x→ ∀z,G.hd d (z++((j+i)::p))=zAj (zhd x z.reverse))→RF St G w d xs p j
 | [],_,_,_,_=>by simp only[RF]
 |x::xs,p,j,h,hd=>by
  simp only[zAW,J1,RF]at h ⊢
  exact⟨zIF x (j::p) h.1 (by simpa using hd 0 x (by simp)),zMd xs p (j+1) h.2 (fun i y hy z=>by
   have:=hd (i+1) y (by grind) z
   grind)⟩
end
end
section
variable {G:Gh}{d:Nat}
mutual
theorem zEW:(u:T)→ ∀(p:List Nat),u.zOk=VW→(∀z,G.hd d (z++p)=zAj (zhd u z.reverse))→vals G d u p=sG u
 |.lit v,p,h,hd=>by
  simp only[T.zOk,vals,sG]at h ⊢
  have:=hd []
  grind[zhd,zAV]
 |.sl k xs,p,h,hd=>by
  have:=hd []
  grind[vals,sG,zhd,zAj,Value.oneCell']
 |.agg xs,p,h,hd=>by
  simp only[T.zOk,vals,sG]at h ⊢
  exact zDH xs p 0 h (fun i x hx z=>by
   rw[J6];have:=hd (z++[i])
   grind[zhd])
 |.any,_,h,_|.ro _,_,h,_|.same _ _,_,h,_|.addr _ _,_,h,_|.sub _ _ _ _ _,_,h,_|.ptr _,_,h,_|.tup _,_,h,_|.mp _ _,_,h,_=>by grind[T.zOk]
theorem zDH:(xs:List T)→ ∀(p:List Nat)(j:Nat),zAW xs=VW→(∀i x,xs[i]? =VU x→ ∀z,G.hd d (z++((j+i)::p))=zAj (zhd x z.reverse))→yD G d xs p j=jN xs
 | [],_,_,_,_=>by rfl
 |x::xs,p,j,h,hd=>by
  simp only[zAW,J1,yD,jN]at h ⊢
  rw[zEW x (j::p) h.1 (by simpa using hd 0 x (by simp)),zDH xs p (j+1) h.2 (fun i y hy z=>by
   have:=hd (i+1) y (by grind) z
   grind)]
end
end
mutual
theorem zBB:(u:T)→u.zOk=VW→zW u∧u.okTup=VW
 |.lit _,_=>by simp[zW,xE,T.okTup]
 |.sl _ xs,h=>by simp only[T.zOk,Uw]at h;subst h;simp[zW,xE,xZ,T.okTup]
 |.agg xs,h=>by simp only[T.zOk]at h;simpa only[zW,xE,T.okTup]using zBY xs h
 |.any,h|.ro _,h|.same _ _,h|.addr _ _,h|.sub _ _ _ _ _,h|.ptr _,h|.tup _,h|.mp _ _,h=>by grind[T.zOk]
theorem zBY:(xs:List T)→zAW xs=VW→xH xs∧yN xs=VW
 | [],_=>by simp[xH,xZ,yN]
 |x::xs,h=>by simp only[zAW,J1]at h;simp only[xH,xZ,yN,J1];exact⟨⟨(zBB x h.1).1,(zBY xs h.2).1⟩,(zBB x h.1).2,(zBY xs h.2).2⟩
end
mutual
theorem uH:(u:T)→u.zOk=VW→(sG u).length=u.size
 |.lit _,_|.sl _ _,_=>by rfl
 |.agg xs,h=>by simp only[T.zOk]at h;simp only[sG,T.size];exact zB2 xs h
 |.any,h|.ro _,h|.same _ _,h|.addr _ _,h|.sub _ _ _ _ _,h|.ptr _,h|.tup _,h|.mp _ _,h=>by grind[T.zOk]
theorem zB2:(xs:List T)→zAW xs=VW→(jN xs).length=T.sizes xs
 | [],_=>by rfl
 |x::xs,h=>by simp only[zAW,J1]at h;simp only[jN,Ji,T.sizes,uH x h.1,zB2 xs h.2]
end
def zGq(ps:List yR)(i:Nat):Option (Nat×List Nat):=
 match ps[i]? with
 |some (.slot s t)=>if qI t then VU (s,[])else VV
 |_=>VV
def zHs:List yR→Nat→Nat→Option Nat
 | [],_,_=>VV
 |.slot x t::r,i,s=>if qI t&&x==s then VU i else zHs r (i+1) s
 |.zero _::r,i,s=>zHs r (i+1) s
def zHt(ps:List yR)(s:Nat)(z:List Nat):Option (List Nat):=
 match zHs ps 0 s with
 |some i=>VU (z++[i])
 |none=>VV
def pWr(d:Nat):List yR→Nat→Wr
 | [],_=>[]
 |.slot s t::r,i=>if qI t then(s,VU (cpT d t [i]))::pWr d r (i+1)else pWr d r (i+1)
 |.zero _::r,i=>pWr d r (i+1)
def xU:List yR→List Nat
 | []=>[]
 |.slot s t::r=>if qI t then s::xU r else xU r
 |.zero _::r=>xU r
def qJ(ps:List yR):Chg:=(xU ps).map fun s=>(s,1)
def qX(G:Gh):yR→List Value
 |.slot s t=>vals G s t []
 |.zero u=>sG u
def pHd(G:Gh)(ps:List yR)(i:Nat)(z:List Nat):Value:=
 match ps[i]? with
 |some (.slot s _)=>G.hd s z
 |some (.zero u)=>zAj (zhd u z.reverse)
 |none=>.bool VX
structure sJ (E:Env) (d:Nat) (ps:List yR):Prop where
 slot:∀s t,yR.slot s t∈ps→E s=VU t∧zW t∧t.okTup=VW
 zero:∀u,yR.zero u∈ps→u.zOk=VW
 dist:(d::xU ps).Nodup
theorem zBC:(ps:List yR)→ ∀(i0 i s:Nat)(t:T),ps[i]? =VU (.slot s t)→qI t=VW→(xU ps).Nodup→zHs ps i0 s=VU (i0+i)
 | [],_,_,_,_,h,_,_=>by simp at h
 |.slot x u::r,i0,i,s,t,h,hm,hn=>by
  cases i with
  |zero=>simp at h;obtain⟨rfl,rfl⟩:=h;simp[zHs,hm]
  |succ i=>
   simp only[Uy]at h;have ej:s∈xU r:=pSlots_mem r i s t h hm;simp only[zHs]
   by_cases hu:qI u=VW
   ·simp only[xU,hu,if_true,Kk]at hn
    have:x≠s:=by grind
    simp only[hu,Bool.true_and,beq_iff_eq,this,if_false];rw[zBC r (i0+1) i s t h hm hn.2]
    grind
   ·simp only[xU,hu]at hn
    simp only[hu,Q4,Ln,if_false];rw[zBC r (i0+1) i s t h hm (by grind)]
    grind
 |.zero u::r,i0,i,s,t,h,hm,hn=>by
  cases i with
  |zero=>simp at h
  |succ i=>
   simp only[Uy]at h;simp only[zHs];rw[zBC r (i0+1) i s t h hm (by grind[xU])]
   grind
where pSlots_mem:(ps:List yR)→ ∀(i s:Nat)(t:T),ps[i]? =VU (.slot s t)→qI t=VW→s∈xU ps
 | [],_,_,_,h,_=>by simp at h
 |.slot x u::r,i,s,t,h,hm=>by
  cases i with
  |zero=>simp at h;obtain⟨rfl,rfl⟩:=h;simp[xU,hm]
  |succ i=>
   have:=pSlots_mem r i s t (by grind) hm
   grind[xU]
 |.zero u::r,i,s,t,h,hm=>by
  cases i with
  |zero=>simp at h
  |succ i=>simpa only[xU]using pSlots_mem r i s t (by grind) hm
theorem zCY:(ps:List yR)→ ∀(i0 s:Nat),s∉xU ps→zHs ps i0 s=VV
 | [],_,_,_=>by rfl
 |.slot x u::r,i0,s,h=>by
  simp only[zHs]
  by_cases hu:qI u=VW
  ·simp only[xU,hu,if_true,Jj,not_or]at h
   simp only[hu,Bool.true_and,beq_iff_eq,Ne.symm h.1,if_false];exact zCY r _ s h.2
  ·simp only[xU,hu]at h
   simp only[hu,Q4,Ln,if_false];exact zCY r _ s (by grind)
 |.zero u::r,i0,s,h=>by simp only[zHs];exact zCY r _ s (by grind[xU])
theorem zC8:(ps:List yR)→ ∀(d i0 s:Nat)(x:Option T),(pWr d ps i0).find s=VU x→ ∃i t,ps[i]? =VU (.slot s t)∧qI t=VW∧x=VU (cpT d t [i0+i])
 | [],_,_,_,_,h=>by grind[pWr,Wr.find]
 |.slot y u::r,d,i0,s,x,h=>by
  simp only[pWr]at h;split at h
  ·rename_i hu
   simp only[Wr.find]at h;split at h
   ·rename_i he;subst he;simp at h;exact⟨0,u,by simp,hu,by grind⟩
   ·obtain⟨i,t,h1,h2,h3⟩:=zC8 r d (i0+1) s x h
    exact⟨i+1,t,by grind,h2,by grind⟩
  ·obtain⟨i,t,h1,h2,h3⟩:=zC8 r d (i0+1) s x h
   exact⟨i+1,t,by grind,h2,by grind⟩
 |.zero u::r,d,i0,s,x,h=>by simp only[pWr]at h;obtain⟨i,t,h1,h2,h3⟩:=zC8 r d (i0+1) s x h;exact⟨i+1,t,by grind,h2,by grind⟩
theorem zC9:(ps:List yR)→ ∀(d i0 s:Nat),(pWr d ps i0).find s=VV→s∉xU ps
 | [],_,_,_,_=>by simp[xU]
 |.slot y u::r,d,i0,s,h=>by
  simp only[pWr]at h;simp only[xU];split at h
  ·rename_i hu
   simp only[Wr.find]at h;split at h
   ·cases h
   ·rename_i gk
    simp only[hu,if_true,Jj,not_or];exact⟨fun e=>gk e.symm,zC9 r d _ s h⟩
  ·rename_i hu
   simp only[hu];simpa using zC9 r d _ s h
 |.zero u::r,d,i0,s,h=>by simp only[pWr]at h;simpa only[xU]using zC9 r d _ s h
section
variable {Γ:Ctx}{E:Env}{G:Gh}{tmps:Array Value}{w:World}{d:Nat}{ps:List yR}
theorem zF6(gc:Rep Γ E G tmps w)(h:sJ E d ps):
  yN (ps.map yR.tree)=VW∧xH (ps.map yR.tree)∧(∀i z,(pHd G ps i z).oneCell'=VW)∧
  (∀(i:Nat) u x q(z:List Nat),(ps.map yR.tree)[i]? =VU u→zGq ps i=VU (x,q)→zHt ps x (z++q)=VU (z++[i]))∧
  (∀(i:Nat) u x q,(ps.map yR.tree)[i]? =VU u→zGq ps i=VU (x,q)→(∀z,pHd G ps i z=G.hd x (z++q))∧R Γ.St G w x u q∧zW u∧x≠d)∧
  (∀(i:Nat) u,(ps.map yR.tree)[i]? =VU u→zGq ps i=VV→ ∀(G2:Gh)(w2:World),(∀z,G2.hd d (z++[i])=pHd G ps i z)→R Γ.St G2 w2 d u [i])∧
  (∀s p,(∀n,(s,n)∉(d,0)::qJ ps)→zHt ps s p=VV):=by
 have mf:=Kk.1 h.dist;refine⟨?_,?_,?_,?_,?_,?_,?_⟩
 ·have:∀qs:List yR,(∀p∈qs,p∈ps)→yN (qs.map yR.tree)=VW:=by
   intro qs
   induction qs with
   |nil=>intro _;rfl
   |cons q qs ih=>
    intro hq;simp only[Jh,yN,J1];refine⟨?_,by grind⟩;cases q with
    |slot s t=>exact(h.slot s t (hq _ (by simp))).2.2
    |zero u=>exact(zBB u (h.zero u (hq _ (by simp)))).2
  grind
 ·have:∀qs:List yR,(∀p∈qs,p∈ps)→xH (qs.map yR.tree):=by
   intro qs
   induction qs with
   |nil=>intro _;trivial
   |cons q qs ih=>
    intro hq;simp only[Jh,xH,xZ];refine⟨?_,by grind⟩;cases q with
    |slot s t=>exact(h.slot s t (hq _ (by simp))).2.1
    |zero u=>exact(zBB u (h.zero u (hq _ (by simp)))).1
  grind
 ·intro i z
  unfold pHd;split
  ·exact gc.mem.one _ _
  ·exact zBA _
  ·rfl
 ·intro i u x q z hu hs
  rw[Jr]at hu;unfold zGq at hs;cases hp:ps[i]? with
  |none=>grind
  |some p=>
   cases p with
   |zero v=>grind
   |slot s t=>
    simp only[hp]at hs;split at hs
    ·rename_i hm
     simp at hs;obtain⟨rfl,rfl⟩:=hs;simp[zHt,zBC ps 0 i s t hp hm mf.2]
    ·cases hs
 ·intro i u x q hu hs
  rw[Jr]at hu;unfold zGq at hs;cases hp:ps[i]? with
  |none=>grind
  |some p=>
   cases p with
   |zero v=>grind
   |slot s t=>
    simp only[hp]at hs;split at hs
    ·rename_i hm
     simp at hs;obtain⟨rfl,rfl⟩:=hs;simp[hp,yR.tree]at hu;subst hu;obtain⟨h1,h2,h3⟩:=h.slot s t (by grind);refine⟨by grind[pHd],(gc.ent s t h1).2.1,h2,fun e=>mf.1 ?_⟩
     grind[zBC.pSlots_mem]
    ·cases hs
 ·intro i u hu hs G2 w2 er
  rw[Jr]at hu;unfold zGq at hs;cases hp:ps[i]? with
  |none=>grind
  |some p=>
   cases p with
   |zero v=>
    simp[hp,yR.tree]at hu;subst hu;exact zIF v [i] (h.zero v (by grind)) (by grind[pHd])
   |slot s t=>
    simp only[hp]at hs;split at hs
    ·cases hs
    ·rename_i hm
     simp[hp,yR.tree]at hu;subst hu;have h1:=(gc.ent s t (h.slot s t (by grind)).1).2.1;have h2:G2.hd d [i]=G.hd s []:=by have:=er [];grind[pHd]
     cases t<;>simp[qI]at hm<;>simp only[R]at h1 ⊢ <;>rw[h2]<;>exact h1
 ·intro s p gD
  have:s∉xU ps:=fun ej=>gD 1 (by grind[qJ])
  grind[zHt,zCY]
theorem zDI(gc:Rep Γ E G tmps w)(h:sJ E d ps)(G2:Gh):∀(qs:List yR)(i0:Nat),(∀i q,qs[i]? =VU q→ps[i0+i]? =VU q)→(∀i z,G2.hd d (z++[i])=pHd G ps i z)→
  yD G2 d (qs.map yR.tree) [] i0=qs.flatMap (qX G)
 | [],_,_,_=>by rfl
 |q::qs,i0,hq,er=>by
  have h0:ps[i0]? =VU q:=by simpa using hq 0 q (by simp)
  have ih:=zDI gc h G2 qs (i0+1) (fun i p hp=>by rw[show i0+1+i=i0+(i+1)from by omega];simp_all) er;simp only[Jh,yD,L8,ih]
  congr 1
  cases q with
  |slot s t=>exact zBt t [] [i0] (by grind[pHd])
  |zero u=>exact zEW u [i0] (h.zero u (by grind)) (by grind[pHd])
end
end Go.Ab

namespace Go.Ab
open Go
section
variable {P:Program}{Γ:Ctx}{E:Env}{o:Oper}{d:Nat}
theorem zHG{G G':Gh}{w':World}{s i:Nat}{t:T}{v:Option Value}(hv:v=VU (mkV G s t []))(gV:∀xs,t≠.tup xs)(hs:∀p,G'.hd s p=G.hd s p)(mg:∀z,G'.hd d (z++[i])=G.hd s z)
  (hr:R Γ.St G' w' d t [i]):Ent Γ G' w' v s (cpT d t [i]):=by
 have hz:∀z,G'.hd s (z++[])=G'.hd d (z++[i]):=fun z=>by rw[Ja,hs,mg]
 refine⟨?_,?_,jS d t [i]⟩
 ·rw[hv,zBh (G:=G') (G':=G') t [i] [] gV hz,zA9 G s t [] gV,zBV t [] [i] (fun z=>by rw[mg,Ja])]
 ·exact zDD (G:=G') (G':=G') (fun _=>rfl) t [i] [] hz gV (xE.triv (fun _ _=>⟨rfl,rfl⟩) _) hr
theorem zBD{G:Gh}{a:Act}{w w':World}{ps:List yR}(gc:Rep Γ E G a.tmps w)(h:sJ E d ps)(hd:d<Γ.N){cells:Array Value}{e:TypeId}(hw:w'.heap=w.heap.push (.cells cells e))
  (fD:∀(o:Nat)(v:Value),(ps.flatMap (qX G))[o]? =VU v→cells[o]? =VU v)
  (rt:T)(gU:Value)
  (eC:(∃k cap,rt=.sl k (ps.map yR.tree)∧(∀p∈ps,p.tree.size=k)∧gU=.slice (VU ⟨w.heap.size,0,VV⟩) ps.length cap∧ps.length≤cap∧cap≤maxLen∧cells.size=cap*k)∨
   ∃p,ps=[p]∧rt=.ptr p.tree∧gU=.pointer (VU ⟨w.heap.size,0,VV⟩)∧cells.size=p.tree.size)
  (ho:w'.os=w.os:=by rfl)(hq:w'.output=w.output:=by rfl):
  ∃G',Rep Γ (E.app ((d,VU rt)::pWr d ps 0) ((d,0)::qJ ps)) G' (a.tmps.setIfInBounds d gU) w':=by
 obtain⟨f1,f0,f2,f3,f4,f5,f6⟩:=zF6 gc h;have hh:gU.oneCell'=VW:=by rcases eC with⟨k,cap,_,_,rfl,_⟩|⟨p,_,_,rfl,_⟩<;>rfl
 have mf:=Kk.1 h.dist;obtain⟨g1,g2,g3,g4,g5⟩:=zCX gc.mem hw d (ps.map yR.tree) (zGq ps) (zHt ps) (pHd G ps) gU (qJ ps) f1 f2 hh f3 f4 f5
  (fun G2 er o v hv=>fD o v (by rw[zDI gc h G2 ps 0 (fun i q hq=>by simpa using hq) er]at hv;exact hv)) f6 (ho:=ho) (hq:=hq)
 refine⟨_,tK gc (by simp) g1 g2 ?_ ?_⟩
 ·intro s hs
  simp only[Wr.find]at hs;split at hs
  ·cases hs
  ·rename_i gk
   have hns:=zC9 ps d 0 s hs;refine⟨fun n hn=>?_,by rw[J8];simp[gk]⟩;simp only[Jj,Q2.injEq,qJ,Jb]at hn;rcases hn with⟨e1,_⟩|⟨y,hy,e1,_⟩
   ·exact gk e1.symm
   ·exact hns (e1▸hy)
 ·intro s t hs
  simp only[Wr.find]at hs;split at hs
  ·rename_i he
   subst he;simp at hs;subst hs;have cv:(G.nb d w.heap.size (ps.map yR.tree) (zGq ps) (zHt ps) (pHd G ps) gU).hd d []=gU:=by simp[Gh.nb]
   have how:(G.nb d w.heap.size (ps.map yR.tree) (zGq ps) (zHt ps) (pHd G ps) gU).ow w.heap.size=VU (d,[]):=by simp[Gh.nb]
   refine⟨?_,?_,?_⟩
   ·rw[J8]
    rcases eC with⟨k,cap,rfl,_⟩|⟨p,_,rfl,_⟩<;>simp[gc.size,hd,mkV,cv]
   ·rcases eC with⟨k,cap,rfl,hk,h1,h2,h3,h4⟩|⟨p,rfl,rfl,h1,h4⟩
    ·simp only[R]
     rw[cv];refine .inr ⟨w.heap.size,0,cap,cells,e,by simpa using h1,g5,by simpa using h2,h3,by omega,how,?_,zO2 _ _ _ _ _ (fun x hx=>?_) g3 g4⟩
     ·intro o ho _
      have gv:T.sizes (ps.map yR.tree)=(ps.map yR.tree).length*k:=vM _ (fun x hx=>by obtain⟨p,hp,rfl⟩:=Jb.1 hx;exact hk p hp)
      simp[Gh.nb,zDG (ps.map yR.tree) [] 0 o (by omega)]
     ·obtain⟨p,hp,rfl⟩:=Jb.1 hx
      exact hk p hp
    ·simp only[R]
     rw[cv];simp only[Jh,G4,uN,RF]at g3 g4;exact⟨w.heap.size,cells,e,h1,g5,h4,how,g3.1,g4.1⟩
   ·rcases eC with⟨k,cap,rfl,_⟩|⟨p,rfl,rfl,_⟩
    ·simp only[Top];exact f0
    ·simp only[Top];exact f0.1
  ·rename_i gk
   obtain⟨i,u,h1,h2,h3⟩:=zC8 ps d 0 s _ hs;simp only[J6]at h3;simp at h3;subst h3;obtain⟨h4,h5,h6⟩:=h.slot s u (Ky h1);have gV:∀xs,u≠.tup xs:=by rintro xs rfl;simp[T.okTup]at h6
   have hi:(ps.map yR.tree)[i]? =VU u:=by simp[h1,yR.tree]
   have hr:=zB1 _ [] 0 i u g4 hi;simp only[J6]at hr;refine zHG (G:=G) (by rw[J8];simp only[gk,if_false];exact(gc.ent s u h4).1) gV (fun p=>?_) (fun z=>?_) hr
   ·simp[Gh.nb,show s≠d from fun e=>gk e.symm]
   ·simp[Gh.nb,pHd,h1]
inductive zAH (E:Env):Operand→yR→Prop where
 |slot (s:Nat) (t:T):zAH E (.tmp s) (.slot s t)
 |zero (v:Value) (u:T) (h:sG u=v.cells.toList):zAH E (.const v) (.zero u)
theorem zBi{G:Gh}{a:Act}{w:World}{ps:List yR}(gc:Rep Γ E G a.tmps w)(h:sJ E d ps){x:Operand}{p:yR}(hp:p∈ps)(hx:zAH E x p):
  (a.eval x).cells.toList=qX G p:=by
 cases hx with
 |slot s t=>
  obtain⟨h1,h2,h3⟩:=h.slot s t hp;obtain⟨h4,_,_⟩:=gc.ent s t h1;rw[wL h4];cases t with
  |agg xs=>simp[mkV,Value.cells,vals,qX]
  |tup xs=>simp[T.okTup]at h3
  |_=>
   have:=gc.mem.one s [];simp only[mkV,vals,qX]
   generalize G.hd s []=v at this
   cases v<;>simp[Value.oneCell',Value.cells]at this ⊢
 |zero v u h=>simp[Act.eval,h,qX]
def tE(E:Env):List Operand→List yR→Prop
 | [],[]=>True
 |x::xs,p::ps=>zAH E x p∧tE E xs ps
 |_,_=>False
theorem tE.length:(xs:List Operand)→(ps:List yR)→tE E xs ps→xs.length=ps.length
 | [],[],_=>rfl
 |_::xs,_::ps,h=>by simp[tE.length xs ps h.2]
 | [],_::_,h=>by simp[tE]at h
 |_::_,[],h=>by simp[tE]at h
theorem tE.mem:(xs:List Operand)→(ps:List yR)→tE E xs ps→ ∀x∈xs,∃p,p∈ps∧zAH E x p
 | [],_,_,x,hx=>by simp at hx
 |y::xs,p::ps,h,x,hx=>by
  rcases Jj.1 hx with rfl|hx
  ·exact⟨p,by simp,h.1⟩
  ·obtain⟨q,hq,hxq⟩:=tE.mem xs ps h.2 x hx;exact⟨q,by simp[hq],hxq⟩
 |_::_,[],h,_,_=>by simp[tE]at h
theorem zGr{G:Gh}{a:Act}{w:World}{ps:List yR}(gc:Rep Γ E G a.tmps w)(h:sJ E d ps):∀(xs:List Operand)(qs:List yR),(∀q∈qs,q∈ps)→tE E xs qs→
  ((xs.map a.eval).flatMap fun v=>v.cells.toList)=qs.flatMap (qX G)
 | [],[],_,_=>rfl
 |x::xs,q::qs,hq,hx=>by simp only[Jh,L8,zBi gc h (hq q (by simp)) hx.1,zGr gc h xs qs (fun p hp=>hq p (by simp[hp])) hx.2]
 | [],_::_,_,hx=>by simp[tE]at hx
 |_::_,[],_,hx=>by simp[tE]at hx
theorem zO3(T':TypeId)(ti:TypeInfo)(z:Value)(u:T)(ho:o.op=.alloc T')(gg:o.dst=VU d)(hd:d<Γ.N)
  (hi:P.info? T'=VU ti)(hz:ti.zero=VU z)(hu:u.zOk=VW)(hv:sG u=z.cells.toList)(gv:z.cells.size=u.size):
  wP P Γ o E (E.app [(d,VU (.ptr u))] [(d,0)]):=by
 refine wP.value gg fun a w G gc=>?_
 have gR:sJ E d [.zero u]:=⟨fun s t h=>by simp at h,fun v h=>by simp at h;subst h;exact hu,by simp[xU]⟩;obtain⟨G',gp⟩:=zBD (w':=w.alloc (.cells z.cells T')) gc gR hd (cells:=z.cells) (e:=T') rfl (fun o v h=>by simpa[hv,qX]using h) (.ptr u) (.pointer (VU ⟨w.heap.size,0,VV⟩)) (.inr ⟨.zero u,rfl,rfl,rfl,gv⟩);refine⟨_,_,?_,G',by simpa[pWr,qJ,xU]using gp⟩;simp[execOp,ho,Instr.alloc,zeroValue,typeInfo,hi,hz,newVar,newRow]
theorem zTG(T':TypeId)(x:Operand)(p:yR)(ho:o.op=.box T' x)(gg:o.dst=VU d)(hd:d<Γ.N)(hx:zAH E x p)(gR:sJ E d [p]):
  wP P Γ o E (E.app ((d,VU (.ptr p.tree))::pWr d [p] 0) ((d,0)::qJ [p])):=by
 refine wP.value gg fun a w G gc=>?_
 have hc:=zBi gc gR (by simp) hx;have gv:(a.eval x).cells.size=p.tree.size:=by
  rw[←K0,hc];cases p with
  |slot s t=>
   obtain⟨_,_,h3⟩:=gR.slot s t (by simp);show(vals G s t []).length=t.size;exact uA t [] (by rintro xs rfl;simp[T.okTup]at h3)
  |zero u=>exact uH u (gR.zero u (by simp))
 obtain⟨G',gp⟩:=zBD (w':=w.alloc (.cells (a.eval x).cells T')) gc gR hd (cells:=(a.eval x).cells) (e:=T') rfl (fun o v h=>by rw[←Kb,hc];simpa using h) (.ptr p.tree) (.pointer (VU ⟨w.heap.size,0,VV⟩)) (.inr ⟨p,rfl,rfl,rfl,gv⟩)
 refine⟨_,_,?_,G',gp⟩;simp[execOp,ho,Instr.box,newVar,newRow]
theorem zHu(t e:TypeId)(ti:TypeInfo)(z:Value)(k n:Nat)(xs:List Operand)(ps:List yR)(ho:o.op=.buildSlice t n ((xs.zipIdx 0).map fun x=>(x.2,x.1)).toArray)(gg:o.dst=VU d)(hd:d<Γ.N)
  (ht:P.underlying t=VU (.slice e))(hi:P.info? e=VU ti)(hz:ti.zero=VU z)(hk:ti.size=k)(eO:0<k)(hn:xs.length=n)(dj:0<n)(iD:n*k≤2 ^ 24)
  (hx:tE E xs ps)(gR:sJ E d ps)(gv:∀p∈ps,p.tree.size=k):
  wP P Γ o E (E.app ((d,VU (.sl k (ps.map yR.tree)))::pWr d ps 0) ((d,0)::qJ ps)):=by
 refine wP.value gg fun a w G gc=>?_
 subst hk;have gm:xs.length=ps.length:=tE.length xs ps hx;have hc:=zGr gc gR xs ps (fun _ h=>h) hx;have fY:∀v∈xs.map a.eval,v.cells.size=ti.size:=by
  intro v hv;obtain⟨x,bC,rfl⟩:=Jb.1 hv;obtain⟨p,hp,hxp⟩:=tE.mem xs ps hx x bC;rw[←K0,zBi gc gR hp hxp,←gv p hp];cases p with
  |slot s t=>
   obtain⟨_,_,h3⟩:=gR.slot s t hp;show(vals G s t []).length=t.size;exact uA t [] (by rintro xs rfl;simp[T.okTup]at h3)
  |zero u=>exact uH u (gR.zero u hp)
 have dw:=Great.fill_whole eO (xs.map a.eval) ((Qa (n*ti.size)).map (z.cells[· %z.cells.size]!)) fY (by simp[hn]);have ba:((((xs.zipIdx 0).map fun x=>(x.2,x.1)).toArray).map fun(i,x)=>(i,a.eval x)).toList=((xs.map a.eval).zipIdx 0).map fun x=>(x.2,x.1):=by simp[List.zipIdx_map,Function.comp_def]
 have gw:=run_buildSlice (P:=P) w t e n _ _ ti z ht hi hz (by omega) (by have:=Nat.mul_pos dj eO;omega) (by rw[ba];exact dw);have gL:((xs.map a.eval).flatMap fun v=>v.cells.toList).toArray.size=n*ti.size:=by rw[Q5,flat_len (k:=ti.size) _ (fun v hv=>by rw[K0];exact fY v hv)];simp[hn]
 obtain⟨G',gp⟩:=zBD (w':=w.alloc (.cells ((xs.map a.eval).flatMap fun v=>v.cells.toList).toArray e)) gc gR hd rfl (fun o v h=>by rw[hc];simpa using h) (.sl ti.size (ps.map yR.tree)) (.slice (VU ⟨w.heap.size,0,VV⟩) n n) (.inl ⟨ti.size,n,rfl,gv,by rw[←gm,hn],by omega,by have:n≤n*ti.size:=Nat.le_mul_of_pos_right n eO;simp only[maxLen];omega,gL⟩)
 refine⟨_,_,?_,G',gp⟩;simp only[execOp,ho,Sem.run_bind,gw,Result.andThen_ok];rfl
where
 flat_len {k:Nat} (vs:List Value) (h:∀v∈vs,v.cells.toList.length=k):(vs.flatMap fun v=>v.cells.toList).length=vs.length*k:=by
  induction vs with
  |nil=>simp
  |cons v vs ih=>simp[L8,ih (fun u hu=>h u (by simp[hu])),La];have:=h v (by simp);simp at this;omega
end
end Go.Ab

namespace Go.Ab
open Go
theorem zIG{α β:Type}(f:α→List β)(x:α)(k:Nat)(hk:(f x).length=k)(eO:0<k):∀(n o:Nat)(v:β),((J2 n x).flatMap f)[o]? =VU v→o<n*k∧(f x)[o%k]? =VU v
 |0,o,v,h=>by simp at h
 |n+1,o,v,h=>by
  rw[Km,L8,K8]at h;split at h
  ·grind[Nat.mod_eq_of_lt]
  ·rename_i hge
   rw[hk]at h hge;obtain⟨h1,h2⟩:=zIG f x k hk eO n (o-k) v h
   grind[Nat.mod_eq_sub_mod]
section
variable {P:Program}{Γ:Ctx}{E:Env}{o:Oper}{d:Nat}
theorem zRu(t e:TypeId)(ti:TypeInfo)(z:Value)(u:T)(k:Nat)(x y:Operand)(n c:Nat)(kl kc:IntKind)(ho:o.op=.makeSlice t x y)(gg:o.dst=VU d)(hd:d<Γ.N)
  (ht:P.underlying t=VU (.slice e))(hi:P.info? e=VU ti)(hz:ti.zero=VU z)(hk:ti.size=k)(eO:0<k)(hu:u.zOk=VW)(hv:sG u=z.cells.toList)(fj:u.size=k)(hb:ti.bytes≤4096)
  (hx:opT E x=VU (.lit (.int kl n)))(hy:opT E y=VU (.lit (.int kc c)))(di:n≤c)(hc:c≤68719476736):
  wP P Γ o E (E.app [(d,VU (.sl k (J2 n u)))] [(d,0)]):=by
 refine wP.value gg fun a w G gc=>?_
 have h1:=(wI gc hx).1;have h2:=(wI gc hy).1;subst hk;have gR:sJ E d (J2 n (.zero u)):=⟨by simp,by grind,by
  have:∀m,xU (J2 m (.zero u))=[]:=by intro m;induction m with|zero=>rfl|succ m ih=>grind[xU]
  simp[this]⟩
 have hzs:z.cells.size=ti.size:=by grind[uH]
 have bt:(ti.bytes:Int)*(c:Int)≤281474976710656:=by have:ti.bytes*c≤4096*68719476736:=Hv hb hc;omega
 have gw:=run_make (P:=P) w t e ti z ht hi hz kl kc n c (by omega) (by omega) bt (by omega);simp only[Jl]at gw;obtain⟨G',gp⟩:=zBD (w':=w.alloc (.cells (madeCells z.cells (c*ti.size)) e)) gc gR hd rfl (fun i v h=>by
  obtain⟨h3,h4⟩:=zIG (qX G) (.zero u) ti.size (by grind[qX]) eO n i v h
  grind[Un,Le,qX,madeCells]) (.sl ti.size (J2 n u)) (.slice (VU ⟨w.heap.size,0,VV⟩) n c)
  (.inl ⟨ti.size,c,by simp[yR.tree],fun p hp=>by simp at hp;obtain⟨_,rfl⟩:=hp;exact fj,by simp,by grind,by grind[maxLen],by simp[madeCells]⟩)
 refine⟨.slice (VU ⟨w.heap.size,0,VV⟩) n c,w.alloc (.cells (madeCells z.cells (c*ti.size)) e),?_,G',?_⟩
 ·simp only[execOp,ho,h1,h2,Sem.run_bind,gw,Result.andThen_ok]
  rfl
 ·have h6:∀m i,pWr d (J2 m (.zero u)) i=[]:=by intro m;induction m with|zero=>intro i;rfl|succ m ih=>grind[pWr]
  have h7:qJ (J2 n (.zero u))=[]:=by
   have:∀m,xU (J2 m (.zero u))=[]:=by intro m;induction m with|zero=>rfl|succ m ih=>grind[xU]
   grind[qJ]
  grind
theorem zGs(t e:TypeId)(ti:TypeInfo)(k:Nat)(ho:o.op=.buildSlice t 0 #[])(gg:o.dst=VU d)(hd:d<Γ.N)
  (ht:P.underlying t=VU (.slice e))(hi:P.info? e=VU ti):wP P Γ o E (E.app [(d,VU (.sl k []))] [(d,0)]):=by
 refine wP.value gg fun a w G gc=>?_
 have gR:sJ E d []:=⟨by simp,by simp,by simp[xU]⟩;obtain⟨G',gp⟩:=zBD (w':=w.alloc (.cells #[] e)) gc gR hd (cells:=#[]) rfl (by simp) (.sl k []) (.slice (VU ⟨w.heap.size,0,VV⟩) 0 0)
  (by simp)
 refine⟨_,_,?_,G',gp⟩;have h0:(Qa 0:Array Nat)= #[]:=by rfl
 simp[execOp,ho,Instr.buildSlice,run_underlying ht,sizeOf,typeInfo,hi,Instr.fill,newRow,h0]
theorem zJ0(k:Nat)(x:Operand)(ho:o.op=.move x∨o.op=.assign x)(hx:x=.const (.slice VV 0 0))(gg:o.dst=VU d)(hd:d<Γ.N):wP P Γ o E (E.app [(d,VU (.sl k []))] [(d,0)]):=by
 refine wP.value gg fun a w G gc=>?_
 refine⟨.slice VV 0 0,w,?_,_,uG gc rfl hd (fun _=>.slice VV 0 0) (fun _=>rfl) (.sl k []) (.slice VV 0 0) (by simp[mkV,Gh.put]) (by simp[R,Gh.put]) (by simp[Top,xH,xZ])⟩;subst hx;rcases ho with ho|ho<;>simp[execOp,ho,Act.eval]
def Gh.nv(G:Gh)(d:Nat)(src:Nat→Option (Nat×List Nat))(φ:Nat→List Nat→Option (List Nat))(f:Nat→List Nat→Value):Gh where
 hd s z:=if s=d then(match z.getLast? with
  |some i=>f i z.dropLast
  |none=>.bool VX)else G.hd s z
 ad s z:=if s=d then(match z.getLast? with
  |some i=>(match src i with
   |some (x,q)=>G.ad x (z.dropLast++q)
   |none=>default)
  |none=>default)else G.ad s z
 lb b o:=match G.lb b o with
  |some (fl,s,z)=>(match φ s z with
   |some z'=>VU (fl,d,z')
   |none=>VU (fl,s,z))
  |none=>VV
 ow b:=match G.ow b with
  |some (s,z)=>(match φ s z with
   |some z'=>VU (d,z')
   |none=>VU (s,z))
  |none=>VV
theorem zRv{G:Gh}{a:Act}{w:World}{ps:List yR}(gc:Rep Γ E G a.tmps w)(h:sJ E d ps)(hd:d<Γ.N):
  ∃G',Rep Γ (E.app ((d,VU (.agg (ps.map yR.tree)))::pWr d ps 0) ((d,0)::qJ ps)) G' (a.tmps.setIfInBounds d (.agg (ps.flatMap (qX G)).toArray)) w:=by
 obtain⟨f1,f0,f2,f3,f4,f5,f6⟩:=zF6 gc h;have hm:=gc.mem;have gH:Blk w w:=fun b cs e' h=>⟨cs,h,rfl⟩
 generalize gp:G.nv d (zGq ps) (zHt ps) (pHd G ps)=G'
 have ghd:∀i z,G'.hd d (z++[i])=pHd G ps i z:=by grind[Gh.nv]
 have ghd':∀s z,s≠d→G'.hd s z=G.hd s z:=by grind[Gh.nv]
 have glbm:∀b o fl x z z',G.lb b o=VU (fl,x,z)→zHt ps x z=VU z'→G'.lb b o=VU (fl,d,z'):=by grind[Gh.nv]
 have gowm:∀b x z z',G.ow b=VU (x,z)→zHt ps x z=VU z'→G'.ow b=VU (d,z'):=by grind[Gh.nv]
 have gk:∀s p,Off ((d,0)::qJ ps) s p→s≠d:=fun s p h e=>absurd (h 0 (by simp[e])) (by simp)
 have gy:zAF ((d,0)::qJ ps) G w G' w:=by
  refine⟨by grind,fun s p h=>?_,fun b o fl s p _ hl h=>⟨?_,rfl⟩,fun b s p hl h=>?_,gH,by intros;assumption⟩
  ·grind[Gh.nv]
  all_goals grind[Gh.nv]
 have gE:Mem Γ G' w:=by
  refine⟨fun s p=>?_,fun b o l hl=>?_,fun b l hl=>?_,hm.st,hm.fr,hm.sz,hm.bk⟩
  ·rw[←gp]
   simp only[Gh.nv];split
   ·split
    ·grind
    ·rfl
   ·exact hm.one s p
  ·rw[←gp]at hl
   simp only[Gh.nv]at hl;split at hl
   ·rename_i hg;exact hm.lb b o _ hg
   ·cases hl
  ·rw[←gp]at hl
   simp only[Gh.nv]at hl;split at hl
   ·rename_i hg;exact hm.ow b _ hg
   ·cases hl
 have g4:RF Γ.St G' w d (ps.map yR.tree) [] 0:=by
  refine zMc _ [] 0 (fun i u hu=>?_);rw[J6];cases hs:zGq ps i with
  |none=>grind
  |some xq=>
   obtain⟨x,q⟩:=xq;obtain⟨h1,h2,h3,h4⟩:=f4 i u x q hu hs;refine zJz u q [i] (zCX.okTups_get _ f1 i u hu) ⟨by grind,by grind[Gh.nv],by grind,
    by grind,gH,by intros;assumption⟩ (by grind[xE.mono]) h2
 refine⟨G',tK gc (by simp) gy gE ?_ ?_⟩
 ·grind[Wr.find,zC9,qJ]
 ·intro s t hs
  simp only[Wr.find]at hs;split at hs
  ·rename_i he
   subst he;simp at hs;subst hs;refine⟨?_,by simpa only[R]using g4,by simp only[Top];exact tA.of_clean _ f0⟩;rw[J8];simp only[gc.size,hd,mkV,if_true];rw[zDI gc h G' ps 0 (by simp) ghd]
  ·rename_i gk
   obtain⟨i,u,h1,h2,h3⟩:=zC8 ps d 0 s _ hs;simp only[J6]at h3;simp at h3;subst h3;obtain⟨h4,h5,h6⟩:=h.slot s u (by grind);have gV:∀xs,u≠.tup xs:=by rintro xs rfl;grind[T.okTup]
   have hi:(ps.map yR.tree)[i]? =VU u:=by simp[h1,yR.tree]
   have hr:=zB1 _ [] 0 i u g4 hi;simp only[J6]at hr;refine zHG (G:=G) (by rw[J8];simp only[gk,if_false];exact(gc.ent s u h4).1) gV (by grind) (fun z=>?_) hr
   grind[pHd]
theorem zMe(off:Nat):∀(vs:List Value)(i:Nat)(cs:Array Value)(k:Nat),off+i+vs.length≤cs.size→
  ((vs.zipIdx i).foldl (fun cs(x:Value×Nat)=>cs.setIfInBounds (off+x.2) x.1) cs)[k]? =if off+i≤k∧k<off+i+vs.length then vs[k-(off+i)]? else cs[k]?
 | [],i,cs,k,_=>by simp;omega
 |v::vs,i,cs,k,h=>by
  simp only[K5]at h;simp only[List.zipIdx_cons,List.foldl_cons];rw[zMe off vs (i+1) _ k (by simp;omega)]
  grind
theorem zGt{pv:yR→List Value}(place:Nat→Option (Nat×Nat)):∀(vs:List (Nat×Value))(qs:List (Nat×yR))(ps:List yR)(cs:Array Value),cs.toList=ps.flatMap pv→
  (∀i p,ps[i]? =VU p→place i=VU (((ps.take i).flatMap pv).length,(pv p).length))→
  vs.map (·.1)=qs.map (·.1)→(∀(j:Nat)(v:Nat×Value)(q:Nat×yR),vs[j]? =VU v→qs[j]? =VU q→v.2.cells.toList=pv q.2∧ ∃p,ps[q.1]? =VU p∧(pv p).length=(pv q.2).length)→
  ∃cs',Instr.fill place cs vs=VU cs'∧cs'.toList=(qs.foldl (fun ps q=>ps.set q.1 q.2) ps).flatMap pv
 | [],[],ps,cs,gW,_,_,_=>⟨cs,rfl,gW⟩
 | [],_::_,_,_,_,_,h,_=>by simp at h
 |_::_,[],_,_,_,_,h,_=>by simp at h
 |(i,v)::vs,(i',q)::qs,ps,cs,gW,bH,hi,hq=>by
  simp only[Jh,Q0.injEq]at hi;obtain⟨Vx,hi⟩:=hi;subst Vx;obtain⟨h1,p,h2,h3⟩:=hq 0 (i,v) (i,q) rfl rfl;dsimp only at h1 h2 h3;have Vj:=bH i p h2;have gI:=(J9.1 h2).1;have mI:ps=ps.take i++p::ps.drop (i+1):=by grind[Hh,List.take_append_drop]
  have gz:ps.set i q=ps.take i++q::ps.drop (i+1):=by grind
  have mo:v.cells.size=(pv p).length:=by grind
  have gK:cs.size=((ps.take i).flatMap pv).length+((pv p).length+((ps.drop (i+1)).flatMap pv).length):=by grind[K0]
  have eb:(v.cells.zipIdx.foldl (fun cs(x:Value×Nat)=>cs.setIfInBounds (((ps.take i).flatMap pv).length+x.2) x.1) cs).toList=(ps.set i q).flatMap pv:=by
   rw[gz];simp only[Uz,L8,←h1];apply Kz;intro k;rw[←Array.foldl_toList,Kb,show v.cells.zipIdx.toList=v.cells.toList.zipIdx 0 from by simp,zMe _ _ 0 cs k (by grind)];have VF:cs.toList=((ps.take i).flatMap pv)++(pv p++(ps.drop (i+1)).flatMap pv):=by grind
   have hvl2:v.cells.toList.length=(pv p).length:=by rw[h1,h3]
   rw[←Kb,VF]
   grind
  have Vk:∀j p',(ps.set i q)[j]? =VU p'→place j=VU ((((ps.set i q).take j).flatMap pv).length,(pv p').length):=by
   intro j p' fV;have fS:(((ps.set i q).take j).flatMap pv).length=((ps.take j).flatMap pv).length:=by
    rw[gz]
    conv=>rhs;rw[mI]
    by_cases hj:j≤i
    ·grind
    ·rw[Uv,Uv]
     simp only[Uz,Ji]
     congr 1
     have:j-(ps.take i).length=(j-(ps.take i).length-1)+1:=by simp;omega
     grind
   grind
  have hq':∀(j:Nat)(x:Nat×Value)(y:Nat×yR),vs[j]? =VU x→qs[j]? =VU y→x.2.cells.toList=pv y.2∧ ∃p,(ps.set i q)[y.1]? =VU p∧(pv p).length=(pv y.2).length:=by
   intro j x y hx hy;obtain⟨h6,p',h7,h8⟩:=hq (j+1) x y (by grind) (by grind)
   grind
  obtain⟨cs',h4,h5⟩:=zGt place vs qs (ps.set i q) _ eb Vk hi hq'
  grind[Instr.fill]
theorem zEp{t:TypeId}{it:TypeInfo}{fields:Array Field}{z:Value}{places:List (Nat×Nat)}(hi:P.info? t=VU it)(hu:P.underlying t=VU (.struct fields))(hz:it.zero=VU z)
  (hp:fields.toList.mapM (fun f=>(P.info? f.type).map fun i=>(f.offset,i.size))=VU places)(parts:List (Nat×Value)):P.built t parts=Instr.fill (places.toArray[·]?) z.cells parts:=by
 grind[Program.built]
theorem zF7{t e:TypeId}{n:Nat}{it ie:TypeInfo}{z:Value}(hi:P.info? t=VU it)(hu:P.underlying t=VU (.array n e))(hz:it.zero=VU z)
  (he:P.info? e=VU ie)(parts:List (Nat×Value)):P.built t parts=Instr.fill (fun i=>VU (i*ie.size,ie.size)) z.cells parts:=by
 grind[Program.built]
theorem zEX{G:Gh}:(zs:List T)→(zs.map yR.zero).flatMap (qX G)=jN zs
 | []=>rfl
 |z::zs=>by simp[qX,jN,←zEX (G:=G) zs]
theorem zO4(t:TypeId)(place:Nat→Option (Nat×Nat))(z:Value)(zs:List T)(pl:List (Nat×Operand))(qs:List (Nat×yR))(ps:List yR)(ho:o.op=.build t pl.toArray)(gg:o.dst=VU d)(hd:d<Γ.N)
  (hb:∀parts,P.built t parts=Instr.fill place z.cells parts)(hzv:jN zs=z.cells.toList)(hz:zAW zs=VW)(bH:∀i u,zs[i]? =VU u→place i=VU (T.sizes (zs.take i),u.size))
  (gR:qs.foldl (fun ps q=>ps.set q.1 q.2) (zs.map yR.zero)=ps)(gM:sJ E d ps)(hix:pl.map (·.1)=qs.map (·.1))
  (hq:∀(j:Nat)(x:Nat×Operand)(q:Nat×yR),pl[j]? =VU x→qs[j]? =VU q→zAH E x.2 q.2∧q.2∈ps∧ ∃u,zs[q.1]? =VU u∧u.size=q.2.tree.size):
  wP P Γ o E (E.app ((d,VU (.agg (ps.map yR.tree)))::pWr d ps 0) ((d,0)::qJ ps)):=by
 refine wP.value gg fun a w G gc=>?_
 obtain⟨G',gp⟩:=zRv gc gM hd;have gv:∀(us:List T),zAW us=VW→((us.map yR.zero).flatMap (qX G)).length=T.sizes us:=by grind[zEX,zB2]
 obtain⟨cs',h1,h2⟩:=zGt (pv:=qX G) place (pl.map fun x=>(x.1,a.eval x.2)) qs (zs.map yR.zero) z.cells (by rw[zEX,hzv]) (fun i p hp=>by
   rw[Jr]at hp;cases hu:zs[i]? with
   |none=>grind
   |some u=>
    simp[hu]at hp;subst hp;rw[bH i u hu,←Hw,gv _ (zOks_take zs i hz),qX,uH u (zOks_get zs hz i u hu)])
  (by grind[Function.comp_def]) (fun j v q hv hqj=>by
   rw[Jr]at hv;cases hx:pl[j]? with
   |none=>grind
   |some x=>
    simp[hx]at hv;subst hv;obtain⟨h3,h4,u,h5,h6⟩:=hq j x q hx hqj;refine⟨zBi gc gM h4 h3,.zero u,by simp[h5],?_⟩;rw[qX,uH u (zOks_get zs hz _ u h5),h6];cases da:q.2 with
    |slot s t=>
     rw[da]at h4;obtain⟨_,_,h7⟩:=gM.slot s t h4;exact(uA t [] (by rintro xs rfl;grind[T.okTup])).symm
    |zero u'=>
     rw[da]at h4;exact(uH u' (gM.zero u' h4)).symm)
 rw[gR]at h2;have h3:cs'=(ps.flatMap (qX G)).toArray:=by rw[←h2]
 refine⟨_,w,?_,G',gp⟩;have gw:=run_build (P:=P) w t (pl.map fun x=>(x.1,a.eval x.2)).toArray cs' (by grind);simp only[List.map_toArray,execOp,ho,Sem.run_bind]at gw ⊢
 simp_all
where
 zOks_get:(xs:List T)→zAW xs=VW→ ∀(i:Nat)(x:T),xs[i]? =VU x→x.zOk=VW
  | [],_,_,_,h=>by simp at h
  |y::ys,hk,i,x,h=>by
   simp only[zAW,J1]at hk;cases i with
   |zero=>grind
   |succ i=>exact zOks_get ys hk.2 i x (by grind)
 zOks_take:(xs:List T)→ ∀i,zAW xs=VW→zAW (xs.take i)=VW
  | [],i,_=>by simp[zAW]
  |y::ys,0,_=>by simp[zAW]
  |y::ys,i+1,hk=>by
   simp only[zAW,J1,Kw]at hk ⊢
   exact⟨hk.1,zOks_take ys i hk.2⟩
end
end Go.Ab

namespace Go.Ab
open Go
mutual
def uU:T→T→Bool
 |.agg xs,.agg ys=>zA3 xs ys
 |.agg _,_=>VX
 |.tup _,_=>VX
 |_,.agg _=>VX
 |_,.tup _=>VX
 |.any,_|.lit _,_|.ro _,_|.same _ _,_|.addr _ _,_|.sub _ _ _ _ _,_|.sl _ _,_|.ptr _,_|.mp _ _,_=>VW
def zA3:List T→List T→Bool
 | [],[]=>VW
 |x::xs,y::ys=>uU x y&&zA3 xs ys
 | [],_::_=>VX
 |_::_,[]=>VX
end
mutual
theorem zCA:(x y:T)→uU x y=VW→x.size=y.size
 |.agg xs,.agg ys,h=>by simp only[uU]at h;simp only[T.size];exact zEq xs ys h
 |.agg _,.any,h|.agg _,.lit _,h|.agg _,.ro _,h|.agg _,.same _ _,h|.agg _,.addr _ _,h|.agg _,.sub _ _ _ _ _,h|.agg _,.sl _ _,h|.agg _,.ptr _,h|.agg _,.tup _,h=>by grind[uU]
 |.tup _,_,h=>by grind[uU]
 |.any,y,h|.lit _,y,h|.ro _,y,h|.same _ _,y,h|.addr _ _,y,h|.sub _ _ _ _ _,y,h|.sl _ _,y,h|.ptr _,y,h|.mp _ _,y,h=>by cases y<;>simp[uU]at h<;>simp[T.size]
theorem zEq:(xs ys:List T)→zA3 xs ys=VW→T.sizes xs=T.sizes ys
 | [],[],_=>rfl
 |x::xs,y::ys,h=>by simp only[zA3,J1]at h;simp only[T.sizes,zCA x y h.1,zEq xs ys h.2]
 | [],_::_,h=>by grind[zA3]
 |_::_,[],h=>by grind[zA3]
end
section
variable {G:Gh}{w:World}{s:Nat}
mutual
theorem zIH:(t:T)→ ∀(p:List Nat)(b o j:Nat),Loc G w s t p b o→j<t.size→ ∃y,G.lb b (o+j)=VU (VX,s,y++p)
 |.agg xs,p,b,o,j,h,hj=>by simp only[Loc,T.size]at h hj;exact zMf xs p 0 b o j h.2 hj
 |.any,p,b,o,j,h,hj|.lit _,p,b,o,j,h,hj|.ro _,p,b,o,j,h,hj|.same _ _,p,b,o,j,h,hj|.addr _ _,p,b,o,j,h,hj|.sub _ _ _ _ _,p,b,o,j,h,hj|.sl _ _,p,b,o,j,h,hj|.ptr _,p,b,o,j,h,hj|.mp _ _,p,b,o,j,h,hj=>by
  simp only[Loc,T.size]at h hj
  simp_all
 |.tup _,_,_,_,_,h,_=>by simp only[Loc]at h
theorem zMf:(xs:List T)→ ∀(p:List Nat)(i b o j:Nat),uN G w s xs p i b o→j<T.sizes xs→ ∃y,G.lb b (o+j)=VU (VX,s,y++p)
 | [],_,_,_,_,_,_,hj=>by grind[T.sizes]
 |x::xs,p,i,b,o,j,h,hj=>by
  simp only[uN,T.sizes]at h hj
  by_cases gI:j<x.size
  ·obtain⟨y,hy⟩:=zIH x (i::p) b o j h.1 gI
   exact⟨y++[i],by grind⟩
  ·obtain⟨y,hy⟩:=zMf xs p (i+1) b (o+x.size) (j-x.size) h.2 (by omega)
   grind
end
mutual
theorem zO5{G':Gh}{w':World}:(u u0:T)→ ∀(p:List Nat)(b o:Nat),uU u u0=VW→(∀y,u.inT y.reverse=VW→G'.ad s (y++p)=G.ad s (y++p))→
  (∀b o y,G.lb b o=VU (VX,s,y++p)→G'.lb b o=VU (VX,s,y++p))→(∀j v,(vals G' s u p)[j]? =VU v→yX w' b (o+j)=VU v)→Loc G w s u0 p b o→Loc G' w' s u p b o
 |.agg xs,.agg ys,p,b,o,h,ha,hl,hc,h0=>by
  simp only[Loc,uU]at h h0 ⊢
  refine⟨by have:=ha [] rfl;grind,zMg xs ys p 0 b o h (fun i x hx y hy=>?_) (by omega) (by grind[vals]) h0.2⟩
  grind[G8,T.inT]
 |.agg _,.any,_,_,_,h,_,_,_,_|.agg _,.lit _,_,_,_,h,_,_,_,_|.agg _,.ro _,_,_,_,h,_,_,_,_|.agg _,.same _ _,_,_,_,h,_,_,_,_|.agg _,.addr _ _,_,_,_,h,_,_,_,_|.agg _,.sub _ _ _ _ _,_,_,_,h,_,_,_,_|.agg _,.sl _ _,_,_,_,h,_,_,_,_|.agg _,.ptr _,_,_,_,h,_,_,_,_|.agg _,.tup _,_,_,_,h,_,_,_,_=>by grind[uU]
 |.tup _,_,_,_,_,h,_,_,_,_=>by grind[uU]
 |.any,u0,p,b,o,h,ha,hl,hc,h0|.lit _,u0,p,b,o,h,ha,hl,hc,h0|.ro _,u0,p,b,o,h,ha,hl,hc,h0|.same _ _,u0,p,b,o,h,ha,hl,hc,h0|.addr _ _,u0,p,b,o,h,ha,hl,hc,h0|.sub _ _ _ _ _,u0,p,b,o,h,ha,hl,hc,h0|.sl _ _,u0,p,b,o,h,ha,hl,hc,h0|.ptr _,u0,p,b,o,h,ha,hl,hc,h0|.mp _ _,u0,p,b,o,h,ha,hl,hc,h0=>by have h1:=sH (by cases u0<;>simp[uU]at h<;>rfl) h0;have h2:=ha [] rfl;rw[K9]at h2;simp only[Loc];exact⟨h2.trans h1.1,by simp_all,by simpa using hc 0 (G'.hd s p) (by simp[vals])⟩
theorem zMg{G':Gh}{w':World}:(xs ys:List T)→ ∀(p:List Nat)(j b o:Nat),zA3 xs ys=VW→(∀i x,xs[i]? =VU x→ ∀y,x.inT y.reverse=VW→G'.ad s (y++((j+i)::p))=G.ad s (y++((j+i)::p)))→
  (∀b o y,G.lb b o=VU (VX,s,y++p)→G'.lb b o=VU (VX,s,y++p))→(∀i v,(yD G' s xs p j)[i]? =VU v→yX w' b (o+i)=VU v)→uN G w s ys p j b o→uN G' w' s xs p j b o
 | [],[],_,_,_,_,_,_,_,_,_=>by simp only[uN]
 |x::xs,y::ys,p,j,b,o,h,ha,hl,hc,h0=>by
  simp only[zA3,J1,uN]at h h0 ⊢
  have hs:=zCA x y h.1;have gV:∀zs,x≠.tup zs:=by rintro zs rfl;grind[uU]
  refine⟨zO5 x y (j::p) b o h.1 (fun z hz=>by simpa using ha 0 x (by simp) z hz) (fun b o z hz=>by have:=hl b o (z++[j]) (by grind);grind) (fun i v hv=>hc i v ?_) h0.1,
   zMg xs ys p (j+1) b (o+x.size) h.2 (fun i z hz=>by have:=ha (i+1) z (by grind);grind) hl (fun i v hv=>?_) (by grind)⟩
  ·grind[yD]
  ·have:=hc (x.size+i) v (by
    grind[yD,uA])
   grind
 | [],_::_,_,_,_,_,h,_,_,_,_=>by grind[zA3]
 |_::_,[],_,_,_,_,h,_,_,_,_=>by grind[zA3]
end
end
def zFO(p:yR)(q:List Nat)(s:Nat)(z:List Nat):Option (List Nat):=
 match p with
 |.slot s0 t=>if qI t&&s0==s then VU (z++q)else VV
 |.zero _=>VV
def sHd(G:Gh)(p:yR)(y:List Nat):Value:=
 match p with
 |.slot s _=>G.hd s y
 |.zero u=>zAj (zhd u y.reverse)
def sWr(r:Nat)(q:List Nat):yR→Wr
 |.slot s t=>if qI t then[(s,VU (cpT r t q))]else[]
 |.zero _=>[]
def Gh.st(G:Gh)(r:Nat)(q:List Nat)(p:yR):Gh where
 hd s z:=if s=r∧q<:+z then sHd G p (z.take (z.length-q.length))else G.hd s z
 ad s z:=if s=r∧q<:+z∧p.tree.inT (z.take (z.length-q.length)).reverse=VX then(match p with
  |.slot s0 _=>G.ad s0 (z.take (z.length-q.length))
  |.zero _=>default)else G.ad s z
 lb b o:=match G.lb b o with
  |some (fl,s,z)=>(match zFO p q s z with
   |some z'=>VU (fl,r,z')
   |none=>VU (fl,s,z))
  |none=>VV
 ow b:=match G.ow b with
  |some (s,z)=>(match zFO p q s z with
   |some z'=>VU (r,z')
   |none=>VU (s,z))
  |none=>VV
mutual
theorem zJ1{Γ:Ctx}{G:Gh}{w:World}(hm:Mem Γ G w){s:Nat}:(t:T)→ ∀(p:List Nat)(v:Value),v∈vals G s t p→v.oneCell'=VW
 |.agg xs,p,v,h=>by simp only[vals]at h;exact zCZ hm xs p 0 v h
 |.any,p,v,h|.lit _,p,v,h|.ro _,p,v,h|.same _ _,p,v,h|.addr _ _,p,v,h|.sub _ _ _ _ _,p,v,h|.sl _ _,p,v,h|.ptr _,p,v,h|.mp _ _,p,v,h|.tup _,p,v,h=>by simp only[vals,List.mem_singleton]at h;rw[h];exact hm.one s p
theorem zCZ{Γ:Ctx}{G:Gh}{w:World}(hm:Mem Γ G w){s:Nat}:(xs:List T)→ ∀(p:List Nat)(j:Nat)(v:Value),v∈yD G s xs p j→v.oneCell'=VW
 | [],_,_,_,h=>by grind[yD]
 |x::xs,p,j,v,h=>by
  simp only[yD,Ka]at h;rcases h with h|h
  ·exact zJ1 hm x _ v h
  ·exact zCZ hm xs p _ v h
end
mutual
theorem zEY:(u:T)→u.zOk=VW→ ∀v∈sG u,v.oneCell'=VW
 |.lit v,h,x,hx=>by simp only[sG,List.mem_singleton]at hx;rw[hx];exact h
 |.sl _ _,_,x,hx=>by simp only[sG,List.mem_singleton]at hx;rw[hx];rfl
 |.agg xs,h,x,hx=>by simp only[T.zOk]at h;simp only[sG]at hx;exact zGu xs h x hx
 |.any,h,_,_|.ro _,h,_,_|.same _ _,h,_,_|.addr _ _,h,_,_|.sub _ _ _ _ _,h,_,_|.ptr _,h,_,_|.tup _,h,_,_|.mp _ _,h,_,_=>by grind[T.zOk]
theorem zGu:(xs:List T)→zAW xs=VW→ ∀v∈jN xs,v.oneCell'=VW
 | [],_,_,h=>by grind[jN]
 |x::xs,h,v,hv=>by
  simp only[zAW,J1]at h;simp only[jN,Ka]at hv;rcases hv with hv|hv
  ·exact zEY x h.1 v hv
  ·exact zGu xs h.2 v hv
end
theorem zJ2(y q:List Nat):(y++q).take ((y++q).length-q.length)=y:=by simp
theorem zLa{Γ:Ctx}{G G':Gh}{w':World}{s d:Nat}{q:List Nat}{t:T}{v:Option Value}(hv:v=VU (mkV G s t []))(gV:∀xs,t≠.tup xs)(hs:∀p,G'.hd s p=G.hd s p)(mg:∀z,G'.hd d (z++q)=G.hd s z)
  (hr:R Γ.St G' w' d t q):Ent Γ G' w' v s (cpT d t q):=by
 have hz:∀z,G'.hd s (z++[])=G'.hd d (z++q):=by grind
 refine⟨?_,?_,jS d t q⟩
 ·rw[hv,zBh (G:=G') (G':=G') t q [] gV hz,zA9 G s t [] gV,zBV t [] q (fun z=>by rw[mg,Ja])]
 ·exact zDD (G:=G') (G':=G') (fun _=>rfl) t q [] hz gV (xE.triv (fun _ _=>⟨rfl,rfl⟩) _) hr
section
variable {P:Program}{Γ:Ctx}{E:Env}{o:Oper}
theorem zAk:(f:List Nat)→ ∀(t u:T),zW t→zW u→zW (t.set f u)
 | [],t,u,_,hu=>by grind[T.set]
 |i::f,t,u,ht,hu=>by
  cases t with
  |sl k xs=>
   simp only[T.set];split
   ·rename_i x hx
    simp only[zW,xE]at ht ⊢
    exact sets_clean xs i _ ht (zAk f x u (tI xs ht i x hx) hu)
   ·exact ht
  |agg xs=>
   simp only[T.set];split
   ·rename_i x hx
    simp only[zW,xE]at ht ⊢
    exact sets_clean xs i _ ht (zAk f x u (tI xs ht i x hx) hu)
   ·exact ht
  |tup xs=>
   simp only[T.set];split
   ·rename_i x hx
    simp only[zW,xE]at ht ⊢
    exact sets_clean xs i _ ht (zAk f x u (tI xs ht i x hx) hu)
   ·exact ht
  |ptr t=>
   simp only[T.set];split
   ·simp only[zW,xE]at ht ⊢
    exact zAk f t u ht hu
   ·exact ht
  |_=>grind[T.set]
where sets_clean:(xs:List T)→ ∀(i:Nat)(y:T),xH xs→zW y→xH (xs.set i y)
 | [],_,_,_,_=>by grind
 |x::xs,0,y,h,hy=>by simp only[Kn,xH,xZ]at h ⊢;grind
 |x::xs,i+1,y,h,hy=>by simp only[Kl,xH,xZ]at h ⊢;exact⟨h.1,sets_clean xs i y h.2 hy⟩
theorem zEZ(T':TypeId)(ti:TypeInfo)(x y:Operand)(r:Nat)(q:List Nat)(tr u0:T)(p:yR)(ho:o.op=.store T' x y)(gg:o.dst=VV)
  (hi:P.info? T'=VU ti)(gv:ti.size=p.tree.size)(mZ:0<ti.size)(hx:zBu Γ E x r q)(hr:E r=VU tr)(dL:tr.single=VW)(hg:tr.get q.reverse=VU u0)(hl:tr.locd q.reverse=VW)
  (eR:uU p.tree u0=VW)(hy:zAH E y p)(gR:sJ E r [p]):
  wP P Γ o E (E.app ((r,VU (tr.set q.reverse p.tree))::sWr r q p) ((r,q.length)::qJ [p])):=by
 refine wP.skip gg fun a w G gc=>?_
 have hm:=gc.mem;have bv:=hx a w G gc;obtain⟨e3,e4,e5⟩:=gc.ent r _ hr;have bG:q≠[]:=by rintro rfl;simp[T.locd]at hl
 obtain⟨i0,f0,Vg⟩:∃i f,q.reverse=i::f:=by
  cases h:q.reverse with
  |nil=>exact absurd (by simpa using h) bG
  |cons i f=>exact⟨i,f,rfl⟩
 have ai:∀v:T,(tr.set q.reverse v).single=VW∧zW tr:=by
  intro v;rw[Vg]at hg ⊢
  cases tr with
  |sl k xs=>exact⟨by simp only[T.set];split<;>rfl,by simpa only[Top,zW,xE]using e5⟩
  |ptr t=>exact⟨by simp only[T.set];split<;>rfl,by simpa only[Top,zW,xE]using e5⟩
  |agg xs=>simp[T.single]at dL
  |tup xs=>simp[T.single]at dL
  |_=>simp[T.get]at hg
 obtain⟨b,ob,cs,et,pE,gH,VE⟩:=(zB8 q.reverse tr u0 [] e4 hg).2 hl;simp only[rp,Kf,Ja]at pE;have hru0:=(zB8 q.reverse tr u0 [] e4 hg).1;have mj:=zBW pE;have al:=zCA _ _ eR;have hc:=zBi gc gR (by simp) hy;have fY:(a.eval y).cells.size=p.tree.size:=by
  rw[←K0,hc];cases p with
  |slot s t=>obtain⟨_,_,h3⟩:=gR.slot s t (by simp);exact uA t [] (by rintro xs rfl;simp[T.okTup]at h3)
  |zero u=>exact uH u (gR.zero u (by simp))
 have gA:∀v∈(a.eval y).cells.toList,v.oneCell'=VW:=by
  rw[hc];intro v hv;cases p with
  |slot s t=>exact zJ1 hm t [] v hv
  |zero u=>exact zEY u (gR.zero u (by simp)) v hv
 generalize hw':w.setRow b (cs.toList.take ob++(a.eval y).cells.toList++cs.toList.drop (ob+(a.eval y).cells.toList.length)).toArray=w'
 have eb:w'.heap[b]? =VU (.cells (cs.toList.take ob++(a.eval y).cells.toList++cs.toList.drop (ob+(a.eval y).cells.toList.length)).toArray et (0,0)):=by rw[←hw'];exact setRow_heap w b cs _ et _ gH
 have gB:∀b',b'≠b→w'.heap[b']? =w.heap[b']?:=fun b' h=>by rw[←hw'];exact setRow_other w b b' _ h
 have gL:w'.heap.size=w.heap.size:=by rw[←hw'];exact size_setRow w b _
 have gK:(a.eval y).cells.toList.length=u0.size:=by rw[K0,fY,al]
 have ew:∀k,yX w' b k=if ob≤k∧k<ob+u0.size then(qX G p)[k-ob]? else yX w b k:=by
  intro k;simp only[yX,World.cell?,eb,gH,U6,Ln,if_false];rw[←hc,←gK]at*
  rw[←Kb,←Kb (xs:=cs)];simp only[];have gW:cs.toList.length=cs.size:=K0 ..
  generalize (a.eval y).cells.toList=V at*
  by_cases h1:k<ob
  ·rw[if_neg (by omega),Jd,L1 (by simp;omega),Gk h1]
  ·by_cases h2:k<ob+V.length
   ·rw[if_pos ⟨by omega,h2⟩,Jd,Jc (by simp;omega),L1 (by simp;omega)]
    congr 1;simp;omega
   ·rw[if_neg (by omega),Jd,Jc (by simp;omega),Jc (by simp;omega),L6]
    congr 1;simp;omega
 have fE:∀b' o' fl s z,G.lb b' o'=VU (fl,s,z)→ ¬(s=r∧q<:+z)→yX w' b' o'=yX w b' o':=by
  intro b' o' fl s z h1 h2
  by_cases hb:b'=b
  ·subst hb
   rw[ew];split
   ·rename_i h3
    obtain⟨y',h4⟩:=zIH u0 q b' ob (o'-ob) pE (by omega);rw[show ob+(o'-ob)=o' from by omega,h1]at h4;simp at h4;exact absurd ⟨h4.2.1,y',h4.2.2.symm⟩ h2
   ·rfl
  ·simp[yX,World.cell?,gB b' hb]
 have mb:∀(b':Nat) ms c,w.heap[b']? =VU (.map ms c)→w'.heap[b']? =VU (.map ms c):=fun b' ms c h=>by
  by_cases e:b'=b
  ·subst e
   rw[gH]at h;cases h
  ·rw[gB b' e];exact h
 have ee:Blk w w':=by
  intro b' cs' e' h1
  by_cases hb:b'=b
  ·subst hb
   rw[gH]at h1;simp at h1;obtain⟨rfl,rfl⟩:=h1;exact⟨_,eb,by simp;have:cs.toList.length=cs.size:=K0 ..;omega⟩
  ·exact⟨cs',by rw[gB b' hb];exact h1,rfl⟩
 generalize gp:G.st r q p=G'
 have ghd:∀y',G'.hd r (y'++q)=sHd G p y':=fun y'=>by rw[←gp];simp[Gh.st]
 have ghd':∀s z,¬(s=r∧q<:+z)→G'.hd s z=G.hd s z:=fun s z h=>by rw[←gp];simp only[Gh.st];rw[if_neg h]
 have gad:∀s z,¬(s=r∧q<:+z)→G'.ad s z=G.ad s z:=fun s z h=>by rw[←gp];simp only[Gh.st];rw[if_neg (fun h2=>h ⟨h2.1,h2.2.1⟩)]
 have gadf:∀y',p.tree.inT y'.reverse=VW→G'.ad r (y'++q)=G.ad r (y'++q):=fun y' h=>by rw[←gp];simp only[Gh.st,zJ2];rw[if_neg (by simp[h])]
 have gadm:∀s0 t y',p=.slot s0 t→t.inT y'.reverse=VX→G'.ad r (y'++q)=G.ad s0 y':=fun s0 t y' h1 h2=>by subst h1;rw[←gp];simp only[Gh.st,zJ2,yR.tree];rw[if_pos];simp[h2]
 have glb:∀b' o' fl s z,G.lb b' o'=VU (fl,s,z)→zFO p q s z=VV→G'.lb b' o'=VU (fl,s,z):=fun b' o' fl s z h1 h2=>by rw[←gp];simp[Gh.st,h1,h2]
 have glbm:∀b' o' fl s z z',G.lb b' o'=VU (fl,s,z)→zFO p q s z=VU z'→G'.lb b' o'=VU (fl,r,z'):=fun b' o' fl s z z' h1 h2=>by rw[←gp];simp[Gh.st,h1,h2]
 have gow:∀b' s z,G.ow b'=VU (s,z)→zFO p q s z=VV→G'.ow b'=VU (s,z):=fun b' s z h1 h2=>by rw[←gp];simp[Gh.st,h1,h2]
 have gowm:∀b' s z z',G.ow b'=VU (s,z)→zFO p q s z=VU z'→G'.ow b'=VU (r,z'):=fun b' s z z' h1 h2=>by rw[←gp];simp[Gh.st,h1,h2]
 have de:∀s z,(∀n,(s,n)∉(r,q.length)::qJ [p])→zFO p q s z=VV:=by
  intro s z h;cases p with
  |zero u=>rfl
  |slot s0 t=>
   simp only[zFO];rw[if_neg];intro h2;simp only[J1,beq_iff_eq]at h2;obtain⟨h3,rfl⟩:=h2;exact h 1 (by simp[qJ,xU,h3])
 have cV:∀z,zFO p q r z=VV:=by
  intro z;cases p with
  |zero u=>rfl
  |slot s0 t=>
   simp only[zFO];rw[if_neg];intro h2;simp only[J1,beq_iff_eq]at h2;obtain⟨h3,rfl⟩:=h2;have:=(Kk.1 gR.dist).1;simp[xU,h3]at this
 have ma:∀s z,Off ((r,q.length)::qJ [p]) s z→ ¬(s=r∧q<:+z):=by
  rintro s z h ⟨rfl,h2⟩
  have:=h q.length (by simp);have:=h2.length_le;omega
 have gy:zAF ((r,q.length)::qJ [p]) G w G' w':=by
  refine⟨fun s z h=>ghd' s z (ma s z h),fun s z h=>gad s z (ma s z h),fun b' o' fl s z _ h1 h2=>⟨glb b' o' fl s z h1 (de s z h2),fE b' o' fl s z h1 ?_⟩,fun b' s z h1 h2=>gow b' s z h1 (de s z h2),ee,fun b' _ _ ms c _ _ h=>mb b' ms c h⟩
  rintro⟨rfl,_⟩
  exact h2 q.length (by simp)
 have bP:zC4 Γ w b:=by obtain⟨y',h4⟩:=zIH u0 q b ob 0 pE (by omega);exact hm.lb _ _ _ h4
 have gE:Mem Γ G' w':=by
  refine⟨fun s z=>?_,fun b' o' l hl=>?_,fun b' l hl=>?_,fun b' x' gZ=>?_,fun b' h1 h2=>?_,by rw[gL];exact hm.sz,hm.bk.trans ee (by rw[←hw'];rfl) (by rw[←hw'];rfl)⟩
  ·by_cases h:s=r∧q<:+z
   ·obtain⟨rfl,y',rfl⟩:=h
    rw[ghd];unfold sHd;split
    ·exact hm.one _ _
    ·exact zBA _
   ·rw[ghd' s z h];exact hm.one s z
  ·have:∃l',G.lb b' o'=VU l':=by
    rw[←gp]at hl;simp only[Gh.st]at hl;split at hl
    ·exact⟨_,by assumption⟩
    ·cases hl
   obtain⟨l',bi⟩:=this;have:=hm.lb b' o' l' bi;exact⟨by rw[gL];exact this.1,this.2⟩
  ·have:∃l',G.ow b'=VU l':=by
    rw[←gp]at hl;simp only[Gh.st]at hl;split at hl
    ·exact⟨_,by assumption⟩
    ·cases hl
   obtain⟨l',bi⟩:=this;have:=hm.ow b' l' bi;exact⟨by rw[gL];exact this.1,this.2⟩
  ·have hb:b'≠b:=by rintro rfl;rw[bP.2.2]at gZ;cases gZ
   rw[gB b' hb];exact hm.st b' x' gZ
  ·have hb:b'≠b:=by
    rintro rfl
    rcases bP.2.1 with h3|h3
    ·omega
    ·exact h2 h3
   rw[gB b' hb];exact hm.fr b' h1 h2
 have io:Upd G w G' w' r q:=by refine⟨fun z h=>ghd' r z (fun h2=>h h2.2),fun z h=>gad r z (fun h2=>h h2.2),fun b' o' fl z h1 h=>⟨glb b' o' fl r z h1 (cV z),fE b' o' fl r z h1 (fun h2=>h h2.2)⟩,fun b' z h1 _=>gow b' r z h1 (cV z),ee,fun b' _ ms c _ _ h=>mb b' ms c h⟩
 have bF:R Γ.St G' w' r p.tree q:=by
  cases hp:p with
  |zero u=>
   refine zIF u q (gR.zero u (by simp[hp])) (fun z=>by rw[ghd];simp[sHd,hp])
  |slot s0 t=>
   obtain⟨h1,h2,h3⟩:=gR.slot s0 t (by simp[hp]);have eC:=(gc.ent s0 t h1).2.1
   by_cases pc:qI t=VW
   ·have iF:s0≠r:=by
     rintro rfl
     have:=(Kk.1 gR.dist).1;simp[hp,xU,pc]at this
    refine zJz t [] q h3 ⟨fun z=>by rw[ghd,Ja];simp[sHd,hp],fun z hz=>by rw[Ja];exact gadm s0 t z hp hz,fun b' o' fl z _ h4=>?_,fun b' z h4=>?_,ee,fun b' _ ms c _ h=>mb b' ms c h⟩ (xE.mono (fun _ _=>False.elim) t h2) eC
    ·rw[Ja]at h4
     exact⟨glbm b' o' fl s0 z _ h4 (by simp[zFO,hp,pc]),fE b' o' fl s0 z h4 (fun h5=>iF h5.1)⟩
    ·rw[Ja]at h4
     exact gowm b' s0 z _ h4 (by simp[zFO,hp,pc])
   ·have hh:G'.hd r q=G.hd s0 []:=by have:=ghd [];rw[K9]at this;rw[this];simp[sHd,hp]
    cases t<;>simp[qI]at pc<;>simp only[R,yR.tree]at eC ⊢ <;>rw[hh]<;>exact eC
 have cd:vals G' r p.tree q=qX G p:=by
  cases hp:p with
  |zero u=>exact zEW u q (gR.zero u (by simp[hp])) (fun z=>by rw[ghd];simp[sHd,hp])
  |slot s0 t=>exact zBt t [] q (fun z=>by rw[ghd];simp[sHd,hp])
 have dn:∀b' o',Loc G w r u0 q b' o'→Loc G' w' r p.tree q b' o':=by
  intro b' o' h1;have h2:b'=b∧o'=ob:=by have:=(zBW h1).symm.trans mj;simp at this;exact this
  obtain⟨rfl,rfl⟩:=h2;refine zO5 p.tree u0 q b' o' eR (fun y' h=>gadf y' h) (fun b2 o2 y' h=>glb b2 o2 VX r _ h (cV _)) (fun j v hv=>?_) h1;rw[cd]at hv;have hj:=(J9.1 hv).1;have bH:(qX G p).length=u0.size:=by rw[←hc,gK]
  rw[ew,if_pos ⟨by omega,by omega⟩,show o'+j-o'=j from by omega];exact hv
 have ar:R Γ.St G' w' r (tr.set q.reverse p.tree) []:=by
  have pi:rp q.reverse []=q:=by simp[rp]
  refine zGh q.reverse tr p.tree u0 [] (by rw[pi];exact io) e4 hg al (xE.mono (fun _ _=>False.elim) tr (ai .any).2) (by rw[pi];exact dn) (by rw[pi];exact bF)
 have gJ:=run_storeCells_at P b ob et (a.eval y).cells.toList 0 cs w gH (by omega) gA;simp only[Gx]at gJ;rw[hw']at gJ;refine⟨w',?_,G',tK gc rfl gy gE ?_ ?_⟩
 ·have iA:(a.eval y).cells.size=ti.size:=by rw[fY,gv]
  simp[execOp,ho,bv,mj,Instr.storeAt,sQ,storeVar,sizeOf,typeInfo,hi,iA,gJ]
 ·intro s hs
  simp only[Wr.find]at hs;split at hs
  ·cases hs
  ·rename_i gk
   refine⟨fun n hn=>?_,rfl⟩;simp only[Jj,Q2.injEq]at hn;rcases hn with⟨h1,_⟩|hn
   ·exact gk h1.symm
   ·cases p with
    |zero u=>simp[qJ,xU]at hn
    |slot s0 t=>
     by_cases pc:qI t=VW
     ·simp[qJ,xU,pc]at hn
      simp[sWr,pc,Wr.find,hn.1.symm]at hs
     ·simp[qJ,xU,pc]at hn
 ·intro s t hs
  simp only[Wr.find]at hs;split at hs
  ·rename_i he
   subst he;simp at hs;subst hs;refine⟨?_,ar,Top.of_clean _ (zAk _ _ _ (ai .any).2 ?_)⟩
   ·rw[e3,xY (ai p.tree).1,xY dL]
    congr 1
    exact(ghd' r [] (fun h=>bG (by simpa using h.2))).symm
   ·cases p with
    |zero u=>exact(zBB u (gR.zero u (by simp))).1
    |slot s0 t=>exact(gR.slot s0 t (by simp)).2.1
  ·rename_i gk
   cases hp:p with
   |zero u=>simp[sWr,hp,Wr.find]at hs
   |slot s0 t0=>
    by_cases pc:qI t0=VW
    ·simp only[sWr,hp,pc,if_true,Wr.find]at hs
     split at hs
     ·rename_i he
      subst he;simp at hs;subst hs;obtain⟨h1,h2,h3⟩:=gR.slot s0 t0 (by simp[hp]);refine zLa (G:=G) (gc.ent s0 t0 h1).1 (by rintro xs rfl;simp[T.okTup]at h3) (fun z=>ghd' s0 z (fun h=>gk h.1.symm)) (fun z=>by rw[ghd];simp[sHd,hp]) (by rw[hp]at bF;exact bF)
     ·cases hs
    ·simp[sWr,hp,pc,Wr.find]at hs
theorem zJ3(T':TypeId)(ti:TypeInfo)(x y:Operand)(r:Nat)(q:List Nat)(tr u0:T)(p:yR)(ho:o.op=.store T' x y)(gg:o.dst=VV)
  (hi:P.info? T'=VU ti)(gv:ti.size=p.tree.size)(mZ:0<ti.size)(hx:opT E x=VU (.addr r q))(hr:E r=VU tr)(dL:tr.single=VW)(hg:tr.get q.reverse=VU u0)(hl:tr.locd q.reverse=VW)
  (eR:uU p.tree u0=VW)(hy:zAH E y p)(gR:sJ E r [p]):
  wP P Γ o E (E.app ((r,VU (tr.set q.reverse p.tree))::sWr r q p) ((r,q.length)::qJ [p])):=
 by grind[zEZ,zBu.addr]
end
end Go.Ab

namespace Go.Ab
open Go
section
variable {G G':Gh}{s:Nat}
theorem zLb(xs:List T):∀(p:List Nat)(j:Nat),(∀k,j≤k→ ∀z,G'.hd s (z++(k::p))=G.hd s (z++(k::p)))→yD G' s xs p j=yD G s xs p j:=by
 induction xs with
 |nil=>grind[yD]
 |cons z zs ih=>
  intro p j h;simp only[yD];rw[zBt z (j::p) (j::p) (h j (Jf _)),ih p (j+1) (by grind)]
theorem zNt(xs:List T):∀(p:List Nat)(j i:Nat)(x y:T),xs[i]? =VU x→(∀k,k≠j+i→ ∀z,G'.hd s (z++(k::p))=G.hd s (z++(k::p)))→
  vals G' s y ((j+i)::p)=vals G s x ((j+i)::p)→yD G' s (xs.set i y) p j=yD G s xs p j:=by
 induction xs with
 |nil=>simp
 |cons z zs ih=>
  intro p j i x y h hz hy;cases i with
  |zero=>
   grind[yD,zLb]
  |succ i=>
   simp only[Kl,yD];rw[zBt z (j::p) (j::p) (hz j (by omega)),ih p (j+1) i x y (by grind) (by grind) (by grind)]
theorem zJ4:(f:List Nat)→ ∀(t u u0:T)(p:List Nat),t.get f=VU u0→u0.single=VW→u.single=VW→(∀z,(rp f p<:+z→z=rp f p)→G'.hd s z=G.hd s z)→vals G' s (t.set f u) p=vals G s t p
 | [],t,u,u0,p,hg,h0,h1,hh=>by simp[T.get]at hg;subst hg;have:G'.hd s p=G.hd s p:=hh p (by simp[rp]);simp only[T.set];cases t<;>simp[T.single]at h0<;>cases u<;>simp[T.single]at h1<;>simp[vals,this]
 |i::f,t,u,u0,p,hg,h0,h1,hh=>by
  rw[zBr]at hh;have hp:G'.hd s p=G.hd s p:=by grind[zA2]
  cases t with
  |agg xs=>
   simp only[T.get]at hg;cases hx:xs[i]? with
   |none=>grind
   |some x=>
    rw[hx]at hg;simp only[T.set,hx,vals];refine zNt xs p 0 i x _ hx (by grind[zAg]) ?_;rw[J6];exact zJ4 f x u u0 (i::p) hg h0 h1 hh
  |tup xs=>
   grind[T.set,vals]
  |sl k xs=>grind[T.set,vals]
  |ptr t=>grind[T.set,vals]
  |_=>grind[T.get]
theorem zJ5(f:List Nat)(t u u0:T)(p:List Nat)(hg:t.get f=VU u0)(h0:u0.single=VW)(h1:u.single=VW)(hh:∀z,(rp f p<:+z→z=rp f p)→G'.hd s z=G.hd s z)(gV:∀xs,t≠.tup xs):
  qH G' s (t.set f u) p=qH G s t p:=by
 have h:=zJ4 f t u u0 p hg h0 h1 hh;cases f with
 |nil=>
  simp[T.get]at hg;subst hg;have:G'.hd s p=G.hd s p:=hh p (by simp[rp]);simp only[T.set];cases t<;>simp[T.single]at h0<;>cases u<;>simp[T.single]at h1<;>simp[qH,this]
 |cons i f=>
  rw[zBr]at hh;have hp:G'.hd s p=G.hd s p:=by grind[zA2]
  cases t with
  |agg xs=>
   grind[T.set,vals,qH]
  |tup xs=>grind
  |sl k xs=>grind[T.set,qH]
  |ptr t=>grind[T.set,qH]
  |_=>grind[T.get]
theorem zNu(xs:List T):∀(p:List Nat)(j:Nat),(∀k,j≤k→ ∀z,G'.hd s (z++(k::p))=G.hd s (z++(k::p)))→zA8 G' s xs p j=zA8 G s xs p j:=by
 induction xs with
 |nil=>grind[zA8]
 |cons z zs ih=>
  intro p j h;simp only[zA8];rw[zBV z (j::p) (j::p) (h j (Jf _)),ih p (j+1) (by grind)]
theorem zO6(xs:List T):∀(p:List Nat)(j i:Nat)(x y:T),xs[i]? =VU x→(∀k,k≠j+i→ ∀z,G'.hd s (z++(k::p))=G.hd s (z++(k::p)))→
  qH G' s y ((j+i)::p)=qH G s x ((j+i)::p)→zA8 G' s (xs.set i y) p j=zA8 G s xs p j:=by
 induction xs with
 |nil=>simp
 |cons z zs ih=>
  intro p j i x y h hz hy;cases i with
  |zero=>
   grind[zA8,zNu]
  |succ i=>
   simp only[Kl,zA8];rw[zBV z (j::p) (j::p) (hz j (by omega)),ih p (j+1) i x y (by grind) (by grind) (by grind)]
def wZ:T→Bool
 |.tup xs=>xs.all fun x=>match x with
  |.tup _=>VX
  |_=>VW
 |_=>VW
theorem zMh(f:List Nat)(t u u0:T)(p:List Nat)(hg:t.get f=VU u0)(h0:u0.single=VW)(h1:u.single=VW)(hh:∀z,(rp f p<:+z→z=rp f p)→G'.hd s z=G.hd s z)(mh:wZ t=VW):
  mkV G' s (t.set f u) p=mkV G s t p:=by
 by_cases ht:∃xs,t=.tup xs
 ·obtain⟨xs,rfl⟩:=ht
  cases f with
  |nil=>grind[T.get,T.single]
  |cons i f=>
   rw[zBr]at hh;simp only[T.get]at hg;cases hx:xs[i]? with
   |none=>grind
   |some x=>
    rw[hx]at hg;simp only[T.set,hx,mkV];rw[zO6 xs p 0 i x _ hx (fun k hk z=>hh _ (fun h=>absurd h (zAg (by omega) z)))];rw[J6];refine zJ5 f x u u0 (i::p) hg h0 h1 hh ?_
    rintro ys rfl
    simp only[wZ]at mh;have:=Jy.1 mh _ (Ky hx)
    grind
 ·have gV:∀xs,t≠.tup xs:=by grind
  rw[zA9 G s t p gV,←zJ5 f t u u0 p hg h0 h1 hh gV];refine zA9 G' s _ p ?_
  rintro xs eH
  cases f with
  |nil=>grind[T.set,T.single]
  |cons i f=>cases t<;>simp only[T.set]at eH<;>first|grind|grind|cases eH
end
theorem zFV:(f:List Nat)→ ∀(t u:T),Top t→zW u→Top (t.set f u)
 | [],t,u,_,hu=>by grind[T.set,Top.of_clean]
 |i::f,t,u,ht,hu=>by
  cases t with
  |sl k xs=>
   refine Top.of_clean _ (zAk (i::f) _ u (by simpa only[Top,zW,xE]using ht) hu)
  |ptr t=>exact Top.of_clean _ (zAk (i::f) _ u (by simpa only[Top,zW,xE]using ht) hu)
  |agg xs=>
   simp only[T.set];split
   ·rename_i x hx
    simp only[Top]at ht ⊢
    exact tops_set xs i _ ht (zFV f x u (tops_get xs ht i x hx) hu)
   ·exact ht
  |tup xs=>
   simp only[T.set];split
   ·rename_i x hx
    simp only[Top]at ht ⊢
    exact tops_set xs i _ ht (zFV f x u (tops_get xs ht i x hx) hu)
   ·exact ht
  |_=>grind[T.set]
where
 tops_set:(xs:List T)→ ∀(i:Nat)(y:T),tA xs→Top y→tA (xs.set i y)
  | [],_,_,_,_=>by simp[tA]
  |x::xs,0,y,h,hy=>by simp only[Kn,tA]at h ⊢;grind
  |x::xs,i+1,y,h,hy=>by simp only[Kl,tA]at h ⊢;exact⟨h.1,tops_set xs i y h.2 hy⟩
 tops_get:(xs:List T)→tA xs→ ∀(i:Nat)(x:T),xs[i]? =VU x→Top x
  | [],_,_,_,h=>by simp at h
  |y::ys,hk,i,x,h=>by
   simp only[tA]at hk;cases i with
   |zero=>grind
   |succ i=>exact tops_get ys hk.2 i x (by grind)
def Gh.tr(G:Gh)(d:Nat)(g:List Nat)(r:Nat)(p:List Nat):Gh where
 hd s z:=if s=d∧g<:+z then G.hd r (z.take (z.length-g.length)++p)else G.hd s z
 ad s z:=if s=d∧g<:+z∧z≠g then G.ad r (z.take (z.length-g.length)++p)else G.ad s z
 lb b o:=match G.lb b o with
  |some (fl,s,z)=>if s=r∧p<:+z∧(fl=VW∨z≠p)then VU (fl,d,z.take (z.length-p.length)++g)else VU (fl,s,z)
  |none=>VV
 ow b:=match G.ow b with
  |some (s,z)=>if s=r∧p<:+z then VU (d,z.take (z.length-p.length)++g)else VU (s,z)
  |none=>VV
theorem zF8{t:T}(h:t.single=VW):t.size=1:=by cases t<;>simp[T.single]at h<;>simp[T.size]
theorem zDJ{Γ:Ctx}{E:Env}{G:Gh}{tmps:Array Value}{w:World}(gc:Rep Γ E G tmps w)(d:Nat)(g:List Nat)(r:Nat)(p:List Nat)(td tr u v0:T)(hd:E d=VU td)(hg:td.get g.reverse=VU v0)(ae:v0.single=VW)(gO:G.hd d g=G.hd r p)(hr:E r=VU tr)
  (hp:tr.get p.reverse=VU u)(hu:u.single=VW)(ea:zW u)(gU:d≠r)(bc:td.okB [(d,g.length+1),(r,p.length+1)]=VW)(pB:tr.okB [(d,g.length+1),(r,p.length+1)]=VW)(pf:wZ td=VW)(eP:wZ tr=VW):
  Rep Γ (E.app [(d,VU (td.set g.reverse u)),(r,VU (if p=[]then .same d g else tr.set p.reverse .any))] [(d,g.length+1),(r,p.length+1)]) (G.tr d g r p) tmps w∧ ∀s z,¬(s=d∧g<:+z∧z≠g)→(G.tr d g r p).hd s z=G.hd s z:=by
 obtain⟨d1,d2,d3⟩:=gc.ent d td hd;obtain⟨r1,r2,r3⟩:=gc.ent r tr hr;have hm:=gc.mem;have bF:=(zB8 p.reverse tr u [] r2 hp).1;simp only[rp,Kf,Ja]at bF;have gH:Blk w w:=fun b cs e' h=>⟨cs,h,rfl⟩
 generalize gp:G.tr d g r p=G'
 have ghd:∀z,G'.hd d (z++g)=G.hd r (z++p):=fun z=>by rw[←gp];simp[Gh.tr]
 have ghd0:∀s z,¬(s=d∧g<:+z∧z≠g)→G'.hd s z=G.hd s z:=by
  intro s z h;rw[←gp];simp only[Gh.tr]
  by_cases h2:s=d∧g<:+z
  ·have h3:z=g:=by
    rcases Decidable.em (z=g)with e|e
    ·exact e
    ·exact absurd ⟨h2.1,h2.2,e⟩ h
   subst h3;rw[if_pos h2,h2.1];simpa using gO.symm
  ·rw[if_neg h2]
 have gad0:∀s z,¬(s=d∧g<:+z∧z≠g)→G'.ad s z=G.ad s z:=fun s z h=>by rw[←gp];simp only[Gh.tr];rw[if_neg h]
 have gad:∀z,z≠[]→G'.ad d (z++g)=G.ad r (z++p):=fun z h=>by rw[←gp];simp only[Gh.tr];rw[if_pos (by simpa using h)];simp
 have glb0:∀b o fl s z,G.lb b o=VU (fl,s,z)→ ¬(s=r∧p<:+z∧(fl=VW∨z≠p))→G'.lb b o=VU (fl,s,z):=fun b o fl s z h1 h2=>by rw[←gp];simp only[Gh.tr,h1];rw[if_neg h2]
 have glb:∀b o fl z,G.lb b o=VU (fl,r,z++p)→(fl=VW∨z≠[])→G'.lb b o=VU (fl,d,z++g):=fun b o fl z h1 h2=>by rw[←gp];simp only[Gh.tr,h1];rw[if_pos (by simpa using h2)];simp
 have gow0:∀b s z,G.ow b=VU (s,z)→ ¬(s=r∧p<:+z)→G'.ow b=VU (s,z):=fun b s z h1 h2=>by rw[←gp];simp only[Gh.tr,h1];rw[if_neg h2]
 have gow:∀b z,G.ow b=VU (r,z++p)→G'.ow b=VU (d,z++g):=fun b z h1=>by rw[←gp];simp only[Gh.tr,h1];rw[if_pos (by simp)];simp
 have gD:∀s z,Off [(d,g.length+1),(r,p.length+1)] s z→ ¬(s=d∧g<:+z∧z≠g):=by
  rintro s z h ⟨rfl,⟨y,rfl⟩,h3⟩
  have:=h (g.length+1) (by simp);have:y=[]:=Js (by simp at this;omega);exact h3 (by simp[this])
 have gy:zAF [(d,g.length+1),(r,p.length+1)] G w G' w:=by
  refine⟨fun s z h=>ghd0 s z (gD s z h),fun s z h=>gad0 s z (gD s z h),fun b o fl s z _ h1 h2=>⟨glb0 b o fl s z h1 ?_,rfl⟩,fun b s z h1 h2=>gow0 b s z h1 ?_,gH,by intros;assumption⟩
  ·rintro⟨rfl,_⟩;exact h2 (p.length+1) (by simp)
  ·rintro⟨rfl,_⟩;exact h2 (p.length+1) (by simp)
 have gE:Mem Γ G' w:=by
  refine⟨fun s z=>?_,fun b o l hl=>?_,fun b l hl=>?_,hm.st,hm.fr,hm.sz,hm.bk⟩
  ·rw[←gp]
   simp only[Gh.tr];split
   ·exact hm.one _ _
   ·exact hm.one _ _
  ·have:∃l',G.lb b o=VU l':=by
    rw[←gp]at hl;simp only[Gh.tr]at hl;split at hl
    ·exact⟨_,by assumption⟩
    ·cases hl
   obtain⟨l',bi⟩:=this;exact hm.lb b o l' bi
  ·have:∃l',G.ow b=VU l':=by
    rw[←gp]at hl;simp only[Gh.tr]at hl;split at hl
    ·exact⟨_,by assumption⟩
    ·cases hl
   obtain⟨l',bi⟩:=this;exact hm.ow b l' bi
 have pi:∀q:List Nat,rp q.reverse []=q:=fun q=>by simp[rp]
 have hud:R Γ.St G' w d u g:=by
  refine zAU (G:=G) (w:=w) (s:=r) (p:=p) ⟨⟨ghd,gad,fun b o f z hz _ hl=>⟨glb b o f z hl (.inr hz),rfl⟩,fun b z _ hl=>gow b z hl,gH,by intros;assumption⟩,fun b o _ hl=>⟨by simpa using glb b o VW [] (by simpa using hl) (.inl rfl),rfl⟩,fun b hl=>by simpa using gow b [] (by simpa using hl)⟩ u
   (xE.mono (fun _ _=>False.elim) u ea) bF
 have ag:Upd G w G' w d g:=⟨fun z h=>ghd0 d z (fun h2=>h h2.2.1),fun z h=>gad0 d z (fun h2=>h h2.2.1),fun b o f z h1 _=>⟨glb0 b o f d z h1 (fun h2=>gU h2.1),rfl⟩,fun b z h1 _=>gow0 b d z h1 (fun h2=>gU h2.1),gH,by intros;assumption⟩;have dp:∀b o,Loc G w d v0 g b o→Loc G' w d u g b o:=by intro b o h1;obtain⟨h2,h3,h4⟩:=sH ae h1;have h5:G'.ad d g=⟨b,o,VV⟩∧G'.lb b o=VU (VX,d,g)∧yX w b o=VU (G'.hd d g):=⟨(gad0 d g (fun h=>h.2.2 rfl)).trans h2,glb0 b o VX d g h3 (fun h=>gU h.1),by rw[h4,ghd0 d g (fun h=>h.2.2 rfl)]⟩;cases u<;>simp[T.single]at hu<;>simpa only[Loc]using h5
 have dE:R Γ.St G' w d (td.set g.reverse u) []:=
  zGh g.reverse td u v0 [] (by rw[pi];exact ag) d2 hg (by rw[zF8 ae,zF8 hu]) (gy.keepR (zBs td d3 bc)) (by rw[pi];exact dp) (by rw[pi];exact hud)
 have hVd:mkV G' d (td.set g.reverse u) []=mkV G d td []:=
  zMh g.reverse td u v0 [] hg ae hu (fun z hz=>ghd0 d z (fun h2=>h2.2.2 (by rw[pi]at hz;exact hz h2.2.1))) pf
 have hRr:p≠[]→R Γ.St G' w r (tr.set p.reverse .any) []:=by intro bI;refine zGh p.reverse tr .any u [] (by rw[pi];exact⟨fun z _=>ghd0 r z (fun h2=>gU h2.1.symm),fun z _=>gad0 r z (fun h2=>gU h2.1.symm),fun b o f z h1 h=>⟨glb0 b o f r z h1 (fun h2=>h h2.2.1),rfl⟩,fun b z h1 h=>gow0 b r z h1 (fun h2=>h h2.2),gH,by intros;assumption⟩) r2 hp (by cases u<;>simp[T.single]at hu<;>simp[T.size]) (gy.keepR (zBs tr r3 pB)) ?_ (by simp only[R]);rw[pi];intro b o h1;obtain⟨h2,h3,h4⟩:=sH hu h1;simp only[Loc];exact⟨(gad0 r p (fun h=>gU h.1.symm)).trans h2,glb0 b o VX r p h3 (by simp),by rw[h4,ghd0 r p (fun h=>gU h.1.symm)]⟩
 have hVr:p≠[]→mkV G' r (tr.set p.reverse .any) []=mkV G r tr []:=fun _=>
  zMh p.reverse tr .any u [] hp hu rfl (fun z _=>ghd0 r z (fun h2=>gU h2.1.symm)) eP
 refine⟨tK gc rfl gy gE ?_ ?_,ghd0⟩
 ·intro s hs
  simp only[Wr.find]at hs;split at hs
  ·cases hs
  ·rename_i h1
   split at hs
   ·cases hs
   ·rename_i h2
    refine⟨fun n hn=>?_,rfl⟩;simp only[Jj,Q2.injEq,List.not_mem_nil,or_false]at hn;rcases hn with⟨e,_⟩|⟨e,_⟩
    ·exact h1 e.symm
    ·exact h2 e.symm
 ·intro s t hs
  simp only[Wr.find]at hs;split at hs
  ·rename_i he
   subst he;simp at hs;subst hs;exact⟨by rw[d1,hVd],dE,zFV _ _ _ d3 ea⟩
  ·split at hs
   ·rename_i he
    subst he;simp at hs
    by_cases bI:p=[]
    ·rw[if_pos bI]at hs
     subst hs;subst bI;simp[T.get]at hp;subst hp;refine⟨?_,?_,by simp[Top]⟩
     ·rw[r1,xY hu,xY rfl,ghd0 r [] (fun h=>gU h.1.symm)]
     ·simp only[R]
      rw[ghd0 r [] (fun h=>gU h.1.symm)];have:=ghd [];simpa using this.symm
    ·rw[if_neg bI]at hs
     subst hs;exact⟨by rw[r1,hVr bI],hRr bI,zFV _ _ _ r3 (by simp[zW,xE])⟩
   ·cases hs
theorem zLc{Γ:Ctx}{E:Env}{a:Act}{w:World}(h:Sim Γ E a w)(d:Nat)(g:List Nat)(r:Nat)(p:List Nat)(td tr u:T)(hd:E d=VU td)(hg:td.get g.reverse=VU (.same r p))(hr:E r=VU tr)
  (hp:tr.get p.reverse=VU u)(hu:u.single=VW)(ea:zW u)(gU:d≠r)(bc:td.okB [(d,g.length+1),(r,p.length+1)]=VW)(pB:tr.okB [(d,g.length+1),(r,p.length+1)]=VW)(pf:wZ td=VW)(eP:wZ tr=VW):
  Sim Γ (E.app [(d,VU (td.set g.reverse u)),(r,VU (if p=[]then .same d g else tr.set p.reverse .any))] [(d,g.length+1),(r,p.length+1)]) a w:=by
 obtain⟨gY,G,gc⟩:=h;have gO:=(zB8 g.reverse td _ [] (gc.ent d td hd).2.1 hg).1;simp only[rp,Kf,Ja,R]at gO;exact⟨gY,_,(zDJ gc d g r p td tr u _ hd hg rfl gO hr hp hu ea gU bc pB pf eP).1⟩
end Go.Ab

namespace Go.Ab
open Go
theorem zII{St:Stb}{G:Gh}{w:World}{s:Nat}{k:Nat}:(xs:List T)→ ∀(p:List Nat)(j b o:Nat),(∀i x,xs[i]? =VU x→Loc G w s x ((j+i)::p) b (o+i*k)∧x.size=k∧R St G w s x ((j+i)::p))→RL St G w s xs p j b o k
 | [],_,_,_,_,_=>by simp only[RL]
 |x::xs,p,j,b,o,h=>by
  obtain⟨h1,h2,h3⟩:=h 0 x (by simp);simp only[RL];refine⟨⟨by simpa using h1,h2⟩,by simpa using h3,zII xs p (j+1) b (o+k) (fun i y hy=>?_)⟩;have:=h (i+1) y (by simpa using hy)
  rwa [show j+(i+1)=j+1+i from by omega,show o+(i+1)*k=o+k+i*k from by rw[La];omega]at this
theorem zBj{St:Stb}{G:Gh}{w:World}{s:Nat}{k:Nat}:(xs:List T)→ ∀(p:List Nat)(j b o:Nat),RL St G w s xs p j b o k→uN G w s xs p j b o
 | [],_,_,_,_,_=>by simp only[uN]
 |x::xs,p,j,b,o,h=>by simp only[RL]at h;simp only[uN];exact⟨h.1.1,zBj xs p (j+1) b (o+x.size) (by rw[h.1.2];exact h.2.2)⟩
theorem zBE{St:Stb}{G:Gh}{w:World}{s:Nat}{k:Nat}:(xs:List T)→ ∀(p:List Nat)(j b o:Nat),RL St G w s xs p j b o k→RF St G w s xs p j∧ ∀x∈xs,x.size=k
 | [],_,_,_,_,_=>by simp[RF]
 |x::xs,p,j,b,o,h=>by simp only[RL]at h;obtain⟨h1,h2⟩:=zBE xs p (j+1) b (o+k) h.2.2;exact⟨by simp only[RF];exact⟨h.2.1,h1⟩,fun y hy=>by rcases Jj.1 hy with rfl|hy;exact h.1.2;exact h2 y hy⟩
section
variable {G:Gh}{w:World}{G':Gh}{w':World}{s s':Nat}
mutual
theorem zGv:(t:T)→ ∀(p p':List Nat)(b o:Nat),(∀z,G'.hd s' (z++p')=G.hd s (z++p))→(∀z,G'.ad s' (z++p')=G.ad s (z++p))→
  (∀b o z,G.lb b o=VU (VX,s,z++p)→G'.lb b o=VU (VX,s',z++p')∧yX w' b o=yX w b o)→Loc G w s t p b o→Loc G' w' s' t p' b o
 |.agg xs,p,p',b,o,hh,ha,hl,h=>by
  simp only[Loc]at h ⊢
  exact⟨by have:=ha [];simp at this;rw[this];exact h.1,zHH xs p p' 0 b o hh ha hl h.2⟩
 |.any,p,p',b,o,hh,ha,hl,h|.lit _,p,p',b,o,hh,ha,hl,h|.ro _,p,p',b,o,hh,ha,hl,h|.same _ _,p,p',b,o,hh,ha,hl,h|.addr _ _,p,p',b,o,hh,ha,hl,h|.sub _ _ _ _ _,p,p',b,o,hh,ha,hl,h|.sl _ _,p,p',b,o,hh,ha,hl,h|.ptr _,p,p',b,o,hh,ha,hl,h|.mp _ _,p,p',b,o,hh,ha,hl,h=>by
  simp only[Loc]at h ⊢
  have h1:=hl b o [] (by simpa using h.2.1);have h2:=ha [];have h3:=hh [];simp only[K9]at h1 h2 h3;exact⟨h2.trans h.1,h1.1,by rw[h1.2,h.2.2,h3]⟩
 |.tup _,_,_,_,_,_,_,_,h=>by simp only[Loc]at h
theorem zHH:(xs:List T)→ ∀(p p':List Nat)(j b o:Nat),(∀z,G'.hd s' (z++p')=G.hd s (z++p))→(∀z,G'.ad s' (z++p')=G.ad s (z++p))→
  (∀b o z,G.lb b o=VU (VX,s,z++p)→G'.lb b o=VU (VX,s',z++p')∧yX w' b o=yX w b o)→uN G w s xs p j b o→uN G' w' s' xs p' j b o
 | [],_,_,_,_,_,_,_,_,_=>by simp only[uN]
 |x::xs,p,p',j,b,o,hh,ha,hl,h=>by
  simp only[uN]at h ⊢
  exact⟨zGv x (j::p) (j::p') b o (fun z=>by have:=hh (z++[j]);simpa using this) (fun z=>by have:=ha (z++[j]);simpa using this) (fun b o z hz=>by have:=hl b o (z++[j]) (by simpa using hz);simpa using this) h.1,
   zHH xs p p' (j+1) b _ hh ha hl h.2⟩
end
end
theorem zEr(G:Gh)(s:Nat):∀(xs us:List T)(p:List Nat)(j:Nat),yD G s (xs++us) p j=yD G s xs p j++yD G s us p (j+xs.length)
 | [],us,p,j=>by simp[yD]
 |x::xs,us,p,j=>by simp[yD,zEr G s xs us p (j+1),Lf,Nat.add_comm 1]
theorem zEs:∀(xs us:List T),T.sizes (xs++us)=T.sizes xs+T.sizes us
 | [],us=>by simp[T.sizes]
 |x::xs,us=>by simp[T.sizes,zEs xs us,Lf]
theorem zDz:∀(xs us:List T),yN xs=VW→yN us=VW→yN (xs++us)=VW
 | [],us,_,h=>h
 |x::xs,us,h,h'=>by
  simp only[yN,J1,L7]at h ⊢
  exact⟨h.1,zDz xs us h.2 h'⟩
theorem zD0:∀(xs us:List T),xH xs→xH us→xH (xs++us)
 | [],us,_,h=>h
 |x::xs,us,h,h'=>by
  simp only[xH,xZ,L7]at h ⊢
  exact⟨h.1,zD0 xs us h.2 h'⟩
theorem zA4{St:Stb}{G:Gh}{w:World}{s:Nat}{k:Nat}:(xs:List T)→ ∀(p:List Nat)(j b o:Nat),uN G w s xs p j b o→yN xs=VW
 | [],_,_,_,_,_=>rfl
 |x::xs,p,j,b,o,h=>by simp only[uN]at h;simp only[yN,J1];exact⟨one x (j::p) b o h.1,zA4 (St:=St) (k:=k) xs p (j+1) b _ h.2⟩
where
 one:(t:T)→ ∀(p:List Nat)(b o:Nat),Loc G w s t p b o→t.okTup=VW
  |.agg xs,p,b,o,h=>by simp only[Loc]at h;simp only[T.okTup];exact zA4 (St:=St) (k:=k) xs p 0 b o h.2
  |.tup _,_,_,_,h=>by simp only[Loc]at h
  |.any,_,_,_,_|.lit _,_,_,_,_|.ro _,_,_,_,_|.same _ _,_,_,_,_|.addr _ _,_,_,_,_|.sub _ _ _ _ _,_,_,_,_|.sl _ _,_,_,_,_|.ptr _,_,_,_,_|.mp _ _,_,_,_,_=>rfl
section
variable {P:Program}
structure zGw (P:Program) (t2:TypeId) (e:TypeId) (ti:TypeInfo) (xv:Value) (m:Nat) (nv:List Value) (w:World):Prop where
 arg:(∃e2 xa c,P.underlying t2=VU (.slice e2)∧xv=.slice xa m c∧ ∀w2:World,w2.heap=w.heap→(Builtin.firstCells ti.size m (.slice xa m c)).run P w2=.ok nv.toArray w2)∨
  ∃k2 k3 z,P.underlying t2=VU (.int k2)∧xv=.int k3 (m:Int)∧ti.zero=VU z∧nv.toArray=Builtin.zeroCells z.cells m∧m*ti.bytes≤2 ^ 47∧z.cells.size=ti.size
theorem zEt{t t2 ty e:TypeId}{ti:TypeInfo}{xv:Value}{m:Nat}{nv:List Value}{w w':World}(ht:P.underlying t=VU (.slice e))(hi:P.info? e=VU ti)
  (hx:zGw P t2 e ti xv m nv w)(hm:m≤68719476736){base:Option Addr}{n cap:Nat}(gP:n+m≤cap)
  (gJ:(if let VU a:=base then storeCells (a.add (n*ti.size)) nv else pure ():Sem Unit).run P w=.ok () w'):
  (Builtin.append_ #[t,t2] ty #[.slice base n cap,xv]).run P w=.ok (.slice base (n+m) cap) w':=by
 rcases hx.arg with⟨e2,xa,c,h1,rfl,h2⟩|⟨k2,k3,z,h1,rfl,h2,h3,h4,h5⟩
 ·have h2:=h2 w rfl
  cases base with
  |none=>
   simp at gJ;subst gJ;simp[Builtin.append_,run_underlying ht,run_underlying h1,sizeOf,typeInfo,hi,Builtin.lenOf,gP,h2]
  |some a=>
   simp only at gJ;simp[Builtin.append_,run_underlying ht,run_underlying h1,sizeOf,typeInfo,hi,Builtin.lenOf,gP,h2,gJ]
 ·have mn:IntKind.i64.wrap (m:Int)=m:=by rw[IntKind.wrap_i64];omega
  have bB:¬(281474976710656<(m:Int)*(ti.bytes:Int)):=by
   have:((m*ti.bytes:Nat):Int)≤2 ^ 47:=by exact_mod_cast h4
   rw[Q3]at this;omega
  have fy:¬((m:Int)<0):=by omega
  have bJ:nv=(Builtin.zeroCells z.cells m).toList:=by rw[←h3]
  by_cases hz:m*ti.size=0
  ·have be:nv=[]:=by
    apply Js;rw[bJ];simp[Builtin.zeroCells,h5,hz]
   subst be;cases base with
   |none=>
    simp at gJ;subst gJ;simp[Builtin.append_,run_underlying ht,run_underlying h1,sizeOf,typeInfo,hi,asInt,asIntOf,mn,bB,fy,gP,hz]
   |some a=>
    simp only[storeCells,Sem.run_pure]at gJ;cases gJ;simp[Builtin.append_,run_underlying ht,run_underlying h1,sizeOf,typeInfo,hi,asInt,asIntOf,mn,bB,fy,gP,hz,storeCells]
  ·cases base with
   |none=>
    simp at gJ;subst gJ;simp[Builtin.append_,run_underlying ht,run_underlying h1,sizeOf,typeInfo,zeroValue,hi,h2,asInt,asIntOf,mn,bB,fy,gP]
   |some a=>
    simp only[bJ]at gJ;simp[Builtin.append_,run_underlying ht,run_underlying h1,sizeOf,typeInfo,zeroValue,hi,h2,asInt,asIntOf,mn,bB,fy,gP,hz,gJ]
theorem zIJ{t t2 ty e:TypeId}{ti:TypeInfo}{z xv:Value}{m:Nat}{nv olds:List Value}{w:World}(ht:P.underlying t=VU (.slice e))(hi:P.info? e=VU ti)(hz:ti.zero=VU z)
  (hx:zGw P t2 e ti xv m nv w){base:Option Addr}{n cap:Nat}(gT:cap<n+m)(ca:n+m≤68719476736)(hb:ti.bytes≤2048)
  (gB:∀w2:World,w2.heap=w.heap→(Builtin.firstCells ti.size n (.slice base n cap)).run P w2=.ok olds.toArray w2):
  (Builtin.append_ #[t,t2] ty #[.slice base n cap,xv]).run P w=.ok (.slice (VU ⟨w.heap.size,0,VV⟩) (n+m) (grownCap w (n+m) cap e))
    (w.drew.alloc (.cells ((olds++nv).toArray++Builtin.zeroCells z.cells (grownCap w (n+m) cap e-(n+m))) e)):=by
 have hn:¬(n+m≤cap):=by omega
 have bz:¬(9223372036854775807<((n:Int)+(m:Int))):=by omega
 have VE:=growslice_fits (need:=n+m) (old:=cap) (bytes:=ti.bytes) gT (Lh (Hv ca hb) (by decide));have bA:¬(281474976710656<Builtin.nextslicecap (n+m) cap*ti.bytes):=by omega
 have ho:=gB w.drew rfl;rcases hx.arg with⟨e2,xa,c,h1,rfl,h2⟩|⟨k2,k3,z',h1,rfl,h2,h3,h4,h5⟩
 ·have h2:=h2 w.drew rfl
  simp[Builtin.append_,run_underlying ht,run_underlying h1,sizeOf,typeInfo,zeroValue,hi,hz,Builtin.lenOf,hn,bz,bA,Question.forced,h2,ho,newRow,grownCap]
  congr 2
  apply Qg;simp
 ·have mn:IntKind.i64.wrap (m:Int)=m:=by rw[IntKind.wrap_i64];omega
  have bB:¬(281474976710656<(m:Int)*(ti.bytes:Int)):=by
   have:((m*ti.bytes:Nat):Int)≤2 ^ 47:=by exact_mod_cast h4
   rw[Q3]at this;omega
  have fy:¬((m:Int)<0):=by omega
  have bJ:nv=(Builtin.zeroCells z'.cells m).toList:=by rw[←h3]
  rw[hz]at h2;simp at h2;subst h2
  by_cases ud:m*ti.size=0
  ·have be:nv=[]:=by
    apply Js;rw[bJ];simp[Builtin.zeroCells,h5,ud]
   subst be;simp[Builtin.append_,run_underlying ht,run_underlying h1,sizeOf,typeInfo,zeroValue,hi,hz,asInt,asIntOf,mn,bB,fy,hn,bz,bA,Question.forced,ud,ho,newRow,grownCap]
  ·simp[Builtin.append_,run_underlying ht,run_underlying h1,sizeOf,typeInfo,zeroValue,hi,hz,asInt,asIntOf,mn,bB,fy,hn,bz,bA,Question.forced,ud,ho,newRow,grownCap,←h3]
   congr 2
   apply Qg;simp
end
def zDK(s0:Nat)(y:Option Nat)(n:Nat)(s:Nat)(z:List Nat):Option (List Nat):=
 if s=s0 then VU z else if y=VU s then(match z.getLast? with
  |some j=>VU (z.dropLast++[n+j])
  |none=>VV)else VV
def Gh.ip(G:Gh)(d s0:Nat)(y:Option Nat)(b n k oa:Nat)(us:List T)(f2:Nat→List Nat→Value)(gU:Value):Gh where
 hd s z:=if s=d then(match z.getLast? with
  |some i=>if i<n then G.hd s0 z else f2 (i-n) z.dropLast
  |none=>gU)else G.hd s z
 ad s z:=if s=d then(match z.getLast? with
  |some i=>if i<n then G.ad s0 z else if(T.agg us).inT ((i-n)::z.dropLast.reverse)then⟨b,oa+(T.agg us).offT ((i-n)::z.dropLast.reverse),VV⟩else(match y with
   |some y=>G.ad y (z.dropLast++[i-n])
   |none=>default)
  |none=>default)else G.ad s z
 lb b' o:=if b'=b∧oa≤o∧o<oa+us.length*k then(match zC7 us [] n (o-oa)with
  |some p=>VU (VX,d,p)
  |none=>VV)else match G.lb b' o with
  |some (fl,s,z)=>(match zDK s0 y n s z with
   |some z'=>VU (fl,d,z')
   |none=>VU (fl,s,z))
  |none=>VV
 ow b':=match G.ow b' with
  |some (s,z)=>(match zDK s0 y n s z with
   |some z'=>VU (d,z')
   |none=>VU (s,z))
  |none=>VV
def aWr(d s0:Nat)(y:Option Nat)(k:Nat)(ts:List T):Wr:=(d,VU (.sl k ts))::(s0,VU .any)::(match y with
 |some y=>[(y,VU .any)]
 |none=>[])
def zBn(d s0:Nat)(y:Option Nat):Chg:=(d,0)::(s0,1)::(match y with
 |some y=>[(y,1)]
 |none=>[])
structure zGx (Γ:Ctx) (E:Env) (G:Gh) (d s0:Nat) (y:Option Nat) (k n:Nat) (us:List T) (f2:Nat→List Nat→Value) (nv:List Value):Prop where
 size:∀u∈us,u.size=k
 tup:yN us=VW
 clean:xH us
 one:∀j z,(f2 j z).oneCell'=VW
 len:nv.length=us.length*k
 slot:∀y',y=VU y'→y'≠d∧y'≠s0∧E y'=VU (.sl k us)∧ ∀j z,f2 j z=G.hd y' (z++[j])
 none:y=VV→ ∀(j:Nat) u,us[j]? =VU u→ ∀(G2:Gh)(w2:World),(∀z,G2.hd d (z++[n+j])=f2 j z)→R Γ.St G2 w2 d u [n+j]
 vals:∀(G2:Gh),(∀j z,G2.hd d (z++[n+j])=f2 j z)→ ∀(o:Nat)(v:Value),(yD G2 d us [] n)[o]? =VU v→nv[o]? =VU v
theorem zJ6{G G2:Gh}{s d:Nat}:(xs:List T)→ ∀(p:List Nat)(j:Nat),(∀i,i<xs.length→ ∀z,G2.hd d (z++((j+i)::p))=G.hd s (z++((j+i)::p)))→yD G2 d xs p j=yD G s xs p j
 | [],_,_,_=>by simp only[yD]
 |x::xs,p,j,h=>by
  simp only[yD];have ih:yD G2 d xs p (j+1)=yD G s xs p (j+1):=zJ6 xs p (j+1) (fun i hi z=>by rw[show j+1+i=j+(i+1)from by omega];exact h (i+1) (by simpa using hi) z)
  rw[zBt x (j::p) (j::p) (by simpa using h 0 (by simp)),ih]
theorem zHv(z:List Nat):z=[]∨ ∃y i,z=y++[i]:=by
 rcases List.eq_nil_or_concat z with h|⟨y,i,h⟩
 ·exact .inl h
 ·exact .inr ⟨y,i,by simpa using h⟩
section
variable {P:Program}{Γ:Ctx}{E:Env}{d:Nat}
theorem zBZ{G:Gh}{a:Act}{w:World}(gc:Rep Γ E G a.tmps w)(hd:d<Γ.N){t t2 ty e:TypeId}{ti:TypeInfo}{z:Value}{k:Nat}(ht:P.underlying t=VU (.slice e))(hi:P.info? e=VU ti)(hz:ti.zero=VU z)
  (hk:ti.size=k)(_hk0:0<k)(fm:z.cells.size=k)(hb:ti.bytes≤2048){s0:Nat}{y:Option Nat}{xs us:List T}{f2:Nat→List Nat→Value}{nv:List Value}(ef:E s0=VU (.sl k xs))(eJ:s0≠d)
  (hn:zGx Γ E G d s0 y k xs.length us f2 nv){xv:Value}(hx:zGw P t2 e ti xv us.length nv w)(gA:∀v∈nv,v.oneCell'=VW)(ca:xs.length+us.length≤68719476736):
  ∃v w',(Builtin.append_ #[t,t2] ty #[G.hd s0 [],xv]).run P w=.ok v w'∧ ∃G',Rep Γ (E.app (aWr d s0 y k (xs++us)) (zBn d s0 y)) G' (a.tmps.setIfInBounds d v) w':=by
 have hm:=gc.mem;obtain⟨e1,e2,e3⟩:=gc.ent s0 _ ef;simp only[Top]at e3;simp only[R]at e2;have mG:T.sizes us=us.length*k:=vM us hn.size;have fin:∀(G':Gh)(w':World)(v:Value),zAF (zBn d s0 y) G w G' w'→Mem Γ G' w'→G'.hd d []=v→R Γ.St G' w' d (.sl k (xs++us)) []→(∀s p,s≠d→G'.hd s p=G.hd s p)→
   Rep Γ (E.app (aWr d s0 y k (xs++us)) (zBn d s0 y)) G' (a.tmps.setIfInBounds d v) w':=by
  intro G' w' v gy gE hdv dE hother;refine tK gc (by simp) gy gE ?_ ?_
  ·intro s hs
   have gk:s≠d:=by rintro rfl;simp[aWr,Wr.find]at hs
   have fW:s≠s0:=by rintro rfl;simp[aWr,Wr.find,gk.symm]at hs
   have Vq:∀y',y=VU y'→s≠y':=by
    rintro y' rfl rfl
    simp[aWr,Wr.find,gk.symm,fW.symm]at hs
   refine⟨fun n' hn'=>?_,by rw[J8];simp[gk.symm]⟩;simp only[zBn,Jj,Q2.injEq]at hn';rcases hn' with⟨h1,_⟩|⟨h1,_⟩|hn'
   ·exact gk h1
   ·exact fW h1
   ·cases y with
    |none=>simp at hn'
    |some y'=>simp at hn';exact Vq y' rfl hn'.1
  ·intro s t' hs
   by_cases h1:s=d
   ·subst h1
    simp[aWr,Wr.find]at hs;subst hs;refine⟨?_,dE,by simp only[Top];exact zD0 xs us e3 hn.clean⟩;rw[J8];simp[gc.size,hd,mkV,hdv]
   ·have h3:t'=.any∧(s=s0∨y=VU s):=by
     simp only[aWr,Wr.find]at hs;rw[if_neg (fun h=>h1 h.symm)]at hs;split at hs
     ·rename_i h2;simp at hs;exact⟨hs.symm,.inl h2.symm⟩
     ·cases y with
      |none=>simp[Wr.find]at hs
      |some y'=>
       simp only[Wr.find]at hs;split at hs
       ·rename_i h2;simp at hs;exact⟨hs.symm,.inr (by rw[h2])⟩
       ·cases hs
    obtain⟨rfl,h3⟩:=h3;refine⟨?_,by simp only[R],by simp[Top]⟩;rw[J8];simp only[Ne.symm h1,if_false,mkV];rw[hother s [] h1];rcases h3 with rfl|h3
    ·exact e1
    ·obtain⟨_,_,h4,_⟩:=hn.slot s h3
     exact(gc.ent s _ h4).1
 have cW:∀s p,(∀n',(s,n')∉zBn d s0 y)→zDK s0 y xs.length s p=VV:=by
  intro s p h;have h1:s≠s0:=fun e=>h 1 (by simp[zBn,e])
  have h2:y≠VU s:=fun e=>h 1 (by simp[zBn,e])
  simp[zDK,h1,h2]
 by_cases gP:∃a' c,G.hd s0 []=.slice a' xs.length c∧xs.length+us.length≤c
 ·
  obtain⟨a',c,hh,gP⟩:=gP;rcases e2 with⟨rfl,a1,h1⟩|⟨b,o0,cap,cs,et,h1,h2,h3,h4,h5,h6,h7,h8⟩
  ·rw[h1]at hh
   simp at hh;obtain⟨rfl,rfl⟩:=hh;have fj:us=[]:=Js (by simp only[G5]at gP;omega);subst fj;have bJ:nv=[]:=Js (by have:=hn.len;simp at this;simp[this]);subst bJ;have gw:=zEt (P:=P) (t:=t) (ty:=ty) (w':=w) ht hi hx (by simp) (base:=a1) (n:=0) (cap:=0) (by simp) (by cases a1<;>rfl);refine⟨.slice a1 0 0,w,by rw[h1];exact gw,G.put d (fun _=>.slice a1 0 0),fin _ w _ ?_ (hm.put rfl d _ (fun _=>rfl)) (by rw[Gh.put_self]) (by simp[R,Gh.put]) (fun s p h=>G.put_other _ p h)⟩;have:=G.put_keep (w:=w) (w':=w) rfl d (fun _=>.slice a1 0 0);exact⟨fun s p h=>this.hd s p (fun n hn=>h n (by simp at hn;simp[zBn,hn])),fun s p h=>this.ad s p (fun n hn=>h n (by simp at hn;simp[zBn,hn])),fun b o f s p h0 h1 h2=>this.lb b o f s p h0 h1 (fun n hn=>h2 n (by simp at hn;simp[zBn,hn])),fun b s p h1 h2=>this.ow b s p h1 (fun n hn=>h2 n (by simp at hn;simp[zBn,hn])),this.blk,by intros;assumption⟩
  ·rw[h1]at hh
   simp at hh;obtain⟨rfl,rfl⟩:=hh;have hmk0:us.length*k+xs.length*k≤cap*k:=by rw[←Hj];exact Le _ (by omega)
   have Vn:∀o,o0+(xs.length*k+us.length*k)≤o→o0+xs.length*k≤o:=fun o h=>by omega
   generalize hoa:o0+xs.length*k=oa at h7 Vn
   have hmk':oa+us.length*k≤o0+cap*k:=by omega
   have hmk:us.length*k+oa≤cs.size:=by omega
   generalize hw':w.setRow b (cs.toList.take (oa)++nv++cs.toList.drop (oa+nv.length)).toArray=w'
   have eb:w'.heap[b]? =VU (.cells (cs.toList.take (oa)++nv++cs.toList.drop (oa+nv.length)).toArray et (0,0)):=by rw[←hw'];exact setRow_heap w b cs _ et _ h2
   have gB:∀b',b'≠b→w'.heap[b']? =w.heap[b']?:=fun b' h=>by rw[←hw'];exact setRow_other w b b' _ h
   have gL:w'.heap.size=w.heap.size:=by rw[←hw'];exact size_setRow w b _
   have hcsl:cs.toList.length=cs.size:=K0 ..;have cb:=hn.len;have ew:∀i,yX w' b i=if oa≤i∧i<oa+us.length*k then nv[i-oa]? else yX w b i:=by
    intro i;simp only[yX,World.cell?,eb,h2,U6,Ln,if_false];rw[←Kb,←Kb (xs:=cs)];simp only[]
    by_cases g1:i<oa
    ·rw[if_neg (by omega),Jd,L1 (by simp;omega),Gk g1]
    ·by_cases g2:i<oa+us.length*k
     ·rw[if_pos ⟨by omega,g2⟩,Jd,Jc (by simp;omega),L1 (by simp;omega)]
      congr 1;simp;omega
     ·rw[if_neg (by omega),Jd,Jc (by simp;omega),Jc (by simp;omega),L6]
      congr 1;simp;omega
   have ej:∀b' o fl s p,G.lb b' o=VU (fl,s,p)→(fl,s,p)≠(VW,s0,[])→ ¬(b'=b∧oa≤o∧o<oa+us.length*k):=by
    rintro b' o fl s p g1 g2 ⟨rfl,g3,g4⟩
    rw[h7 o g3 (by omega)]at g1;simp at g1;exact g2 (by simp[←g1.1,←g1.2.1,←g1.2.2])
   have eE:∀b' o,¬(b'=b∧oa≤o∧o<oa+us.length*k)→yX w' b' o=yX w b' o:=by
    intro b' o g
    by_cases ff:b'=b
    ·subst ff
     rw[ew,if_neg (fun g2=>g ⟨rfl,g2⟩)]
    ·simp[yX,World.cell?,gB b' ff]
   have cZ:((cs.toList.take (oa)++nv++cs.toList.drop (oa+nv.length)).toArray).size=cs.size:=by simp;omega
   have mb:∀(b':Nat) ms c,w.heap[b']? =VU (.map ms c)→w'.heap[b']? =VU (.map ms c):=fun b' ms c g=>by
    by_cases e:b'=b
    ·subst e
     rw[h2]at g;cases g
    ·rw[gB b' e];exact g
   have ee:Blk w w':=by
    intro b' cs' e' g1
    by_cases ff:b'=b
    ·subst ff
     rw[h2]at g1;simp at g1;obtain⟨rfl,rfl⟩:=g1;exact⟨_,eb,cZ⟩
    ·exact⟨cs',by rw[gB b' ff];exact g1,rfl⟩
   generalize gp:G.ip d s0 y b xs.length k oa us f2 (.slice (VU ⟨b,o0,VV⟩) (xs.length+us.length) cap)=G'
   have ghdr:G'.hd d []=.slice (VU ⟨b,o0,VV⟩) (xs.length+us.length) cap:=by rw[←gp];simp[Gh.ip]
   have ghd1:∀i z,i<xs.length→G'.hd d (z++[i])=G.hd s0 (z++[i]):=fun i z g=>by rw[←gp];simp[Gh.ip,g]
   have ghd2:∀j z,G'.hd d (z++[xs.length+j])=f2 j z:=fun j z=>by rw[←gp];simp[Gh.ip,show¬xs.length+j<xs.length from by omega]
   have ghd0:∀s z,s≠d→G'.hd s z=G.hd s z:=fun s z g=>by rw[←gp];simp[Gh.ip,g]
   have gad0:∀s z,s≠d→G'.ad s z=G.ad s z:=fun s z g=>by rw[←gp];simp[Gh.ip,g]
   have gad1:∀i z,i<xs.length→G'.ad d (z++[i])=G.ad s0 (z++[i]):=fun i z g=>by rw[←gp];simp[Gh.ip,g]
   have gad2:∀j f,(T.agg us).inT (j::f)=VW→G'.ad d (f.reverse++[xs.length+j])=⟨b,oa+(T.agg us).offT (j::f),VV⟩:=fun j f g=>by rw[←gp];simp[Gh.ip,g,show¬xs.length+j<xs.length from by omega]
   have gad3:∀y' j z,y=VU y'→(T.agg us).inT (j::z.reverse)=VX→G'.ad d (z++[xs.length+j])=G.ad y' (z++[j]):=fun y' j z g1 g2=>by rw[←gp];simp[Gh.ip,g1,g2,show¬xs.length+j<xs.length from by omega]
   have glb2:∀i p,i<us.length*k→zC7 us [] xs.length i=VU p→G'.lb b (oa+i)=VU (VX,d,p):=fun i p g1 g2=>by rw[←gp];simp only[Gh.ip];rw[if_pos (by simp;omega),show oa+i-oa=i from by omega,g2]
   have glb0:∀b' o fl s p,G.lb b' o=VU (fl,s,p)→ ¬(b'=b∧oa≤o∧o<oa+us.length*k)→zDK s0 y xs.length s p=VV→G'.lb b' o=VU (fl,s,p):=fun b' o fl s p g1 g2 g3=>by rw[←gp];simp only[Gh.ip];rw[if_neg g2,g1];simp[g3]
   have glb1:∀b' o fl s p p',G.lb b' o=VU (fl,s,p)→ ¬(b'=b∧oa≤o∧o<oa+us.length*k)→zDK s0 y xs.length s p=VU p'→G'.lb b' o=VU (fl,d,p'):=fun b' o fl s p p' g1 g2 g3=>by rw[←gp];simp only[Gh.ip];rw[if_neg g2,g1];simp[g3]
   have gow0:∀b' s p,G.ow b'=VU (s,p)→zDK s0 y xs.length s p=VV→G'.ow b'=VU (s,p):=fun b' s p g1 g2=>by rw[←gp];simp[Gh.ip,g1,g2]
   have gow1:∀b' s p p',G.ow b'=VU (s,p)→zDK s0 y xs.length s p=VU p'→G'.ow b'=VU (d,p'):=fun b' s p p' g1 g2=>by rw[←gp];simp[Gh.ip,g1,g2]
   have fa:∀p,zDK s0 y xs.length s0 p=VU p:=fun p=>by simp[zDK]
   have pY:∀y' z j,y=VU y'→y'≠s0→zDK s0 y xs.length y' (z++[j])=VU (z++[xs.length+j]):=fun y' z j g1 g2=>by simp[zDK,g1,g2]
   have gk:∀s p,Off (zBn d s0 y) s p→s≠d:=fun s p h e=>absurd (h 0 (by simp[zBn,e])) (by simp)
   have gy:zAF (zBn d s0 y) G w G' w':=by
    refine⟨fun s p h=>ghd0 s p (gk s p h),fun s p h=>gad0 s p (gk s p h),fun b' o fl s p _ g1 g2=>?_,fun b' s p g1 g2=>gow0 b' s p g1 (cW s p g2),ee,fun b' _ _ ms c _ _ g=>mb b' ms c g⟩;have hs:s≠s0:=fun e=>g2 1 (by simp[zBn,e])
    have g3:=ej b' o fl s p g1 (by simp[hs]);exact⟨glb0 b' o fl s p g1 g3 (cW s p g2),eE b' o g3⟩
   have bP:=hm.ow b _ h6;have gE:Mem Γ G' w':=by
    refine⟨fun s z=>?_,fun b' o' l hl=>?_,fun b' l hl=>?_,fun b' x' gZ=>?_,fun b' g1 g2=>?_,by rw[gL];exact hm.sz,hm.bk.trans ee (by rw[←hw'];rfl) (by rw[←hw'];rfl)⟩
    ·by_cases g:s=d
     ·subst g
      rcases zHv z with rfl|⟨z',i,rfl⟩
      ·rw[ghdr];rfl
      ·by_cases g1:i<xs.length
       ·rw[ghd1 i z' g1];exact hm.one _ _
       ·have:=ghd2 (i-xs.length) z'
        rw[show xs.length+(i-xs.length)=i from by omega]at this;rw[this];exact hn.one _ _
     ·rw[ghd0 s z g];exact hm.one _ _
    ·have:zC4 Γ w b':=by
      rw[←gp]at hl;simp only[Gh.ip]at hl;split at hl
      ·rename_i g;rw[g.1];exact bP
      ·split at hl
       ·rename_i g;exact hm.lb _ _ _ g
       ·cases hl
     exact⟨by rw[gL];exact this.1,this.2⟩
    ·have:zC4 Γ w b':=by
      rw[←gp]at hl;simp only[Gh.ip]at hl;split at hl
      ·rename_i g;exact hm.ow _ _ g
      ·cases hl
     exact⟨by rw[gL];exact this.1,this.2⟩
    ·have ff:b'≠b:=by rintro rfl;rw[bP.2.2]at gZ;cases gZ
     rw[gB b' ff];exact hm.st b' x' gZ
    ·have ff:b'≠b:=by
      rintro rfl
      rcases bP.2.1 with g3|g3
      ·omega
      ·exact g2 g3
     rw[gB b' ff];exact hm.fr b' g1 g2
   have bg:uN G' w' d us [] xs.length b (oa):=by
    refine zFU us [] xs.length b (oa) hn.tup (fun i x gZ f hf=>?_) (fun i p' g1 g2=>glb2 i p' (by omega) g2) (fun i v hv=>?_)
    ·have:=gad2 i f (by simp only[T.inT,gZ];exact hf)
     simpa[T.offT,gZ]using this
    ·have g1:=hn.vals G' ghd2 i v hv
     have g2:=(J9.1 g1).1;rw[ew,if_pos ⟨by omega,by omega⟩,show oa+i-oa=i from by omega];exact g1
   have dE:R Γ.St G' w' d (.sl k (xs++us)) []:=by
    simp only[R];rw[ghdr];refine .inr ⟨b,o0,cap,_,et,by simp,eb,by simp;omega,h4,by rw[cZ];exact h5,gow1 b s0 [] [] h6 (fa []),?_,zII _ _ _ _ _ (fun i x gZ=>?_)⟩
    ·intro o g1 g2
     rw[Ji,Hj]at g1;exact glb1 b o VW s0 [] [] (h7 o (by omega) g2) (by omega) (fa [])
    ·rw[K8]at gZ
     simp only[J6];split at gZ
     ·rename_i gI
      obtain⟨g1,g2,g3⟩:=zAf xs [] 0 b o0 k i x h8 gZ;simp only[J6]at g1 g3;have bL:∀b' o fl z,G.lb b' o=VU (fl,s0,z++[i])→G'.lb b' o=VU (fl,d,z++[i])∧yX w' b' o=yX w b' o:=fun b' o fl z g=>by have g4:=ej b' o fl s0 _ g (by simp);exact⟨glb1 b' o fl s0 _ _ g g4 (fa _),eE b' o g4⟩
      refine⟨zGv x [i] [i] b _ (fun z=>ghd1 i z gI) (fun z=>gad1 i z gI) (fun b' o z g=>bL b' o VX z g) g1,g2,?_⟩;refine zAU (G:=G) (w:=w) (s:=s0) (p:=[i]) ⟨⟨fun z=>ghd1 i z gI,fun z _=>gad1 i z gI,fun b' o f z _ _ g=>bL b' o f z g,fun b' z _ g=>gow1 b' s0 _ _ g (fa _),ee,fun b' _ ms c _ g=>mb b' ms c g⟩,fun b' o _ g=>?_,fun b' g=>gow1 b' s0 _ _ g (fa _)⟩ x (xE.mono (fun _ _=>False.elim) x (tI xs e3 i x gZ)) g3;have:=bL b' o VW [] (by simpa using g);simpa using this
     ·rename_i hge
      obtain⟨j,rfl⟩:∃j,i=xs.length+j:=⟨i-xs.length,by omega⟩;rw[show xs.length+j-xs.length=j from by omega]at gZ;have g1:=zC5 us [] xs.length b (oa) j x bg gZ;rw[show T.sizes (us.take j)=j*k from by rw[vM _ (fun u hu=>hn.size u (List.mem_of_mem_take hu)),Kj,Hb (by have:=(J9.1 gZ).1;omega)],show oa+j*k=o0+(xs.length+j)*k from by rw[Hj];omega]at g1
      refine⟨g1,hn.size x (Ky gZ),?_⟩;cases hy:y with
      |none=>exact hn.none hy j x gZ G' w' (fun z=>ghd2 j z)
      |some y'=>
       obtain⟨y1,y2,y3,y4⟩:=hn.slot y' hy;obtain⟨_,y5,_⟩:=gc.ent y' _ y3;simp only[R]at y5;rcases y5 with⟨rfl,_⟩|⟨b2,o2,cap2,cs2,et2,_,_,_,_,_,_,_,y6⟩
       ·simp at gZ
       ·obtain⟨_,_,y7⟩:=zAf us [] 0 b2 o2 k j x y6 gZ
        simp only[J6]at y7;refine zJz x [j] [xs.length+j] (zCX.okTups_get us hn.tup j x gZ) ⟨fun z=>by rw[ghd2,y4],fun z g=>gad3 y' j z hy (by simp only[T.inT,gZ];exact g),fun b' o fl z _ g=>?_,fun b' z g=>gow1 b' y' _ _ g (pY y' z j hy y2),ee,fun b' _ ms c _ g=>mb b' ms c g⟩ (xE.mono (fun _ _=>False.elim) x (tI us hn.clean j x gZ)) y7;have g4:=ej b' o fl y' _ g (by simp[y2]);exact⟨glb1 b' o fl y' _ _ g g4 (pY y' z j hy y2),eE b' o g4⟩
   have gJ:=run_storeCells_at P b (oa) et nv 0 cs w h2 (by omega) gA;simp only[Gx]at gJ;rw[hw']at gJ;have gw:=zEt (P:=P) (t:=t) (ty:=ty) (w':=w') ht hi hx (by omega) (base:=VU ⟨b,o0,VV⟩) gP (by simp only[hk,tL,hoa];exact gJ);refine⟨_,w',by rw[h1];exact gw,G',fin G' w' _ gy gE ghdr dE ghd0⟩
 ·
  have dB:∃a' c,G.hd s0 []=.slice a' xs.length c∧ ∀w2:World,w2.heap=w.heap→(Builtin.firstCells ti.size xs.length (.slice a' xs.length c)).run P w2=.ok (yD G s0 xs [] 0).toArray w2:=by
   rcases e2 with⟨rfl,a1,h1⟩|⟨b,o0,cap,cs,et,h1,h2,h3,h4,h5,h6,h7,h8⟩
   ·exact⟨a1,0,h1,fun w2 _=>by cases a1<;>simp[Builtin.firstCells,loadCells,loadCellsFrom,yD]⟩
   ·refine⟨_,_,h1,fun w2 bT=>?_⟩
    have hl:=zBj xs [] 0 b o0 h8;refine run_firstCells_some (P:=P) w2 ti.size xs.length ⟨b,o0,VV⟩ _ _ _ ?_ (fun j v hv=>?_)
    ·rw[wY,hk]
     exact vM xs (zBE xs [] 0 b o0 h8).2
    ·have:=zB9 xs [] 0 b o0 hl j v hv
     rw[tL];simp only[yX]at this;simpa[World.cell?,bT]using this
  obtain⟨a',c,hh,gB⟩:=dB;have eH:yN xs=VW∧(∀x∈xs,x.size=k)∧ ∀i x,xs[i]? =VU x→R Γ.St G w s0 x [i]:=by
   rcases e2 with⟨rfl,a1,h1⟩|⟨b,o0,cap,cs,et,h1,h2,h3,h4,h5,h6,h7,h8⟩
   ·simp[yN]
   ·refine⟨zA4 (St:=Γ.St) (k:=k) xs [] 0 b o0 (zBj xs [] 0 b o0 h8),(zBE xs [] 0 b o0 h8).2,fun i x gZ=>?_⟩
    have:=(zAf xs [] 0 b o0 k i x h8 gZ).2.2;simpa using this
  have gT:c<xs.length+us.length:=by
   rcases Jt c (xs.length+us.length)with g|g
   ·exact g
   ·exact absurd ⟨a',c,hh,g⟩ gP
  have gw:=zIJ (P:=P) (t:=t) (ty:=ty) ht hi hz hx gT ca hb gB;have hge:=grownCap_ge w (xs.length+us.length) c e;have hcm:=grownCap_le_maxLen w (xs.length+us.length) c e (by simp only[maxLen];omega)
  generalize grownCap w (xs.length+us.length) c e=cap' at gw hge hcm
  generalize hw':w.drew.alloc (.cells ((yD G s0 xs [] 0++nv).toArray++Builtin.zeroCells z.cells (cap'-(xs.length+us.length))) e)=w' at gw
  have hwh:w'.heap=w.heap.push (.cells ((yD G s0 xs [] 0++nv).toArray++Builtin.zeroCells z.cells (cap'-(xs.length+us.length))) e):=by rw[←hw'];rfl
  have pR:T.sizes xs=xs.length*k:=vM xs eH.2.1;obtain⟨g1,g2,g3,g4,g5⟩:=zCX hm hwh d (xs++us) (fun i=>if i<xs.length then VU (s0,[i])else y.map fun y'=>(y',[i-xs.length])) (zDK s0 y xs.length) (fun i z=>if i<xs.length then G.hd s0 (z++[i])else f2 (i-xs.length) z) (.slice (VU ⟨w.heap.size,0,VV⟩) (xs.length+us.length) cap') ((zBn d s0 y).tail)
   (zDz xs us eH.1 hn.tup) (fun i z=>by split;exact hm.one _ _;exact hn.one _ _) rfl
   (fun i u x q z' hu hs=>by
    split at hs
    ·simp at hs;obtain⟨rfl,rfl⟩:=hs;simp[zDK]
    ·rename_i fe
     cases y with
     |none=>simp at hs
     |some y'=>
      simp at hs;obtain⟨rfl,rfl⟩:=hs;have:=(hn.slot y' rfl).2.1;simp[zDK,this,show xs.length+(i-xs.length)=i from by omega])
   (fun i u x q hu hs=>by
    rw[K8]at hu;split at hs
    ·rename_i gI
     rw[if_pos gI]at hu;simp at hs;obtain⟨rfl,rfl⟩:=hs;exact⟨fun z'=>by simp[gI],eH.2.2 i u hu,tI xs e3 i u hu,eJ⟩
    ·rename_i fe
     rw[if_neg fe]at hu;cases hy:y with
     |none=>rw[hy]at hs;simp at hs
     |some y'=>
      rw[hy]at hs;simp at hs;obtain⟨rfl,rfl⟩:=hs;obtain⟨y1,y2,y3,y4⟩:=hn.slot y' hy;obtain⟨_,y5,_⟩:=gc.ent y' _ y3;simp only[R]at y5;refine⟨fun z'=>by simp[fe,y4],?_,tI us hn.clean _ u hu,y1⟩;rcases y5 with⟨rfl,_⟩|⟨b2,o2,cap2,cs2,et2,_,_,_,_,_,_,_,y6⟩
      ·simp at hu
      ·have:=(zAf us [] 0 b2 o2 k _ u y6 hu).2.2
       simpa using this)
   (fun i u hu hs G2 w2 er=>by
    rw[K8]at hu;split at hs
    ·cases hs
    ·rename_i fe
     rw[if_neg fe]at hu;cases hy:y with
     |some y'=>rw[hy]at hs;simp at hs
     |none=>
      have:=hn.none hy (i-xs.length) u hu G2 w2 (fun z'=>by rw[show xs.length+(i-xs.length)=i from by omega,er,if_neg fe])
      rwa [show xs.length+(i-xs.length)=i from by omega]at this)
   (fun G2 er o v hv=>by
    rw[zEr,J6]at hv;have h1:yD G2 d xs [] 0=yD G s0 xs [] 0:=zJ6 xs [] 0 (fun i ek z'=>by rw[J6,er,if_pos ek]);rw[h1]at hv;have bL:(yD G s0 xs [] 0).length=xs.length*k:=by rw[wY,pR]
    have Vv:(yD G2 d us [] xs.length).length=us.length*k:=by rw[wY,mG]
    have ho:o<xs.length*k+us.length*k:=by have:=(J9.1 hv).1;rw[Ji]at this;omega
    have cb:=hn.len;rw[Array.getElem?_append_left (by simp;omega),List.getElem?_toArray];rw[K8]at hv ⊢
    split at hv
    ·rename_i gI;rw[if_pos gI];exact hv
    ·rename_i fe;rw[if_neg fe]
     exact hn.vals G2 (fun j z'=>by rw[er,if_neg (by omega),show xs.length+j-xs.length=j from by omega]) _ v hv)
   (fun s p h=>cW s p (by simpa[zBn]using h)) (ho:=by rw[←hw'];rfl) (hq:=by rw[←hw'];rfl)
  refine⟨_,w',by rw[hh];exact gw,_,fin _ w' _ (by simpa[zBn]using g1) g2 (by simp[Gh.nb]) ?_ (fun s p h=>by simp[Gh.nb,h])⟩;simp only[R];refine .inr ⟨w.heap.size,0,cap',_,e,by simp[Gh.nb],g5,by simpa using hge,hcm,?_,by simp[Gh.nb],?_,zO2 _ _ _ _ _ (fun x gZ=>?_) g3 g4⟩
  ·have bL:(yD G s0 xs [] 0).length=xs.length*k:=by rw[wY,pR]
   have cb:=hn.len;simp only[Array.size_append,Q5,Ji,size_zeroCells,fm,bL,cb,←Hj];rw[J6];exact Le _ (by omega)
  ·intro o ho _
   rw[Ji,Hj]at ho;simp[Gh.nb,zDG (xs++us) [] 0 o (by rw[zEs];omega)]
  ·rcases Ka.1 gZ with h|h
   ·exact eH.2.1 x h
   ·exact hn.size x h
end
end Go.Ab

namespace Go.Ab
open Go
mutual
def T.flat:T→Bool
 |.lit _|.ro _=>VW
 |.agg xs=>zAP xs
 |.any|.same _ _|.addr _ _|.sub _ _ _ _ _|.sl _ _|.ptr _|.mp _ _|.tup _=>VX
def zAP:List T→Bool
 | []=>VW
 |x::xs=>x.flat&&zAP xs
end
section
variable {St:Stb}{G G2:Gh}{w w2:World}{s d:Nat}
mutual
theorem zIK:(t:T)→ ∀(p p':List Nat),t.flat=VW→(∀z,G2.hd d (z++p')=G.hd s (z++p))→R St G w s t p→R St G2 w2 d t p'
 |.lit _,p,p',_,h,hr=>by have:=h [];simp only[K9]at this;simp only[R]at hr ⊢;rw[this];exact hr
 |.ro _,p,p',_,h,hr=>by have:=h [];simp only[K9]at this;simp only[R]at hr ⊢;rw[this];exact hr
 |.agg xs,p,p',hf,h,hr=>by simp only[R,T.flat]at hr hf ⊢;exact zMi xs p p' 0 hf h hr
 |.any,_,_,hf,_,_|.same _ _,_,_,hf,_,_|.addr _ _,_,_,hf,_,_|.sub _ _ _ _ _,_,_,hf,_,_|.sl _ _,_,_,hf,_,_|.ptr _,_,_,hf,_,_|.mp _ _,_,_,hf,_,_|.tup _,_,_,hf,_,_=>by simp[T.flat]at hf
theorem zMi:(xs:List T)→ ∀(p p':List Nat)(j:Nat),zAP xs=VW→(∀z,G2.hd d (z++p')=G.hd s (z++p))→RF St G w s xs p j→RF St G2 w2 d xs p' j
 | [],_,_,_,_,_,_=>by simp only[RF]
 |x::xs,p,p',j,hf,h,hr=>by
  simp only[RF,zAP,J1]at hr hf ⊢
  exact⟨zIK x (j::p) (j::p') hf.1 (fun z=>by have:=h (z++[j]);simpa using this) hr.1,zMi xs p p' (j+1) hf.2 h hr.2⟩
end
end
mutual
theorem zGy:(t:T)→t.flat=VW→zW t∧t.okTup=VW
 |.lit _,_|.ro _,_=>by simp[zW,xE,T.okTup]
 |.agg xs,h=>by simp only[T.flat]at h;simpa only[zW,xE,T.okTup]using zAA xs h
 |.any,h|.same _ _,h|.addr _ _,h|.sub _ _ _ _ _,h|.sl _ _,h|.ptr _,h|.mp _ _,h|.tup _,h=>by simp[T.flat]at h
theorem zAA:(xs:List T)→zAP xs=VW→xH xs∧yN xs=VW
 | [],_=>by simp[xH,xZ,yN]
 |x::xs,h=>by simp only[zAP,J1]at h;simp only[xH,xZ,yN,J1];exact⟨⟨(zGy x h.1).1,(zAA xs h.2).1⟩,(zGy x h.1).2,(zAA xs h.2).2⟩
end
theorem zHI:(xs:List T)→zAP xs=VW→ ∀(i:Nat)(x:T),xs[i]? =VU x→x.flat=VW
 | [],_,_,_,h=>by simp at h
 |y::ys,hk,i,x,h=>by
  simp only[zAP,J1]at hk;cases i with
  |zero=>simp at h;subst h;exact hk.1
  |succ i=>exact zHI ys hk.2 i x (by simpa using h)
mutual
def zFa:T→Bool
 |.lit _=>VW
 |.sl _ xs=>zBF xs
 |.agg xs=>zBF xs
 |.ptr t=>zFa t
 |.any|.ro _|.same _ _|.addr _ _|.sub _ _ _ _ _|.tup _|.mp _ _=>VX
def zBF:List T→Bool
 | []=>VW
 |x::xs=>zFa x&&zBF xs
end
theorem zJ7:(ys:List T)→zBF ys=VW→ ∀u∈ys,∀xs,u≠.tup xs
 | [],_,_,h,_=>by simp at h
 |y::ys,hr,u,h,xs=>by
  simp only[zBF,J1]at hr;rcases Jj.1 h with rfl|h
  ·rintro rfl;simp[zFa]at hr
  ·exact zJ7 ys hr.2 u h xs
theorem zF9:(ys:List T)→(roT.roTs ys).length=ys.length
 | []=>rfl
 |y::ys=>by simp[roT.roTs,zF9 ys]
theorem zGz{k:Nat}:(ys:List T)→(∀u∈ys,u.size=k)→(∀u∈ys,∀xs,u≠.tup xs)→ ∀u∈roT.roTs ys,u.size=k
 | [],_,_,u,h=>by simp[roT.roTs]at h
 |y::ys,h1,h2,u,h=>by
  simp only[roT.roTs,Jj]at h;rcases h with rfl|h
  ·rw[zEo y (h2 y (by simp))];exact h1 y (by simp)
  ·exact zGz ys (fun v hv=>h1 v (by simp[hv])) (fun v hv=>h2 v (by simp[hv])) u h
theorem zJ8:(ys:List T)→ ∀(j:Nat)(u:T),(roT.roTs ys)[j]? =VU u→ ∃u0,ys[j]? =VU u0∧u=roT u0
 | [],_,_,h=>by simp[roT.roTs]at h
 |y::ys,j,u,h=>by
  cases j with
  |zero=>simp[roT.roTs]at h;exact⟨y,by simp,h.symm⟩
  |succ j=>
   obtain⟨u0,h1,h2⟩:=zJ8 ys j u (by simpa[roT.roTs]using h);exact⟨u0,by simpa using h1,h2⟩
theorem zMj{St:Stb}{G2:Gh}{d:Nat}:(ys:List T)→ ∀(cs':Array Value)(o' k n:Nat),RoL St ys cs' o' k→(∀u∈ys,u.size=k)→(∀j u,ys[j]? =VU u→ ∀z',G2.hd d (z'++[n+j])=zAj (zDF u cs' (o'+j*k) z'.reverse))→
  ∀(i:Nat)(v:Value),(yD G2 d (roT.roTs ys) [] n)[i]? =VU v→cs'[o'+i]? =VU v
 | [],_,_,_,_,_,_,_,i,v,hv=>by simp[roT.roTs,yD]at hv
 |y::ys,cs',o',k,n,h,hs,hd,i,v,hv=>by
  simp only[RoL]at h;simp only[roT.roTs,yD]at hv;have gV:∀xs,y≠.tup xs:=by rintro xs rfl;simp only[RoC]at h;exact h.1
  have Vo:∀xs,roT y≠.tup xs:=fun xs e=>by cases y<;>simp[roT]at e
  have hl:(vals G2 d (roT y) [n]).length=k:=by rw[uA _ _ Vo,zEo y gV,hs y (by simp)]
  rw[K8]at hv;split at hv
  ·exact zGl y cs' o' [n] (fun z'=>by simpa using hd 0 y (by simp) z') h.1 i v hv
  ·have:=zMj ys cs' (o'+k) k (n+1) h.2 (fun u hu=>hs u (by simp[hu])) (fun j u hu z'=>by
    have:=hd (j+1) u (by simpa using hu) z'
    rwa [show n+(j+1)=n+1+j from by omega,show o'+(j+1)*k=o'+k+j*k from by rw[La];omega]at this) _ v hv
   rwa [hl,show o'+k+(i-k)=o'+i from by omega]at this
mutual
theorem zNv{G:Gh}(hg:∀s z,(G.hd s z).oneCell'=VW){s:Nat}:(t:T)→ ∀(p:List Nat)(v:Value),v∈vals G s t p→v.oneCell'=VW
 |.agg xs,p,v,h=>by simp only[vals]at h;exact zDL hg xs p 0 v h
 |.any,p,v,h|.lit _,p,v,h|.ro _,p,v,h|.same _ _,p,v,h|.addr _ _,p,v,h|.sub _ _ _ _ _,p,v,h|.sl _ _,p,v,h|.ptr _,p,v,h|.mp _ _,p,v,h|.tup _,p,v,h=>by simp only[vals,List.mem_singleton]at h;rw[h];exact hg s p
theorem zDL{G:Gh}(hg:∀s z,(G.hd s z).oneCell'=VW){s:Nat}:(xs:List T)→ ∀(p:List Nat)(j:Nat)(v:Value),v∈yD G s xs p j→v.oneCell'=VW
 | [],_,_,_,h=>by simp[yD]at h
 |x::xs,p,j,v,h=>by
  simp only[yD,Ka]at h;rcases h with h|h
  ·exact zNv hg x _ v h
  ·exact zDL hg xs p _ v h
end
theorem zCB{G G2:Gh}{s d:Nat}:(us:List T)→ ∀(n j:Nat),(∀i z,G2.hd d (z++[n+i])=G.hd s (z++[j+i]))→yD G2 d us [] n=yD G s us [] j
 | [],_,_,_=>by simp only[yD]
 |x::xs,n,j,h=>by
  have ih:yD G2 d xs [] (n+1)=yD G s xs [] (j+1):=zCB xs (n+1) (j+1) (fun i z=>by rw[show n+1+i=n+(i+1)from by omega,show j+1+i=j+(i+1)from by omega];exact h (i+1) z)
  simp only[yD];rw[ih,zBt x [j] [n] (by simpa using h 0)]
theorem zEu{G G2:Gh}{s d:Nat}:(us:List T)→ ∀(n j:Nat)(q:List Nat),(∀i z,G2.hd d (z++[n+i])=G.hd s (z++((j+i)::q)))→yD G2 d us [] n=yD G s us q j
 | [],_,_,_,_=>by simp only[yD]
 |x::xs,n,j,q,h=>by
  have ih:yD G2 d xs [] (n+1)=yD G s xs q (j+1):=zEu xs (n+1) (j+1) q (fun i z=>by rw[show n+1+i=n+(i+1)from by omega,show j+1+i=j+(i+1)from by omega];exact h (i+1) z)
  simp only[yD];rw[ih,zBt x (j::q) [n] (by simpa using h 0)]
section
variable {P:Program}{Γ:Ctx}{E:Env}{o:Oper}{d:Nat}
theorem zMk{St:Stb}{G:Gh}{w:World}{r:Nat}{q:List Nat}{k:Nat}{us:List T}(h:R St G w r (.sl k us) q){size:Nat}(hk:size=k):
  ∃xa c,G.hd r q=.slice xa us.length c∧ ∀w2:World,w2.heap=w.heap→(Builtin.firstCells size us.length (.slice xa us.length c)).run P w2=.ok (yD G r us q 0).toArray w2:=by
 simp only[R]at h;rcases h with⟨rfl,a1,h1⟩|⟨b,o0,cap,cs,et,h1,h2,h3,h4,h5,h6,h7,h8⟩
 ·exact⟨a1,0,h1,fun w2 _=>by cases a1<;>simp[Builtin.firstCells,loadCells,loadCellsFrom,yD]⟩
 ·refine⟨_,_,h1,fun w2 bT=>?_⟩
  have hl:=zBj us q 0 b o0 h8;refine run_firstCells_some (P:=P) w2 size us.length ⟨b,o0,VV⟩ _ _ _ ?_ (fun j v hv=>?_)
  ·rw[wY,hk]
   exact vM us (zBE us q 0 b o0 h8).2
  ·have:=zB9 us q 0 b o0 hl j v hv
   rw[tL];simp only[yX]at this;simpa[World.cell?,bT]using this
theorem zBG{G:Gh}{a:Act}{w:World}(gc:Rep Γ E G a.tmps w){s:Nat}{t:T}(h:E s=VU t)(ht:t.single=VW):a.eval (.tmp s)=G.hd s []:=by rw[wL (gc.ent s t h).1,xY ht]
theorem zIL(t e:TypeId)(ti:TypeInfo)(z:Value)(k s0 y:Nat)(xs us:List T)(ho:o.op=.call { callee:=.builtin .append,args:=#[.tmp s0,.tmp y],argTypes:=#[t,t] })(gg:o.dst=VU d)(hd:d<Γ.N)
  (ht:P.underlying t=VU (.slice e))(hi:P.info? e=VU ti)(hz:ti.zero=VU z)(hk:ti.size=k)(eO:0<k)(fm:z.cells.size=k)(hb:ti.bytes≤2048)
  (ef:E s0=VU (.sl k xs))(hy:E y=VU (.sl k us))(eJ:s0≠d)(hyd:y≠d)(dH:y≠s0)(ca:xs.length+us.length≤68719476736):
  wP P Γ o E (E.app (aWr d s0 (VU y) k (xs++us)) (zBn d s0 (VU y))):=by
 refine wP.value gg fun a w G gc=>?_
 obtain⟨_,y2,y3⟩:=gc.ent y _ hy;simp only[Top]at y3;obtain⟨xa,c,h1,h2⟩:=zMk (P:=P) y2 hk;have fj:yN us=VW∧ ∀u∈us,u.size=k:=by
  simp only[R]at y2;rcases y2 with⟨rfl,_⟩|⟨b,o0,cap,cs,et,_,_,_,_,_,_,_,h8⟩
  ·simp[yN]
  ·exact⟨zA4 (St:=Γ.St) (k:=k) us [] 0 b o0 (zBj us [] 0 b o0 h8),(zBE us [] 0 b o0 h8).2⟩
 have hn:zGx Γ E G d s0 (VU y) k xs.length us (fun j z'=>G.hd y (z'++[j])) (yD G y us [] 0):=
  ⟨fj.2,fj.1,y3,fun j z'=>gc.mem.one _ _,by rw[wY];exact vM us fj.2,fun y' hy'=>by simp at hy';subst hy';exact⟨hyd,dH,hy,fun _ _=>rfl⟩,fun h=>by simp at h,
   fun G2 er o v hv=>by rw[←zCB us xs.length 0 (fun i z'=>by rw[er,J6])];exact hv⟩
 obtain⟨v,w',gw,G',gp⟩:=zBZ (P:=P) (ty:=o.type) gc hd ht hi hz hk eO fm hb ef eJ hn (xv:=a.eval (.tmp y)) ⟨.inl ⟨e,xa,c,ht,by rw[zBG gc hy rfl,h1],h2⟩⟩ (fun v hv=>zCZ gc.mem us [] 0 v hv) ca;refine⟨v,w',?_,G',gp⟩;rw[←zBG gc ef rfl]at gw;simp[execOp,ho,resolve,invoke,builtin,gw]
theorem zIM(t e:TypeId)(ti:TypeInfo)(z:Value)(k s0:Nat)(y:Operand)(r:Nat)(q:List Nat)(xs us:List T)(ho:o.op=.call { callee:=.builtin .append,args:=#[.tmp s0,y],argTypes:=#[t,t] })(gg:o.dst=VU d)(hd:d<Γ.N)
  (ht:P.underlying t=VU (.slice e))(hi:P.info? e=VU ti)(hz:ti.zero=VU z)(hk:ti.size=k)(eO:0<k)(fm:z.cells.size=k)(hb:ti.bytes≤2048)
  (ef:E s0=VU (.sl k xs))(hy:sD E y=VU (r,q,.sl k us))(hf:zAP us=VW)(eJ:s0≠d)(ca:xs.length+us.length≤68719476736):
  wP P Γ o E (E.app (aWr d s0 VV k (xs++us)) (zBn d s0 VV)):=by
 refine wP.value gg fun a w G gc=>?_
 obtain⟨y2,y1⟩:=kK gc hy rfl;obtain⟨xa,c,h1,h2⟩:=zMk (P:=P) y2 hk;have fj:(∀u∈us,u.size=k)∧ ∀j u,us[j]? =VU u→R Γ.St G w r u (j::q):=by
  simp only[R]at y2;rcases y2 with⟨rfl,_⟩|⟨b,o0,cap,cs,et,_,_,_,_,_,_,_,h8⟩
  ·simp
  ·refine⟨(zBE us q 0 b o0 h8).2,fun j u hu=>?_⟩
   have:=(zAf us q 0 b o0 k j u h8 hu).2.2;simpa using this
 have gK:=zAA us hf;have hn:zGx Γ E G d s0 VV k xs.length us (fun j z'=>G.hd r (z'++(j::q))) (yD G r us q 0):=
  ⟨fj.1,gK.2,gK.1,fun j z'=>gc.mem.one _ _,by rw[wY];exact vM us fj.1,fun y' hy'=>by simp at hy',
   fun _ j u hu G2 w2 er=>zIK u (j::q) [xs.length+j] (zHI us hf j u hu) (fun z'=>er z') (fj.2 j u hu),
   fun G2 er o v hv=>by rw[←zEu us xs.length 0 q (fun i z'=>by rw[er,J6])];exact hv⟩
 obtain⟨v,w',gw,G',gp⟩:=zBZ (P:=P) (ty:=o.type) gc hd ht hi hz hk eO fm hb ef eJ hn (xv:=a.eval y) ⟨.inl ⟨e,xa,c,ht,by rw[y1,h1],h2⟩⟩ (fun v hv=>zCZ gc.mem us q 0 v hv) ca;refine⟨v,w',?_,G',gp⟩;rw[←zBG gc ef rfl]at gw;simp[execOp,ho,resolve,invoke,builtin,gw]
mutual
theorem zO7:(u:T)→zFa u=VW→(roT u).flat=VW
 |.agg xs,h=>by simp only[zFa]at h;simp only[roT,T.flat];exact zFb xs h
 |.lit _,_|.sl _ _,_|.ptr _,_|.mp _ _,_=>by simp[roT,T.flat]
 |.any,h|.ro _,h|.same _ _,h|.addr _ _,h|.sub _ _ _ _ _,h|.tup _,h=>by simp[zFa]at h
theorem zFb:(xs:List T)→zBF xs=VW→zAP (roT.roTs xs)=VW
 | [],_=>by simp[roT.roTs,zAP]
 |x::xs,h=>by simp only[zBF,J1]at h;simp only[roT.roTs,zAP,J1];exact⟨zO7 x h.1,zFb xs h.2⟩
end
theorem zIN(t e:TypeId)(ti:TypeInfo)(z:Value)(k s0:Nat)(y:Operand)(r:Nat)(q:List Nat)(xs ys:List T)(ho:o.op=.call { callee:=.builtin .append,args:=#[.tmp s0,y],argTypes:=#[t,t] })(gg:o.dst=VU d)(hd:d<Γ.N)
  (ht:P.underlying t=VU (.slice e))(hi:P.info? e=VU ti)(hz:ti.zero=VU z)(hk:ti.size=k)(eO:0<k)(fm:z.cells.size=k)(hb:ti.bytes≤2048)
  (ef:E s0=VU (.sl k xs))(hy:sD E y=VU (r,q,.ro (.sl k ys)))(hro:zBF ys=VW)(dH:∀u∈ys,u.size=k)(eJ:s0≠d)(ca:xs.length+ys.length≤68719476736):
  wP P Γ o E (E.app (aWr d s0 VV k (xs++roT.roTs ys)) (zBn d s0 VV)):=by
 refine wP.value gg fun a w G gc=>?_
 obtain⟨y2,y1⟩:=kK gc hy rfl;obtain⟨xa,c,h1,h2,h3,h4⟩:=zCV y2;have hf:=zFb ys hro;have gK:=zAA _ hf;have gm:(roT.roTs ys).length=ys.length:=zF9 ys;have gv:∀u∈roT.roTs ys,u.size=k:=zGz ys dH (fun u hu=>zJ7 ys hro u hu);obtain⟨cs',o',h5,h6⟩:∃(cs':Array Value)(o':Nat),RoL Γ.St ys cs' o' k∧(ys≠[]→ ∃b et fr,xa=VU ⟨b,o',VV⟩∧Γ.St b=VU (.cells cs' et fr)):=by
  by_cases gk:ys=[]
  ·subst gk;exact⟨#[],0,by simp[RoL],fun h=>absurd rfl h⟩
  ·obtain⟨b,o',cs',et,fr,h5,h6,h7⟩:=h4 gk
   exact⟨cs',o',h7,fun _=>⟨b,et,fr,h5,h6⟩⟩
 let f2:Nat→List Nat→Value:=fun j z'=>match ys[j]? with
  |some u=>zAj (zDF u cs' (o'+j*k) z'.reverse)
  |none=>.bool VX
 have hf2:∀j u,ys[j]? =VU u→ ∀z',f2 j z'=zAj (zDF u cs' (o'+j*k) z'.reverse):=fun j u hu z'=>by simp[f2,hu]
 let G0:Gh:={ G with hd:=fun s z'=>if s=d then(match z'.getLast? with
  |some j=>f2 j z'.dropLast
  |none=>.bool VX)else G.hd s z' }
 have hG0:∀j z',G0.hd d (z'++[j])=f2 j z':=fun j z'=>by simp[G0]
 have cd:∀(G2:Gh)(n:Nat),(∀j z',G2.hd d (z'++[n+j])=f2 j z')→ ∀(i:Nat)(v:Value),(yD G2 d (roT.roTs ys) [] n)[i]? =VU v→cs'[o'+i]? =VU v:=by intro G2 n er i v hv;exact zMj ys cs' o' k n h5 dH (fun j u hu z'=>by rw[er,hf2 j u hu]) i v hv
 have dq:∀w2:World,w2.heap=w.heap→(Builtin.firstCells ti.size ys.length (.slice xa ys.length c)).run P w2=.ok (yD G0 d (roT.roTs ys) [] 0).toArray w2:=by
  intro w2 bT
  by_cases gk:ys=[]
  ·subst gk
   cases xa<;>simp[Builtin.firstCells,loadCells,loadCellsFrom,roT.roTs,yD]
  ·obtain⟨b,et,fr,rfl,h7⟩:=h6 gk
   refine run_firstCells_some (P:=P) w2 ti.size ys.length ⟨b,o',VV⟩ _ _ _ ?_ (fun j v hv=>?_)
   ·rw[wY,hk,vM _ gv,gm]
   ·have:=cd G0 0 (fun j z'=>by rw[J6];exact hG0 j z') j v hv
    rw[tL];have h8:=gc.mem.st b _ h7;simp[World.cell?,bT,h8,this]
 have pZ:∀j z',(f2 j z').oneCell'=VW:=fun j z'=>by
  dsimp only[f2];split
  ·exact zBA _
  ·rfl
 have hn:zGx Γ E G d s0 VV k xs.length (roT.roTs ys) f2 (yD G0 d (roT.roTs ys) [] 0):=by
  refine⟨gv,gK.2,gK.1,pZ,by rw[wY];exact vM _ gv,fun y' hy'=>by simp at hy',fun _ j u hu G2 w2 er=>?_,fun G2 er i v hv=>?_⟩
  ·obtain⟨u0,dK,rfl⟩:=zJ8 ys j u hu
   exact zOx u0 cs' (o'+j*k) [xs.length+j] (fun z'=>by rw[er z',hf2 j u0 dK]) (zFT ys cs' o' k j u0 h5 dK)
  ·rw[←zCB (roT.roTs ys) xs.length 0 (fun i z'=>by rw[er,J6];exact(hG0 i z').symm)]
   exact hv
 have dg:∀v∈yD G0 d (roT.roTs ys) [] 0,v.oneCell'=VW:=by
  intro v hv;refine zDL (fun s z'=>?_) _ [] 0 v hv;simp only[G0];split
  ·split
   ·exact pZ _ _
   ·rfl
  ·exact gc.mem.one _ _
 have bu:zGw P t e ti (a.eval y) (roT.roTs ys).length (yD G0 d (roT.roTs ys) [] 0) w:=⟨.inl ⟨e,xa,c,ht,by rw[y1,h1,gm],by rw[gm];exact dq⟩⟩;obtain⟨v,w',gw,G',gp⟩:=zBZ (P:=P) (ty:=o.type) gc hd ht hi hz hk eO fm hb ef eJ hn bu dg (by rw[gm];exact ca);refine⟨v,w',?_,G',gp⟩;rw[←zBG gc ef rfl]at gw;simp[execOp,ho,resolve,invoke,builtin,gw]
end
end Go.Ab

namespace Go.Ab
open Go
theorem zFA:(us:List T)→jN us=us.flatMap sG
 | []=>rfl
 |u::us=>by simp[jN,zFA us]
theorem zCC(u:T)(h:u.zOk=VW):∀m,zAW (J2 m u)=VW
 |0=>rfl
 |m+1=>by simp[Km,zAW,h,zCC u h m]
section
variable {P:Program}{Γ:Ctx}{E:Env}{o:Oper}{d:Nat}
theorem zG0(t t2 e:TypeId)(k2:IntKind)(ti:TypeInfo)(z:Value)(u:T)(k s0:Nat)(y:Operand)(kd:IntKind)(m:Nat)(xs:List T)(ho:o.op=.call { callee:=.builtin .append,args:=#[.tmp s0,y],argTypes:=#[t,t2] })(gg:o.dst=VU d)(hd:d<Γ.N)
  (ht:P.underlying t=VU (.slice e))(ak:P.underlying t2=VU (.int k2))(hi:P.info? e=VU ti)(hz:ti.zero=VU z)(hk:ti.size=k)(eO:0<k)(hb:ti.bytes≤2048)(hu:u.zOk=VW)(hv:sG u=z.cells.toList)(fj:u.size=k)
  (ef:E s0=VU (.sl k xs))(hy:opT E y=VU (.lit (.int kd m)))(eJ:s0≠d)(ca:xs.length+m≤68719476736):
  wP P Γ o E (E.app (aWr d s0 VV k (xs++J2 m u)) (zBn d s0 VV)):=by
 refine wP.value gg fun a w G gc=>?_
 have fm:z.cells.size=k:=by grind[uH]
 have hzo:=zCC u hu m;have gK:=zBY _ hzo
 let f2:Nat→List Nat→Value:=fun _ z'=>zAj (zhd u z'.reverse)
 have hnvl:((Builtin.zeroCells z.cells m).toList).length=m*k:=by grind[Builtin.zeroCells]
 have hn:zGx Γ E G d s0 VV k xs.length (J2 m u) f2 (Builtin.zeroCells z.cells m).toList:=by
  refine⟨by grind,gK.2,gK.1,fun _ _=>zBA _,by grind,by simp,fun _ j x hx G2 w2 er=>?_,fun G2 er i v hv'=>?_⟩
  ·grind[zIF]
  ·have h1:yD G2 d (J2 m u) [] xs.length=jN (J2 m u):=by grind[zDH]
   rw[h1,zFA]at hv';obtain⟨h2,h3⟩:=zIG sG u k (by grind) eO m i v hv'
   grind[Builtin.zeroCells]
 have gA:∀v∈(Builtin.zeroCells z.cells m).toList,v.oneCell'=VW:=by
  intro v hv';simp only[Builtin.zeroCells,Array.toList_map,Array.toList_range,Jb,L3]at hv';obtain⟨i,ek,rfl⟩:=hv'
  grind[Nat.mod_lt,zEY]
 have bu:zGw P t2 e ti (a.eval y) (J2 m u).length (Builtin.zeroCells z.cells m).toList w:=by
  refine⟨.inr ⟨k2,kd,z,ak,?_,hz,by simp,?_,by omega⟩⟩
  ·rw[(wI gc hy).1];simp
  ·simp only[Hl]
   exact Lh (Hv (show m≤68719476736 by omega) hb) (by decide)
 obtain⟨v,w',gw,G',gp⟩:=zBZ (P:=P) (ty:=o.type) gc hd ht hi hz hk eO fm hb ef eJ hn bu gA (by grind);refine⟨v,w',?_,G',gp⟩;rw[←zBG gc ef rfl]at gw;simp[execOp,ho,resolve,invoke,builtin,gw]
end
end Go.Ab

namespace Go.Ab
open Go
def zJ9(G:Gh)(nd:List (Nat×List Nat×T)):Value:=
 match nd with
 | [x]=>qH G x.1 x.2.2 x.2.1
 |nd=>.tuple (nd.map fun x=>qH G x.1 x.2.2 x.2.1).toArray
def FnC(P:Program)(f:FuncId)(us:List T)(res:List T)(rws:List (Nat×T)):Prop:=
 ∀(St:Stb)(W:Nat→Prop)(w:World)(G:Gh)(vs:Array Value),vs.size=us.length→
  (∀(i:Nat) u,us[i]? =VU u→vs[i]? =VU (mkV G i u [])∧R St G w i u [])→Mem ⟨St,W,w,0⟩ G w→
  Calls P f vs w fun e w'=> ∃(S':Stb)(G':Gh)(nd:List (Nat×List Nat×T)),zDC St S' W w.heap.size∧e=.returned (zJ9 G' nd)∧Mem ⟨S',W,w,0⟩ G' w'∧nd.map (·.2.2)=res∧
   (∀x∈nd,R S' G' w' x.1 x.2.2 x.2.1∧us.length≤x.1)∧(nd.map (·.1)).Nodup∧
   ∀i u',(i,u')∈rws→R S' G' w' i u' []∧ ∃u,us[i]? =VU u∧mkV G' i u' []=mkV G i u []
mutual
def uM:T→Bool
 |.ro _|.mp _ _=>VX
 |.sl _ xs|.agg xs|.tup xs=>tF xs
 |.ptr t=>uM t
 |.any|.lit _|.same _ _|.addr _ _|.sub _ _ _ _ _=>VW
def tF:List T→Bool
 | []=>VW
 |x::xs=>uM x&&tF xs
end
section
variable {St St':Stb}{G:Gh}{w:World}{s:Nat}
mutual
theorem zNw:(t:T)→ ∀(p:List Nat),uM t=VW→R St G w s t p→R St' G w s t p
 |.ro _,_,h,_|.mp _ _,_,h,_=>by simp[uM]at h
 |.sl k xs,p,h,hr=>by
  simp only[uM,R]at h hr ⊢
  rcases hr with hr|⟨b,o0,cap,cs,e,h1,h2,h3,h4,h5,h6,h7,h8⟩
  ·exact .inl hr
  ·exact .inr ⟨b,o0,cap,cs,e,h1,h2,h3,h4,h5,h6,h7,zTa xs p 0 b o0 k h h8⟩
 |.agg xs,p,h,hr|.tup xs,p,h,hr=>by simp only[uM,R]at h hr ⊢;exact zTb xs p 0 h hr
 |.ptr t,p,h,hr=>by
  simp only[uM,R]at h hr ⊢
  obtain⟨b,cs,e,h1,h2,h3,h6,h4,h5⟩:=hr;exact⟨b,cs,e,h1,h2,h3,h6,h4,zNw t _ h h5⟩
 |.any,_,_,hr|.lit _,_,_,hr|.same _ _,_,_,hr|.addr _ _,_,_,hr|.sub _ _ _ _ _,_,_,hr=>by first|(simp only[R];done)|simpa only[R]using hr
theorem zTa:(xs:List T)→ ∀(p:List Nat)(i b o k:Nat),tF xs=VW→RL St G w s xs p i b o k→RL St' G w s xs p i b o k
 | [],_,_,_,_,_,_,_=>by simp only[RL]
 |x::xs,p,i,b,o,k,h,hr=>by
  simp only[tF,J1,RL]at h hr ⊢
  exact⟨hr.1,zNw x _ h.1 hr.2.1,zTa xs p (i+1) b _ k h.2 hr.2.2⟩
theorem zTb:(xs:List T)→ ∀(p:List Nat)(i:Nat),tF xs=VW→RF St G w s xs p i→RF St' G w s xs p i
 | [],_,_,_,_=>by simp only[RF]
 |x::xs,p,i,h,hr=>by
  simp only[tF,J1,RF]at h hr ⊢
  exact⟨zNw x _ h.1 hr.1,zTb xs p (i+1) h.2 hr.2⟩
end
end
section
variable {St St':Stb} (h:∀b x,St b=VU x→St' b=VU x)
 include h
mutual
theorem qK:(t:T)→ ∀(cs:Array Value)(o:Nat),RoC St t cs o→RoC St' t cs o
 |.sl k xs,cs,o,hr=>by
  simp only[RoC]at hr ⊢
  obtain⟨a,c,h1,h2,h3,h4⟩:=hr;refine⟨a,c,h1,h2,h3,fun gk=>?_⟩;obtain⟨b,o',cs',e,fr,h5,h6,h7⟩:=h4 gk;exact⟨b,o',cs',e,fr,h5,h b _ h6,zJA xs cs' o' k h7⟩
 |.agg xs,cs,o,hr=>by simp only[RoC]at hr ⊢;exact zJB xs cs o hr
 |.ptr t,cs,o,hr=>by
  simp only[RoC]at hr ⊢
  obtain⟨b,o',cs',e,fr,h5,h6,h7⟩:=hr;exact⟨b,o',cs',e,fr,h5,h b _ h6,qK t cs' o' h7⟩
 |.ro u,cs,o,hr=>by
  simp only[RoC]at hr ⊢
  obtain⟨f,vs,h1,h2,h3⟩:=hr;exact⟨f,vs,h1,h2,qK u _ _ h3⟩
 |.any,_,_,hr|.lit _,_,_,hr|.same _ _,_,_,hr|.addr _ _,_,_,hr|.sub _ _ _ _ _,_,_,hr|.tup _,_,_,hr|.mp _ _,_,_,hr=>by first|(simp only[RoC]at hr;done)|simpa only[RoC]using hr
theorem zJA:(xs:List T)→ ∀(cs:Array Value)(o k:Nat),RoL St xs cs o k→RoL St' xs cs o k
 | [],_,_,_,_=>by have _:=h;simp only[RoL]
 |x::xs,cs,o,k,hr=>by simp only[RoL]at hr ⊢;exact⟨qK x cs o hr.1,zJA xs cs _ k hr.2⟩
theorem zJB:(xs:List T)→ ∀(cs:Array Value)(o:Nat),RoF St xs cs o→RoF St' xs cs o
 | [],_,_,_=>by have _:=h;simp only[RoF]
 |x::xs,cs,o,hr=>by simp only[RoF]at hr ⊢;exact⟨qK x cs o hr.1,zJB xs cs _ hr.2⟩
end
end
section
variable {St St':Stb}{G:Gh}{w:World}{s:Nat} (h:∀b x,St b=VU x→St' b=VU x)
 include h
theorem zJC:∀(ks:List Value)(xs:List T)(es:List MapEntry),RoM St ks xs es→RoM St' ks xs es
 | [],[],[],_=>by have _:=h;trivial
 |k::ks,x::xs,e::es,hr=>by simp only[RoM]at hr ⊢;exact⟨hr.1,qK h x _ _ hr.2.1,zJC ks xs es hr.2.2⟩
 | [],_::_,_,hr| [],[],_::_,hr|_::_,[],_,hr|_::_,_::_,[],hr=>by simp only[RoM]at hr
mutual
theorem zIO:(t:T)→ ∀(p:List Nat),R St G w s t p→R St' G w s t p
 |.ro t,_,hr=>by simp only[R]at hr ⊢;exact qK h t _ _ hr
 |.sl k xs,p,hr=>by
  simp only[R]at hr ⊢
  rcases hr with hr|⟨b,o0,cap,cs,e,h1,h2,h3,h4,h5,h6,h7,h8⟩
  ·exact .inl hr
  ·exact .inr ⟨b,o0,cap,cs,e,h1,h2,h3,h4,h5,h6,h7,zMl xs p 0 b o0 k h8⟩
 |.agg xs,p,hr|.tup xs,p,hr=>by simp only[R]at hr ⊢;exact zMm xs p 0 hr
 |.ptr t,p,hr=>by
  simp only[R]at hr ⊢
  obtain⟨b,cs,e,h1,h2,h3,h6,h4,h5⟩:=hr;exact⟨b,cs,e,h1,h2,h3,h6,h4,zIO t _ h5⟩
 |.mp ks xs,_,hr=>by
  simp only[R]at hr ⊢
  obtain⟨b,ms,c,h1,h2,h3,h4⟩:=hr;exact⟨b,ms,c,h1,h2,h3,zJC h ks xs _ h4⟩
 |.any,_,hr|.lit _,_,hr|.same _ _,_,hr|.addr _ _,_,hr|.sub _ _ _ _ _,_,hr=>by first|(simp only[R];done)|simpa only[R]using hr
theorem zMl:(xs:List T)→ ∀(p:List Nat)(i b o k:Nat),RL St G w s xs p i b o k→RL St' G w s xs p i b o k
 | [],_,_,_,_,_,_=>by have _:=h;simp only[RL]
 |x::xs,p,i,b,o,k,hr=>by simp only[RL]at hr ⊢;exact⟨hr.1,zIO x _ hr.2.1,zMl xs p (i+1) b _ k hr.2.2⟩
theorem zMm:(xs:List T)→ ∀(p:List Nat)(i:Nat),RF St G w s xs p i→RF St' G w s xs p i
 | [],_,_,_=>by have _:=h;simp only[RF]
 |x::xs,p,i,hr=>by simp only[RF]at hr ⊢;exact⟨zIO x _ hr.1,zMm xs p (i+1) hr.2⟩
end
end
mutual
def strip:T→T
 |.lit v=>.lit v
 |.ro u=>if u.single then u else .any
 |.sl k xs=>.sl k (tQ xs)
 |.agg xs=>.agg (tQ xs)
 |.ptr t=>.ptr (strip t)
 |.any|.same _ _|.addr _ _|.sub _ _ _ _ _|.tup _|.mp _ _=>.any
def tQ:List T→List T
 | []=>[]
 |x::xs=>strip x::tQ xs
end
theorem zB3:(xs:List T)→(tQ xs).length=xs.length
 | []=>rfl
 |x::xs=>by simp[tQ,zB3 xs]
mutual
theorem zG1:(t:T)→(strip t).size=t.size
 |.agg xs=>by simp only[strip,T.size];exact zFB xs
 |.ro u=>by
  simp only[strip];split
  ·rename_i h;cases u<;>simp[T.single]at h<;>simp[T.size]
  ·simp[T.size]
 |.lit _|.sl _ _|.ptr _|.mp _ _|.any|.same _ _|.addr _ _|.sub _ _ _ _ _|.tup _=>by simp[strip,T.size]
theorem zFB:(xs:List T)→T.sizes (tQ xs)=T.sizes xs
 | []=>rfl
 |x::xs=>by simp only[tQ,T.sizes,zG1 x,zFB xs]
end
theorem zCD{St:Stb}{u:T}(hu:u.single=VW){v:Value}{cs:Array Value}{o:Nat}(h:RoC St u #[v] 0)(hc:cs[o]? =VU v):RoC St u cs o:=by
 cases u<;>simp[T.single]at hu<;>simp only[RoC]at h ⊢ <;>simp at h<;>first
  |exact⟨v,hc,h⟩
  |(obtain⟨rfl,h2⟩:=h;exact⟨hc,h2⟩)
  |(obtain⟨f,vs,rfl,h2⟩:=h;exact⟨f,vs,hc,h2⟩)
  |(obtain⟨a,c,rfl,h2⟩:=h;exact⟨a,c,hc,by simpa using h2⟩)
  |(obtain⟨b,o',rfl,h2⟩:=h;obtain⟨cs',⟨e,f1,f2,h3⟩,h4⟩:=h2;exact⟨b,o',cs',e,(f1,f2),hc,h3,h4⟩)
section
variable {St Sc:Stb}{G:Gh}{w:World}{s:Nat} (gA:∀s p,(G.hd s p).oneCell'=VW) (eF:∀b x,St b=VU x→Sc b=VU x) (eG:∀b,(∃y,G.ow b=VU (s,y))→Sc b=w.heap[b]?)
 include gA eF eG
mutual
theorem frz:(t:T)→ ∀(p:List Nat)(b o:Nat)(cs:Array Value)(e:TypeId)(fr:Nat×Nat),w.heap[b]? =VU (.cells cs e fr)→Loc G w s t p b o→R St G w s t p→RoC Sc (strip t) cs o
 |.agg xs,p,b,o,cs,e,fr,hb,hl,hr=>by simp only[Loc,R,strip,RoC]at hl hr ⊢;exact zVo xs p 0 b o cs e fr hb hl.2 hr
 |.tup _,_,_,_,_,_,_,_,hl,_=>by have _:=eG;simp only[Loc]at hl
 |.any,p,b,o,cs,e,fr,hb,hl,hr|.same _ _,p,b,o,cs,e,fr,hb,hl,hr|.addr _ _,p,b,o,cs,e,fr,hb,hl,hr|.sub _ _ _ _ _,p,b,o,cs,e,fr,hb,hl,hr|.mp _ _,p,b,o,cs,e,fr,hb,hl,hr=>by have h1:=(sH rfl hl).2.2;simp only[yX,World.cell?,hb]at h1;simp only[strip,RoC];exact⟨_,by simpa using h1,gA s p⟩
 |.lit v,p,b,o,cs,e,fr,hb,hl,hr=>by
  have h1:=(sH rfl hl).2.2;simp only[yX,World.cell?,hb]at h1;simp only[strip,RoC,R]at hr ⊢
  exact⟨by rw[←hr];simpa using h1,by rw[←hr];exact gA s p⟩
 |.ro u,p,b,o,cs,e,fr,hb,hl,hr=>by
  have h1:=(sH rfl hl).2.2;simp only[yX,World.cell?,hb]at h1;simp only[strip,R]at hr ⊢
  split
  ·rename_i hu
   exact zCD hu (qK eF u _ _ hr) (by simpa using h1)
  ·simp only[RoC];exact⟨_,by simpa using h1,gA s p⟩
 |.sl k xs,p,b,o,cs,e,fr,hb,hl,hr=>by have h1:=(sH rfl hl).2.2;simp only[yX,World.cell?,hb]at h1;exact zCD rfl (zJD (.sl k xs) p rfl hr) (by simpa using h1)
 |.ptr t,p,b,o,cs,e,fr,hb,hl,hr=>by have h1:=(sH rfl hl).2.2;simp only[yX,World.cell?,hb]at h1;exact zCD rfl (zJD (.ptr t) p rfl hr) (by simpa using h1)
theorem zVo:(xs:List T)→ ∀(p:List Nat)(j b o:Nat)(cs:Array Value)(e:TypeId)(fr:Nat×Nat),w.heap[b]? =VU (.cells cs e fr)→uN G w s xs p j b o→RF St G w s xs p j→RoF Sc (tQ xs) cs o
 | [],_,_,_,_,_,_,_,_,_,_=>by have _:=gA;have _:=eF;have _:=eG;simp only[tQ,RoF]
 |x::xs,p,j,b,o,cs,e,fr,hb,hl,hr=>by
  simp only[uN,RF,tQ,RoF]at hl hr ⊢
  exact⟨frz x _ b o cs e fr hb hl.1 hr.1,by rw[zG1];exact zVo xs p (j+1) b _ cs e fr hb hl.2 hr.2⟩
theorem zVp:(xs:List T)→ ∀(p:List Nat)(i b o k:Nat)(cs:Array Value)(e:TypeId)(fr:Nat×Nat),w.heap[b]? =VU (.cells cs e fr)→RL St G w s xs p i b o k→RoL Sc (tQ xs) cs o k
 | [],_,_,_,_,_,_,_,_,_,_=>by have _:=gA;have _:=eF;have _:=eG;simp only[tQ,RoL]
 |x::xs,p,i,b,o,k,cs,e,fr,hb,hr=>by
  simp only[RL,tQ,RoL]at hr ⊢
  exact⟨frz x _ b o cs e fr hb hr.1.1 hr.2.1,zVp xs p (i+1) b _ k cs e fr hb hr.2.2⟩
theorem zJD:(t:T)→ ∀(p:List Nat),t.single=VW→R St G w s t p→RoC Sc (strip t) #[G.hd s p] 0
 |.agg _,_,h,_|.tup _,_,h,_=>by simp[T.single]at h
 |.any,p,_,_|.same _ _,p,_,_|.addr _ _,p,_,_|.sub _ _ _ _ _,p,_,_|.mp _ _,p,_,_=>by simp only[strip,RoC];exact⟨_,by simp,gA s p⟩
 |.lit v,p,_,hr=>by simp only[strip,RoC,R]at hr ⊢;exact⟨by simp[hr],by rw[←hr];exact gA s p⟩
 |.ro u,p,_,hr=>by
  simp only[strip,R]at hr ⊢
  split
  ·exact qK eF u _ _ hr
  ·simp only[RoC];exact⟨_,by simp,gA s p⟩
 |.sl k xs,p,_,hr=>by
  simp only[strip,R,RoC]at hr ⊢
  rw[zB3];rcases hr with⟨rfl,a,h1⟩|⟨b,o0,cap,cs,e,h1,h2,h3,h4,h5,h6,h7,h8⟩
  ·exact⟨a,0,by simp[h1],by simp,by simp[maxLen],fun h=>by simp[tQ]at h⟩
  ·exact⟨VU ⟨b,o0,VV⟩,cap,by simp[h1],h3,h4,fun _=>⟨b,o0,cs,e,(0,0),rfl,by rw[eG b ⟨_,h6⟩];exact h2,zVp xs p 0 b o0 k cs e (0,0) h2 h8⟩⟩
 |.ptr t,p,_,hr=>by
  simp only[strip,R,RoC]at hr ⊢
  obtain⟨b,cs,e,h1,h2,h3,h6,h4,h5⟩:=hr;exact⟨b,0,cs,e,(0,0),by simp[h1],by rw[eG b ⟨_,h6⟩];exact h2,frz t _ b 0 cs e (0,0) h2 h4 h5⟩
end
end
end Go.Ab

namespace Go.Ab
open Go
mutual
def clo(E:Env):T→T
 |.agg ts=>.agg (zCa E ts)
 |.lit v=>.lit v
 |.ro u=>.ro u
 |.same r q=>match jZ E 4 r q with
  |some (_,_,.ro u)=>.ro u
  |some (_,_,.lit v)=>.lit v
  |some (_,_,t)=>if t.single then .ro (strip t)else .any
  |none=>.any
 |.sub r q k lo hi=>match jZ E 4 r q with
  |some (_,_,.sl k' xs)=>if k=k'∧lo≤hi∧hi≤xs.length then .ro (.sl k (((tQ xs).drop lo).take (hi-lo)))else .any
  |_=>.any
 |.sl k xs=>.ro (strip (.sl k xs))
 |.ptr t=>.ro (strip (.ptr t))
 |.any|.addr _ _|.tup _|.mp _ _=>.any
def zCa(E:Env):List T→List T
 | []=>[]
 |x::xs=>clo E x::zCa E xs
end
mutual
def jQ(E:Env)(rs:List Nat)(s:Nat):T→Bool
 |.agg ts=>zBk E rs s ts
 |.same r q|.sub r q _ _ _=>match jZ E 4 r q with
  |some (r',_,_)=> !rs.contains r'
  |none=>VW
 |.sl _ _|.ptr _=> !rs.contains s
 |.lit _|.ro _|.any|.addr _ _|.mp _ _=>VW
 |.tup _=>VX
def zBk(E:Env)(rs:List Nat)(s:Nat):List T→Bool
 | []=>VW
 |x::xs=>jQ E rs s x&&zBk E rs s xs
end
theorem zRw{St:Stb}{k:Nat}{xs:List T}{v:Value}{lo hi:Nat}(h:RoC St (.sl k xs) #[v] 0)(h1:lo≤hi)(h2:hi≤xs.length):RoC St (.sl k ((xs.drop lo).take (hi-lo))) #[zB6 v k lo hi] 0:=by
 simp only[RoC]at h ⊢
 obtain⟨a',c,g4,g5,g6,g7⟩:=h;have hv:v=.slice a' xs.length c:=by grind
 subst hv;have gm:((xs.drop lo).take (hi-lo)).length=hi-lo:=by simp;omega
 refine⟨if c=lo then a' else a'.map (·.add (lo*k)),c-lo,by grind[zB6],by omega,by omega,?_⟩;intro gk;have ei:xs≠[]:=by grind
 obtain⟨b,o',cs',e',fr,rfl,h3,h4⟩:=g7 ei;have gK:c≠lo:=by grind
 grind[tL,zGn,zGm]
section
variable {Γ:Ctx}{E:Env}{G Gc:Gh}{a:Act}{w:World}{Sc:Stb}{rs:List Nat}{s i:Nat} (gc:Rep Γ E G a.tmps w) (eF:∀b x,Γ.St b=VU x→Sc b=VU x) (eG:∀r,r∉rs→ ∀b,(∃y,G.ow b=VU (r,y))→Sc b=w.heap[b]?) (gN:∀z,Gc.hd i z=G.hd s z)
 include gc eF eG gN
mutual
theorem zTc:(t:T)→ ∀(p:List Nat),jQ E rs s t=VW→R Γ.St G w s t p→R Sc Gc w i (clo E t) p
 |.agg ts,p,h,hr=>by simp only[jQ,clo,R]at h hr ⊢;exact zO8 ts p 0 h hr
 |.tup _,_,h,_=>by grind[jQ]
 |.lit v,p,_,hr=>by simp only[clo,R]at hr ⊢;grind
 |.ro u,p,_,hr=>by simp only[clo,R]at hr ⊢;grind[qK]
 |.any,_,_,_|.addr _ _,_,_,_|.mp _ _,_,_,_=>by simp only[clo,R]
 |.sl k xs,p,h,hr=>by
  simp only[jQ,Hc,Ld,decide_eq_false_iff_not]at h;have:=zJD (fun s p=>gc.mem.one s p) eF (eG s h) (.sl k xs) p rfl hr;simp only[clo,R]
  grind
 |.ptr t,p,h,hr=>by
  simp only[jQ,Hc,Ld,decide_eq_false_iff_not]at h;have:=zJD (fun s p=>gc.mem.one s p) eF (eG s h) (.ptr t) p rfl hr;simp only[clo,R]
  grind
 |.same r q,p,h,hr=>by
  simp only[jQ,clo,R]at h hr ⊢
  cases hf:jZ E 4 r q with
  |none=>simp only[R]
  |some x=>
   obtain⟨r',q',t⟩:=x;simp only[hf,Hc,Ld,decide_eq_false_iff_not]at h;obtain⟨h1,h2,_⟩:=zCU gc 4 r q r' q' t hf;have h3:Gc.hd i p=G.hd r' q':=by grind
   by_cases hs:t.single=VW
   ·have h4:=zJD (fun s p=>gc.mem.one s p) eF (eG r' h) t q' hs h1
    cases t with
    |ro u=>simp only[R]at h1 ⊢;grind[qK]
    |lit v=>simp only[R]at h1 ⊢;grind
    |agg _=>grind[T.single]
    |tup _=>grind[T.single]
    |_=>simp only[hs,if_true,R];grind
   ·cases t<;>simp[T.single]at hs<;>simp[T.single,R]
 |.sub r q k lo hi,p,h,hr=>by
  simp only[jQ,clo,R]at h hr ⊢
  cases hf:jZ E 4 r q with
  |none=>simp only[R]
  |some x=>
   obtain⟨r',q',t⟩:=x;simp only[hf,Hc,Ld,decide_eq_false_iff_not]at h;obtain⟨h1,h2,_⟩:=zCU gc 4 r q r' q' t hf;cases t with
   |sl k' xs=>
    simp only[];split
    ·rename_i hc
     obtain⟨rfl,pf,eP⟩:=hc;have h4:=zJD (fun s p=>gc.mem.one s p) eF (eG r' h) (.sl k xs) q' rfl h1;simp only[strip]at h4;simp only[R]
     grind[zRw,zB3]
    ·simp only[R]
   |_=>simp only[R]
theorem zO8:(ts:List T)→ ∀(p:List Nat)(j:Nat),zBk E rs s ts=VW→RF Γ.St G w s ts p j→RF Sc Gc w i (zCa E ts) p j
 | [],_,_,_,_=>by have _:=gc;have _:=eF;have _:=eG;have _:=gN;simp only[zCa,RF]
 |x::xs,p,j,h,hr=>by
  simp only[zBk,J1,zCa,RF]at h hr ⊢
  exact⟨zTc x _ h.1 hr.1,zO8 xs p (j+1) h.2 hr.2⟩
end
end
section
variable {E:Env}{G Gc:Gh}{rs:List Nat}{s i:Nat}
theorem zG2(t:T)(h:t.single=VW):(clo E t).single=VW:=by cases t<;>simp[T.single]at h<;>simp only[clo]<;>first|rfl|(split<;>first|rfl|(split<;>rfl))
mutual
theorem zO9(gN:∀z,Gc.hd i z=G.hd s z):(t:T)→ ∀(p:List Nat),jQ E rs s t=VW→vals Gc i (clo E t) p=vals G s t p
 |.agg ts,p,h=>by simp only[jQ,clo,vals]at h ⊢;exact zFc gN ts p 0 h
 |.tup _,_,h=>by grind[jQ]
 |.lit _,p,_|.ro _,p,_|.any,p,_|.addr _ _,p,_|.sl _ _,p,_|.ptr _,p,_|.mp _ _,p,_|.same _ _,p,_|.sub _ _ _ _ _,p,_=>by
  have h1:∀u:T,u.single=VW→vals Gc i u p=[G.hd s p]:=fun u hu=>by cases u<;>simp[T.single]at hu<;>simp[vals,gN]
  rw[h1 _ (zG2 _ rfl)];simp[vals]
theorem zFc(gN:∀z,Gc.hd i z=G.hd s z):(ts:List T)→ ∀(p:List Nat)(j:Nat),zBk E rs s ts=VW→yD Gc i (zCa E ts) p j=yD G s ts p j
 | [],_,_,_=>by rfl
 |x::xs,p,j,h=>by simp only[zBk,J1]at h;simp only[zCa,yD];rw[zO9 gN x _ h.1,zFc gN xs p _ h.2]
end
theorem zIP(gN:∀z,Gc.hd i z=G.hd s z)(t:T)(h:jQ E rs s t=VW):mkV Gc i (clo E t) []=mkV G s t []:=by
 cases t with
 |agg ts=>grind[jQ,clo,mkV,zFc]
 |tup _=>grind[jQ]
 |_=>rw[xY (zG2 _ rfl),xY rfl,gN]
end
end Go.Ab
