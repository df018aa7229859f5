/- The program's KeepsRank returns what the reference's returns,for all arguments;no conditions. -/
import Derived.Orders
import Derived.Laws.AppendOwn
import Derived.Laws.MakeOwn
import Derived.Great.BuildSlice
import Derived.Laws.Tables
open List renaming replicate→J1,length_append→J5,length_cons→J7,mem_cons→J9,getElem?_append_right→Ja,length_replicate→Jb,mem_append→Jd,append_nil→Je,append_assoc→Jf,mem_map→Jl,map_cons→Jn,getElem?_eq_some_iff→Js,replicate_succ→Ju,nil_append→Jv,getElem?_append_left→Jx,getElem?_map→K5,cons_append→K6,length_take→Kc,getElem?_replicate→Kf,all_eq_true→Ki,reverse_reverse→Km,mem_range→Kn,getElem?_append→Kq,ext_getElem?→Ky,nodup_cons→L9,set_cons_succ→Lb,take_succ_cons→Lf,flatMap_cons→Lo,eq_nil_of_length_eq_zero→Lp,mem_of_getElem?→Lv,set_cons_zero→H5,contains_eq_mem→Hc,getElem?_drop→Hi,foldl_cons→Gd,map_nil→U2,getElem?_take_of_lt→U3,flatMap_append→U4,drop_eq_getElem_cons→Uk,reverse_cons→Ul,not_mem_nil→Q5,getElem?_cons_succ→Q6,getElem?_set_ne→Qa,length_set→Qe,reverse_nil→Qi,map_toArray→Qj,cons→Ja3,reverse_append→Jam,take_append_drop→Jay,take_append→Jb6,map_take→Jb9,isEmpty_iff→Jbb,size_toArray→Jbl
open Bool renaming and_eq_true→J4,false_eq_true→Hx,not_eq_true'→Gy,false_and→Jce
open Int renaming toNat_natCast→J8
open Nat renaming zero_add→Jc,le_refl→Jh,mul_le_mul→Jr,succ_mul→K1,mul_le_mul_right→Kb,sub_self→Kj,le_trans→Hb,mod_lt→Hk,add_mul→Uh,add_zero→Qh,min_eq_left→Ja0,lt_of_lt_of_le→Jav,le_mul_of_pos_right→Jaw,mul_pos→Jbh
open Array renaming getElem?_setIfInBounds→Jm,getD_eq_getD_getElem?→Kl,length_toList→Ks,getElem?_toList→Kv,getElem?_eq_some_iff→L5,range→Jbz
open Option renaming isSome_none→Ur,map_none→Jau
open Prod renaming mk→Jal
open Option renaming some→iG,none→iH
open Bool renaming true→iI,false→iJ
theorem iL{p:Prop}[h:Decidable p](a:¬p):decide p=false:=decide_eq_false a
theorem iM{p:Prop}[h:Decidable p](a:p):decide p=true:=decide_eq_true a
namespace Go.Ab
open Go
inductive T where
 |any
 |lit (v:Value)
 |ro (t:T)
 |same (r:Nat) (p:List Nat)
 |addr (r:Nat) (p:List Nat)
 |sub (r:Nat) (p:List Nat) (k lo hi:Nat)
 |sl (k:Nat) (xs:List T)
 |agg (xs:List T)
 |ptr (t:T)
 |tup (xs:List T)
 deriving Inhabited
abbrev Stb:=Nat→Option Obj
mutual
def T.size:T→Nat
 |.agg xs=>T.sizes xs
 |_=>1
def T.sizes:List T→Nat
 | []=>0
 |x::xs=>x.size+T.sizes xs
end
mutual
def RoC(St:Stb):T→Array Value→Nat→Prop
 |.any,cs,o=> ∃v,cs[o]? =iG v∧v.oneCell'=iI
 |.lit v,cs,o=>cs[o]? =iG v∧v.oneCell'=iI
 |.ro _,_,_=>False
 |.sl k xs,cs,o=> ∃a c,cs[o]? =iG (.slice a xs.length c)∧xs.length≤c∧c≤maxLen∧
   (xs≠[]→ ∃b o' cs' e fr,a=iG ⟨b,o',iH⟩∧St b=iG (.cells cs' e fr)∧RoL St xs cs' o' k)
 |.agg xs,cs,o=>RoF St xs cs o
 |.ptr t,cs,o=> ∃b o' cs' e fr,cs[o]? =iG (.pointer (iG ⟨b,o',iH⟩))∧St b=iG (.cells cs' e fr)∧RoC St t cs' o'
 |.same _ _,_,_=>False
 |.addr _ _,_,_=>False
 |.sub _ _ _ _ _,_,_=>False
 |.tup _,_,_=>False
def RoL(St:Stb):List T→Array Value→Nat→Nat→Prop
 | [],_,_,_=>True
 |x::xs,cs,o,k=>RoC St x cs o∧RoL St xs cs (o+k) k
def RoF(St:Stb):List T→Array Value→Nat→Prop
 | [],_,_=>True
 |x::xs,cs,o=>RoC St x cs o∧RoF St xs cs (o+x.size)
end
structure Gh where
 hd:Nat→List Nat→Value
 ad:Nat→List Nat→Addr
 lb:Nat→Nat→Option (Bool×Nat×List Nat)
 ow:Nat→Option (Nat×List Nat)
def yS(w:World)(b o:Nat):Option Value:=w.cell? ⟨b,o,iH⟩
mutual
def Loc(G:Gh)(w:World)(s:Nat):T→List Nat→Nat→Nat→Prop
 |.agg xs,p,b,o=>G.ad s p=⟨b,o,iH⟩∧vM G w s xs p 0 b o
 |.tup _,_,_,_=>False
 |.any,p,b,o|.lit _,p,b,o|.ro _,p,b,o|.same _ _,p,b,o|.addr _ _,p,b,o|.sub _ _ _ _ _,p,b,o|.sl _ _,p,b,o|.ptr _,p,b,o=>
  G.ad s p=⟨b,o,iH⟩∧G.lb b o=iG (iJ,s,p)∧yS w b o=iG (G.hd s p)
def vM(G:Gh)(w:World)(s:Nat):List T→List Nat→Nat→Nat→Nat→Prop
 | [],_,_,_,_=>True
 |x::xs,p,j,b,o=>Loc G w s x (j::p) b o∧vM G w s xs p (j+1) b (o+x.size)
end
def zBo(v:Value)(k lo hi:Nat):Value:=
 match v with
 |.slice a _ c=>.slice (if c=lo then a else a.map (·.add (lo*k))) (hi-lo) (c-lo)
 |v=>v
mutual
def R(St:Stb)(G:Gh)(w:World)(s:Nat):T→List Nat→Prop
 |.any,_=>True
 |.lit v,p=>G.hd s p=v
 |.ro t,p=>RoC St t #[G.hd s p] 0
 |.same r q,p=>G.hd s p=G.hd r q
 |.addr r q,p=>G.hd s p=.pointer (iG (G.ad r q))
 |.sub r q k lo hi,p=>G.hd s p=zBo (G.hd r q) k lo hi
 |.sl k xs,p=>(xs=[]∧ ∃a,G.hd s p=.slice a 0 0)∨ ∃b cap cs e,G.hd s p=.slice (iG ⟨b,0,iH⟩) xs.length cap∧
   w.heap[b]? =iG (.cells cs e (0,0))∧xs.length≤cap∧cap≤maxLen∧cap*k≤cs.size∧G.ow b=iG (s,p)∧
   (∀o,xs.length*k≤o→o<cap*k→G.lb b o=iG (iI,s,p))∧RL St G w s xs p 0 b 0 k
 |.agg xs,p=>RF St G w s xs p 0
 |.ptr t,p=> ∃b cs e,G.hd s p=.pointer (iG ⟨b,0,iH⟩)∧w.heap[b]? =iG (.cells cs e (0,0))∧cs.size=t.size∧G.ow b=iG (s,p)∧
   Loc G w s t (0::p) b 0∧R St G w s t (0::p)
 |.tup xs,p=>RF St G w s xs p 0
def RL(St:Stb)(G:Gh)(w:World)(s:Nat):List T→List Nat→Nat→Nat→Nat→Nat→Prop
 | [],_,_,_,_,_=>True
 |x::xs,p,i,b,o,k=>(Loc G w s x (i::p) b o∧x.size=k)∧R St G w s x (i::p)∧RL St G w s xs p (i+1) b (o+k) k
def RF(St:Stb)(G:Gh)(w:World)(s:Nat):List T→List Nat→Nat→Prop
 | [],_,_=>True
 |x::xs,p,j=>R St G w s x (j::p)∧RF St G w s xs p (j+1)
end
mutual
def xE(φ:Nat→List Nat→Prop):T→Prop
 |.same r p|.addr r p|.sub r p _ _ _=>φ r p
 |.sl _ xs|.agg xs|.tup xs=>wB φ xs
 |.ptr t=>xE φ t
 |.any|.lit _|.ro _=>True
def wB(φ:Nat→List Nat→Prop):List T→Prop
 | []=>True
 |x::xs=>xE φ x∧wB φ xs
end
mutual
theorem xE.mono{φ ψ:Nat→List Nat→Prop}(h:∀r p,φ r p→ψ r p):(t:T)→xE φ t→xE ψ t
 |.same _ _,ht|.addr _ _,ht|.sub _ _ _ _ _,ht=>h _ _ ht
 |.sl _ xs,ht|.agg xs,ht|.tup xs,ht=>by simp only[xE]at ht ⊢;exact wB.mono h xs ht
 |.ptr t,ht=>by simp only[xE]at ht ⊢;exact xE.mono h t ht
 |.any,_|.lit _,_|.ro _,_=>by simp[xE]
theorem wB.mono{φ ψ:Nat→List Nat→Prop}(h:∀r p,φ r p→ψ r p):(xs:List T)→wB φ xs→wB ψ xs
 | [],_=>trivial
 |x::xs,hx=>⟨xE.mono h x hx.1,wB.mono h xs hx.2⟩
end
mutual
theorem xE.triv{φ:Nat→List Nat→Prop}(h:∀r p,φ r p):(t:T)→xE φ t
 |.same _ _|.addr _ _|.sub _ _ _ _ _=>by simp only[xE];exact h _ _
 |.sl _ xs|.agg xs|.tup xs=>by simp only[xE];exact wB.triv h xs
 |.ptr t=>by simp only[xE];exact xE.triv h t
 |.any|.lit _|.ro _=>by simp only[xE]
theorem wB.triv{φ:Nat→List Nat→Prop}(h:∀r p,φ r p):(xs:List T)→wB φ xs
 | []=>by simp only[wB]
 |x::xs=>by simp only[wB];exact⟨xE.triv h x,wB.triv h xs⟩
end
abbrev yE(t:T):Prop:=xE (fun _ _=>False) t
abbrev xW(xs:List T):Prop:=wB (fun _ _=>False) xs
def Blk(w w':World):Prop:=∀(b:Nat) cs e,w.heap[b]? =iG (.cells cs e (0,0))→ ∃cs',w'.heap[b]? =iG (.cells cs' e (0,0))∧cs'.size=cs.size
structure MovesE (G:Gh) (w:World) (G':Gh) (w':World) (s:Nat) (p:List Nat) (s':Nat) (p':List Nat):Prop where
 hd:∀z,G'.hd s' (z++p')=G.hd s (z++p)
 ad:∀z,z≠[]→G'.ad s' (z++p')=G.ad s (z++p)
 lb:∀b o f z,z≠[]→(∃y,G.ow b=iG (s,y))→G.lb b o=iG (f,s,z++p)→G'.lb b o=iG (f,s',z++p')∧yS w' b o=yS w b o
 ow:∀b z,z≠[]→G.ow b=iG (s,z++p)→G'.ow b=iG (s',z++p')
 blk:Blk w w'
structure zJk (G:Gh) (w:World) (G':Gh) (w':World) (s:Nat) (p:List Nat) (s':Nat) (p':List Nat):Prop extends MovesE G w G' w' s p s' p' where
 sp:∀b o,(∃y,G.ow b=iG (s,y))→G.lb b o=iG (iI,s,p)→G'.lb b o=iG (iI,s',p')∧yS w' b o=yS w b o
 ow0:∀b,G.ow b=iG (s,p)→G'.ow b=iG (s',p')
def zAo(G G':Gh)(r:Nat)(p:List Nat):Prop:=G'.hd r p=G.hd r p∧G'.ad r p=G.ad r p
section
variable {St:Stb}{G:Gh}{w:World}{G':Gh}{w':World}{s:Nat}{p:List Nat}{s':Nat}{p':List Nat}
mutual
theorem zE1(hm:MovesE G w G' w' s p s' p'):(t:T)→ ∀(z:List Nat)(b o:Nat),z≠[]→(∃y,G.ow b=iG (s,y))→Loc G w s t (z++p) b o→Loc G' w' s' t (z++p') b o
 |.agg xs,z,b,o,hz,hJ,h=>by
  simp only[Loc]at h ⊢
  exact⟨(hm.ad z hz).trans h.1,zJl hm xs z 0 b o hJ h.2⟩
 |.any,z,b,o,hz,hJ,h|.lit _,z,b,o,hz,hJ,h|.ro _,z,b,o,hz,hJ,h|.same _ _,z,b,o,hz,hJ,h|.addr _ _,z,b,o,hz,hJ,h|.sub _ _ _ _ _,z,b,o,hz,hJ,h|.sl _ _,z,b,o,hz,hJ,h|.ptr _,z,b,o,hz,hJ,h=>by
  simp only[Loc]at h ⊢
  obtain⟨h1,h2,h3⟩:=h;have hl:=hm.lb b o iJ z hz hJ h2;exact⟨(hm.ad z hz).trans h1,hl.1,by rw[hl.2,h3,hm.hd]⟩
 |.tup _,_,_,_,_,_,h=>by simp only[Loc]at h
theorem zJl(hm:MovesE G w G' w' s p s' p'):(xs:List T)→ ∀(z:List Nat)(j b o:Nat),(∃y,G.ow b=iG (s,y))→vM G w s xs (z++p) j b o→vM G' w' s' xs (z++p') j b o
 | [],_,_,_,_,_,_=>by simp only[vM]
 |x::xs,z,j,b,o,hJ,h=>by
  simp only[vM]at h ⊢
  exact⟨zE1 hm x (j::z) b o (by simp) hJ h.1,zJl hm xs z (j+1) b _ hJ h.2⟩
end
mutual
theorem zE2(hm:MovesE G w G' w' s p s' p'):(t:T)→ ∀(z:List Nat),z≠[]→xE (zAo G G') t→R St G w s t (z++p)→R St G' w' s' t (z++p')
 |.any,_,_,_,_=>by simp only[R]
 |.lit _,z,_,_,h=>by simp only[R]at h ⊢;rw[hm.hd];exact h
 |.ro _,z,_,_,h=>by simp only[R]at h ⊢;rw[hm.hd];exact h
 |.same r q,z,_,hk,h=>by simp only[R]at h ⊢;rw[hm.hd,hk.1];exact h
 |.addr r q,z,_,hk,h=>by simp only[R]at h ⊢;rw[hm.hd,hk.2];exact h
 |.sub r q k lo hi,z,_,hk,h=>by simp only[R]at h ⊢;rw[hm.hd,hk.1];exact h
 |.agg xs,z,_,hk,h=>by simp only[R,xE]at h hk ⊢;exact zE3 hm xs z 0 hk h
 |.tup xs,z,_,hk,h=>by simp only[R,xE]at h hk ⊢;exact zE3 hm xs z 0 hk h
 |.sl k xs,z,hz,hk,h=>by
  simp only[R,xE]at h hk ⊢
  rw[hm.hd];rcases h with h|⟨b,cap,cs,e,h1,h2,h3,h4,h5,h6,h7,h8⟩
  ·grind
  ·obtain⟨cs',cD,gy⟩:=hm.blk b cs e h2
   exact .inr ⟨b,cap,cs',e,h1,cD,h3,h4,by omega,hm.ow b z hz h6,fun o ho ho2=>(hm.lb b o iI z hz ⟨_,h6⟩ (h7 o ho (by omega))).1,zKb hm xs z 0 b 0 k ⟨_,h6⟩ hk h8⟩
 |.ptr t,z,hz,hk,h=>by
  simp only[R,xE]at h hk ⊢
  rw[hm.hd];obtain⟨b,cs,e,h1,h2,h3,h6,h4,h5⟩:=h;obtain⟨cs',cD,gy⟩:=hm.blk b cs e h2;exact⟨b,cs',e,h1,cD,by omega,hm.ow b z hz h6,by grind[zE1],zE2 hm t (0::z) (by simp) hk h5⟩
theorem zKb(hm:MovesE G w G' w' s p s' p'):(xs:List T)→ ∀(z:List Nat)(i b o k:Nat),(∃y,G.ow b=iG (s,y))→wB (zAo G G') xs→RL St G w s xs (z++p) i b o k→RL St G' w' s' xs (z++p') i b o k
 | [],_,_,_,_,_,_,_,_=>by simp only[RL]
 |x::xs,z,i,b,o,k,hJ,hk,h=>by
  simp only[RL,wB]at h hk ⊢
  exact⟨by grind[zE1],zE2 hm x (i::z) (by simp) hk.1 h.2.1,zKb hm xs z (i+1) b _ k hJ hk.2 h.2.2⟩
theorem zE3(hm:MovesE G w G' w' s p s' p'):(xs:List T)→ ∀(z:List Nat)(j:Nat),wB (zAo G G') xs→RF St G w s xs (z++p) j→RF St G' w' s' xs (z++p') j
 | [],_,_,_,_=>by simp only[RF]
 |x::xs,z,j,hk,h=>by
  simp only[RF,wB]at h hk ⊢
  exact⟨zE2 hm x (j::z) (by simp) hk.1 h.1,zE3 hm xs z (j+1) hk.2 h.2⟩
end
theorem zAr(hm:zJk G w G' w' s p s' p')(t:T)(hk:xE (zAo G G') t)(h:R St G w s t p):R St G' w' s' t p':=by
 have hd0:G'.hd s' p'=G.hd s p:=by simpa using hm.hd []
 cases t with
 |any=>simp only[R]
 |lit _=>simp only[R]at h ⊢;grind
 |ro _=>simp only[R]at h ⊢;grind
 |same r q=>simp only[R]at h ⊢;rw[hd0,hk.1];exact h
 |addr r q=>simp only[R]at h ⊢;rw[hd0,hk.2];exact h
 |sub r q k lo hi=>simp only[R]at h ⊢;rw[hd0,hk.1];exact h
 |agg xs=>simp only[R,xE]at h hk ⊢;simpa using zE3 hm.toMovesE xs [] 0 hk (by grind)
 |tup xs=>simp only[R,xE]at h hk ⊢;simpa using zE3 hm.toMovesE xs [] 0 hk (by grind)
 |sl k xs=>
  simp only[R,xE]at h hk ⊢
  rw[hd0];rcases h with h|⟨b,cap,cs,e,h1,h2,h3,h4,h5,h6,h7,h8⟩
  ·grind
  ·obtain⟨cs',cD,gy⟩:=hm.blk b cs e h2
   exact .inr ⟨b,cap,cs',e,h1,cD,h3,h4,by omega,hm.ow0 b h6,fun o ho ho2=>(hm.sp b o ⟨_,h6⟩ (h7 o ho (by omega))).1,by simpa using zKb hm.toMovesE xs [] 0 b 0 k ⟨_,h6⟩ hk (by grind)⟩
 |ptr t=>
  simp only[R,xE]at h hk ⊢
  rw[hd0];obtain⟨b,cs,e,h1,h2,h3,h6,h4,h5⟩:=h;obtain⟨cs',cD,gy⟩:=hm.blk b cs e h2;exact⟨b,cs',e,h1,cD,by omega,hm.ow0 b h6,zE1 hm.toMovesE t [0] b 0 (by simp) ⟨_,h6⟩ h4,zE2 hm.toMovesE t [0] (by simp) hk h5⟩
theorem zRW(hm:zJk G w G' w' s p s' p')(t:T)(z:List Nat)(hk:xE (zAo G G') t)(h:R St G w s t (z++p)):R St G' w' s' t (z++p'):=by
 cases z with
 |nil=>grind[zAr]
 |cons i z=>exact zE2 hm.toMovesE t (i::z) (by simp) hk h
end
end Go.Ab

namespace Go.Ab
open Go
def T.get:T→List Nat→Option T
 |t,[]=>iG t
 |.sl _ xs,i::f|.agg xs,i::f|.tup xs,i::f=>match xs[i]? with
  |some x=>x.get f
  |none=>iH
 |.ptr t,i::f=>if i=0 then t.get f else iH
 |.any,_::_|.lit _,_::_|.ro _,_::_|.same _ _,_::_|.addr _ _,_::_|.sub _ _ _ _ _,_::_=>iH
termination_by structural _ f=>f
def T.set:T→List Nat→T→T
 |_,[],u=>u
 |.sl k xs,i::f,u=>match xs[i]? with
  |some x=>.sl k (xs.set i (x.set f u))
  |none=>.sl k xs
 |.agg xs,i::f,u=>match xs[i]? with
  |some x=>.agg (xs.set i (x.set f u))
  |none=>.agg xs
 |.tup xs,i::f,u=>match xs[i]? with
  |some x=>.tup (xs.set i (x.set f u))
  |none=>.tup xs
 |.ptr t,i::f,u=>if i=0 then .ptr (t.set f u)else .ptr t
 |.any,_::_,_=>.any
 |.lit v,_::_,_=>.lit v
 |.ro t,_::_,_=>.ro t
 |.same r q,_::_,_=>.same r q
 |.addr r q,_::_,_=>.addr r q
 |.sub r q k lo hi,_::_,_=>.sub r q k lo hi
termination_by structural _ f _=>f
def T.locd:T→List Nat→Bool
 |_,[]=>iJ
 |.sl _ _,_::_|.ptr _,_::_=>iI
 |.agg xs,i::f|.tup xs,i::f=>match xs[i]? with
  |some x=>x.locd f
  |none=>iJ
 |.any,_::_|.lit _,_::_|.ro _,_::_|.same _ _,_::_|.addr _ _,_::_|.sub _ _ _ _ _,_::_=>iJ
termination_by structural _ f=>f
abbrev rp(f p:List Nat):List Nat:=f.reverse++p
theorem zBG(i:Nat)(f p:List Nat):rp (i::f) p=rp f (i::p):=by simp[rp]
section
variable {St:Stb}{G:Gh}{w:World}{s:Nat}
theorem kA:(xs:List T)→ ∀(p:List Nat)(i0 b o k i:Nat)(x:T),RL St G w s xs p i0 b o k→xs[i]? =iG x→
  Loc G w s x ((i0+i)::p) b (o+i*k)∧x.size=k∧R St G w s x ((i0+i)::p)
 | [],_,_,_,_,_,_,_,_,h=>by simp at h
 |y::ys,p,i0,b,o,k,i,x,hr,h=>by
  simp only[RL]at hr;cases i with
  |zero=>
   grind
  |succ i=>
   have:=kA ys p (i0+1) b (o+k) k i x hr.2.2 (by grind)
   grind
theorem zBc:(xs:List T)→ ∀(p:List Nat)(j i:Nat)(x:T),RF St G w s xs p j→xs[i]? =iG x→R St G w s x ((j+i)::p)
 | [],_,_,_,_,_,h=>by simp at h
 |y::ys,p,j,i,x,hr,h=>by
  simp only[RF]at hr;cases i with
  |zero=>grind
  |succ i=>
   have:=zBc ys p (j+1) i x hr.2 (by grind)
   grind
theorem zLs:(xs:List T)→ ∀(p:List Nat)(j b o i:Nat)(x:T),vM G w s xs p j b o→xs[i]? =iG x→
  ∃o',Loc G w s x ((j+i)::p) b o'∧o≤o'∧o'+x.size≤o+T.sizes xs
 | [],_,_,_,_,_,_,_,h=>by simp at h
 |y::ys,p,j,b,o,i,x,hr,h=>by
  simp only[vM]at hr;cases i with
  |zero=>grind[T.sizes]
  |succ i=>
   obtain⟨o',h1,h2,h3⟩:=zLs ys p (j+1) b (o+y.size) i x hr.2 (by grind)
   grind[T.sizes]
def At(G:Gh)(w:World)(s:Nat)(t:T)(p:List Nat):Prop:=
 ∃b o cs e,Loc G w s t p b o∧w.heap[b]? =iG (.cells cs e (0,0))∧o+t.size≤cs.size
theorem At.field{xs:List T}{p:List Nat}(h:At G w s (.agg xs) p){i:Nat}{x:T}(hx:xs[i]? =iG x):At G w s x (i::p):=by obtain⟨b,o,cs,e,hl,hh,hs⟩:=h;simp only[Loc]at hl;obtain⟨o',h1,h2,h3⟩:=zLs xs p 0 b o i x hl.2 hx;simp only[T.size]at hs;exact⟨b,o',cs,e,by grind,hh,by omega⟩
theorem zDf{k:Nat}{xs:List T}{p:List Nat}(h:R St G w s (.sl k xs) p){i:Nat}{x:T}(hx:xs[i]? =iG x):
  At G w s x (i::p)∧R St G w s x (i::p):=by
 simp only[R]at h;have hi:=(Js.1 hx).1;rcases h with⟨rfl,_⟩|⟨b,cap,cs,e,h1,h2,h3,h4,h5,h6,h7,h8⟩
 ·simp at hx
 ·obtain⟨a1,a2,a3⟩:=kA xs p 0 b 0 k i x h8 hx
  simp only[Jc]at a1 a3;refine⟨⟨b,i*k,cs,e,a1,h2,?_⟩,a3⟩;rw[a2,←K1];exact Hb (Kb _ (by omega)) h5
theorem zBp{t:T}{p:List Nat}(h:R St G w s (.ptr t) p):At G w s t (0::p)∧R St G w s t (0::p):=by simp only[R]at h;obtain⟨b,cs,e,h1,h2,h3,h6,h4,h5⟩:=h;exact⟨⟨b,0,cs,e,h4,h2,by omega⟩,h5⟩
theorem zA7:(f:List Nat)→ ∀(t u:T)(p:List Nat),At G w s t p→R St G w s t p→t.get f=iG u→At G w s u (rp f p)∧R St G w s u (rp f p)
 | [],t,u,p,ha,h,hg=>by simp[T.get]at hg;grind
 |i::f,t,u,p,ha,h,hg=>by
  rw[zBG];cases t with
  |sl k xs=>
   simp only[T.get]at hg;cases hx:xs[i]? with
   |none=>grind
   |some x=>rw[hx]at hg;exact zA7 f x u _ (zDf h hx).1 (zDf h hx).2 hg
  |ptr t=>
   simp only[T.get]at hg;split at hg
   ·rename_i hi;subst hi;exact zA7 f t u _ (zBp h).1 (zBp h).2 hg
   ·cases hg
  |agg xs=>
   simp only[T.get]at hg;cases hx:xs[i]? with
   |none=>grind
   |some x=>rw[hx]at hg;exact zA7 f x u _ (ha.field hx) (by simp only[R]at h;simpa using zBc xs p 0 i x h hx) hg
  |tup xs=>obtain⟨b,o,cs,e,hl,_⟩:=ha;simp only[Loc]at hl
  |_=>grind[T.get]
theorem zAN:(f:List Nat)→ ∀(t u:T)(p:List Nat),R St G w s t p→t.get f=iG u→R St G w s u (rp f p)∧(t.locd f=iI→At G w s u (rp f p))
 | [],t,u,p,h,hg=>by simp[T.get]at hg;subst hg;simpa[rp,T.locd]using h
 |i::f,t,u,p,h,hg=>by
  rw[zBG];cases t with
  |sl k xs=>
   simp only[T.get]at hg;cases hx:xs[i]? with
   |none=>grind
   |some x=>rw[hx]at hg;exact⟨(zA7 f x u _ (zDf h hx).1 (zDf h hx).2 hg).2,fun _=>(zA7 f x u _ (zDf h hx).1 (zDf h hx).2 hg).1⟩
  |ptr t=>
   simp only[T.get]at hg;split at hg
   ·rename_i hi;subst hi;exact⟨(zA7 f t u _ (zBp h).1 (zBp h).2 hg).2,fun _=>(zA7 f t u _ (zBp h).1 (zBp h).2 hg).1⟩
   ·cases hg
  |agg xs=>
   simp only[T.get,T.locd]at hg ⊢
   cases hx:xs[i]? with
   |none=>grind
   |some x=>rw[hx]at hg;exact zAN f x u _ (by simp only[R]at h;simpa using zBc xs p 0 i x h hx) hg
  |tup xs=>
   simp only[T.get,T.locd]at hg ⊢
   cases hx:xs[i]? with
   |none=>grind
   |some x=>rw[hx]at hg;exact zAN f x u _ (by simp only[R]at h;simpa using zBc xs p 0 i x h hx) hg
  |_=>grind[T.get]
end
structure Upd (G:Gh) (w:World) (G':Gh) (w':World) (s:Nat) (tgt:List Nat):Prop where
 hd:∀p,¬tgt<:+p→G'.hd s p=G.hd s p
 ad:∀p,¬tgt<:+p→G'.ad s p=G.ad s p
 lb:∀b o f p,G.lb b o=iG (f,s,p)→ ¬tgt<:+p→G'.lb b o=iG (f,s,p)∧yS w' b o=yS w b o
 ow:∀b p,G.ow b=iG (s,p)→ ¬tgt<:+p→G'.ow b=iG (s,p)
 blk:Blk w w'
section
variable {St:Stb}{G:Gh}{w:World}{G':Gh}{w':World}{s:Nat}{tgt:List Nat}
theorem Upd.moves(h:Upd G w G' w' s tgt){p:List Nat}(hp:∀z,¬tgt<:+z++p):zJk G w G' w' s p s p where
 hd z:=h.hd _ (hp z)
 ad z _:=h.ad _ (hp z)
 lb b o f z _ _ hl:=h.lb b o f _ hl (hp z)
 ow b z _ hl:=h.ow b _ hl (hp z)
 sp b o _ hl:=h.lb b o iI p hl (hp [])
 ow0 b hl:=h.ow b p hl (hp [])
 blk:=h.blk
mutual
theorem zE4(hm:Upd G w G' w' s tgt):(t:T)→ ∀(p:List Nat)(b o:Nat),(∀z,¬tgt<:+z++p)→Loc G w s t p b o→Loc G' w' s t p b o
 |.agg xs,p,b,o,hz,h=>by
  simp only[Loc]at h ⊢
  exact⟨(hm.ad p (hz [])).trans h.1,zLt hm xs p 0 b o hz h.2⟩
 |.any,p,b,o,hz,h|.lit _,p,b,o,hz,h|.ro _,p,b,o,hz,h|.same _ _,p,b,o,hz,h|.addr _ _,p,b,o,hz,h|.sub _ _ _ _ _,p,b,o,hz,h|.sl _ _,p,b,o,hz,h|.ptr _,p,b,o,hz,h=>by
  simp only[Loc]at h ⊢
  obtain⟨h1,h2,h3⟩:=h;have hl:=hm.lb b o iJ p h2 (hz []);exact⟨(hm.ad p (hz [])).trans h1,hl.1,by rw[hl.2,h3,hm.hd p (hz [])]⟩
 |.tup _,_,_,_,_,h=>by simp only[Loc]at h
theorem zLt(hm:Upd G w G' w' s tgt):(xs:List T)→ ∀(p:List Nat)(j b o:Nat),(∀z,¬tgt<:+z++p)→vM G w s xs p j b o→vM G' w' s xs p j b o
 | [],_,_,_,_,_,_=>by simp only[vM]
 |x::xs,p,j,b,o,hz,h=>by
  simp only[vM]at h ⊢
  exact⟨zE4 hm x (j::p) b o (fun z=>by have:=hz (z++[j]);grind) h.1,zLt hm xs p (j+1) b _ hz h.2⟩
end
theorem zLu(hm:Upd G w G' w' s tgt)(t u:T)(p:List Nat)(b o:Nat)(ht:∀xs,t≠.agg xs)(hu:∀xs,u≠.agg xs)(tw:∀xs,u≠.tup xs)(hz:¬tgt<:+p)(h:Loc G w s t p b o):Loc G' w' s u p b o:=by
 have h3:G.ad s p=⟨b,o,iH⟩∧G.lb b o=iG (iJ,s,p)∧yS w b o=iG (G.hd s p):=by
  cases t with
  |agg xs=>grind
  |tup xs=>simp only[Loc]at h
  |_=>simpa only[Loc]using h
 obtain⟨h1,h2,h3⟩:=h3;have hl:=hm.lb b o iJ p h2 hz;have h4:G'.ad s p=⟨b,o,iH⟩∧G'.lb b o=iG (iJ,s,p)∧yS w' b o=iG (G'.hd s p):=⟨(hm.ad p hz).trans h1,hl.1,by rw[hl.2,h3,hm.hd p hz]⟩;cases u with
 |agg xs=>grind
 |tup xs=>grind
 |_=>simpa only[Loc]using h4
theorem kB{f p:List Nat}{i i':Nat}(hi:i'≠i)(z:List Nat):¬f.reverse++(i::p)<:+z++(i'::p):=by
 rintro⟨y,hy⟩
 rw[←Jf]at hy;have:=List.append_inj_right' hy rfl
 grind
theorem kO{f p:List Nat}{i:Nat}:¬f.reverse++(i::p)<:+p:=by
 intro h;have:=h.length_le
 grind
theorem zJm:(xs:List T)→ ∀(i:Nat)(x y:T),xs[i]? =iG x→y.size=x.size→T.sizes (xs.set i y)=T.sizes xs
 | [],_,_,_,h,_=>by simp at h
 |z::zs,i,x,y,h,hs=>by
  cases i with
  |zero=>grind[T.sizes]
  |succ i=>simp only[Lb,T.sizes,zJm zs i x y (by grind) hs]
theorem zE5:(f:List Nat)→ ∀(t u u0:T),t.get f=iG u0→u.size=u0.size→(t.set f u).size=t.size
 | [],t,u,u0,h,hs=>by grind[T.get,T.set]
 |i::f,t,u,u0,h,hs=>by
  cases t with
  |sl k xs=>grind[T.set,T.size]
  |tup xs=>grind[T.set,T.size]
  |agg xs=>
   simp only[T.get]at h;cases hx:xs[i]? with
   |none=>grind
   |some x=>
    rw[hx]at h;simp only[T.set,hx,T.size];exact zJm xs i x _ hx (zE5 f x u u0 h hs)
  |ptr t=>grind[T.set,T.size]
  |_=>rfl
theorem zLv(hm:Upd G w G' w' s tgt):(xs:List T)→ ∀(p:List Nat)(j b o i:Nat)(x y:T),vM G w s xs p j b o→xs[i]? =iG x→y.size=x.size→
  (∀i',i'≠j+i→ ∀z,¬tgt<:+z++(i'::p))→(∀o',Loc G w s x ((j+i)::p) b o'→Loc G' w' s y ((j+i)::p) b o')→vM G' w' s (xs.set i y) p j b o
 | [],_,_,_,_,_,_,_,_,h,_,_,_=>by simp at h
 |z::zs,p,j,b,o,i,x,y,hl,h,hs,hz,hy=>by
  simp only[vM]at hl;cases i with
  |zero=>
   simp at h;subst h;simp only[H5,vM,hs];exact⟨by grind,LocF_upd' hm zs p (j+1) b _ (by grind) hl.2⟩
  |succ i=>
   simp only[Lb,vM];refine⟨by grind[zE4],zLv hm zs p (j+1) b _ i x y hl.2 (by grind) hs (by grind) ?_⟩
   grind
where LocF_upd' (hm:Upd G w G' w' s tgt):(xs:List T)→ ∀(p:List Nat)(j b o:Nat),(∀i',j≤i'→ ∀z,¬tgt<:+z++(i'::p))→vM G w s xs p j b o→vM G' w' s xs p j b o
 | [],_,_,_,_,_,_=>by simp only[vM]
 |x::xs,p,j,b,o,hz,h=>by
  simp only[vM]at h ⊢
  exact⟨zE4 hm x (j::p) b o (by grind) h.1,LocF_upd' hm xs p (j+1) b _ (by grind) h.2⟩
theorem zKc:(f:List Nat)→ ∀(t u u0:T)(p:List Nat)(b o:Nat),Upd G w G' w' s (rp f p)→Loc G w s t p b o→t.get f=iG u0→u.size=u0.size→
  (∀o',Loc G w s u0 (rp f p) b o'→Loc G' w' s u (rp f p) b o')→Loc G' w' s (t.set f u) p b o
 | [],t,u,u0,p,b,o,hm,hl,hg,hs,hu=>by simp[T.get]at hg;subst hg;simpa[T.set,rp]using hu o (by grind)
 |i::f,t,u,u0,p,b,o,hm,hl,hg,hs,hu=>by
  have gE:=hm;rw[zBG]at gE;cases t with
  |sl k xs=>
   have:∃ys,(T.sl k xs).set (i::f) u=.sl k ys:=by simp only[T.set];grind
   obtain⟨ys,hy⟩:=this;rw[hy];exact zLu gE (.sl k xs) (.sl k ys) p b o (by simp) (by simp) (by simp) kO hl
  |ptr t=>
   have:∃ys,(T.ptr t).set (i::f) u=.ptr ys:=by simp only[T.set];grind
   obtain⟨ys,hy⟩:=this;rw[hy];exact zLu gE (.ptr t) (.ptr ys) p b o (by simp) (by simp) (by simp) kO hl
  |agg xs=>
   simp only[T.get]at hg;cases hx:xs[i]? with
   |none=>grind
   |some x=>
    rw[hx]at hg;simp only[T.set,hx];simp only[Loc]at hl ⊢
    refine⟨(gE.ad p kO).trans hl.1,zLv gE xs p 0 b o i x _ hl.2 hx (zE5 f x u u0 hg hs) (by grind[kB]) ?_⟩;intro o' ho';simp only[Jc]at ho' ⊢
    exact zKc f x u u0 (i::p) b o' gE ho' hg hs (by grind)
  |tup xs=>simp only[Loc]at hl
  |_=>grind[T.get]
end
end Go.Ab

namespace Go.Ab
open Go
section
variable {St:Stb}{G:Gh}{w:World}{G':Gh}{w':World}{s:Nat}{tgt:List Nat}
theorem zPe(hm:Upd G w G' w' s tgt)(t:T)(p:List Nat)(hz:∀z,¬tgt<:+z++p)(hk:xE (zAo G G') t)(h:R St G w s t p):R St G' w' s t p:=by simpa using zRW (hm.moves hz) t [] hk (by simpa using h)
theorem zRX(hm:Upd G w G' w' s tgt):(xs:List T)→ ∀(p:List Nat)(i b o k:Nat),(∀i',i≤i'→ ∀z,¬tgt<:+z++(i'::p))→wB (zAo G G') xs→RL St G w s xs p i b o k→RL St G' w' s xs p i b o k
 | [],_,_,_,_,_,_,_,_=>by simp only[RL]
 |x::xs,p,i,b,o,k,hz,hk,h=>by
  simp only[RL,wB]at h hk ⊢
  exact⟨⟨zE4 hm x (i::p) b o (hz i (Jh _)) h.1.1,h.1.2⟩,zPe hm x (i::p) (hz i (Jh _)) hk.1 h.2.1,
   zRX hm xs p (i+1) b _ k (fun i' eI=>hz i' (by omega)) hk.2 h.2.2⟩
theorem zRY(hm:Upd G w G' w' s tgt):(xs:List T)→ ∀(p:List Nat)(i0 b o k i:Nat)(x y:T),RL St G w s xs p i0 b o k→xs[i]? =iG x→y.size=x.size→wB (zAo G G') xs→
  (∀i',i'≠i0+i→ ∀z,¬tgt<:+z++(i'::p))→(∀o',Loc G w s x ((i0+i)::p) b o'→Loc G' w' s y ((i0+i)::p) b o')→R St G' w' s y ((i0+i)::p)→
  RL St G' w' s (xs.set i y) p i0 b o k
 | [],_,_,_,_,_,_,_,_,_,h,_,_,_,_,_=>by simp at h
 |z::zs,p,i0,b,o,k,i,x,y,hr,h,hs,hk,hz,hl,hy=>by
  simp only[RL,wB]at hr hk;cases i with
  |zero=>
   simp at h;subst h;simp only[H5,RL];exact⟨⟨by simpa using hl o (by simpa using hr.1.1),by omega⟩,by simpa using hy,zRX hm zs p (i0+1) b _ k (fun i' eI=>hz i' (by omega)) hk.2 hr.2.2⟩
  |succ i=>
   simp only[Lb,RL];rw[show i0+(i+1)=i0+1+i from by omega]at hl hy hz;exact⟨⟨zE4 hm z _ b o (hz i0 (by omega)) hr.1.1,hr.1.2⟩,zPe hm z _ (hz i0 (by omega)) hk.1 hr.2.1,zRY hm zs p (i0+1) b _ k i x y hr.2.2 (by simpa using h) hs hk.2 hz hl hy⟩
theorem zRZ(hm:Upd G w G' w' s tgt):(xs:List T)→ ∀(p:List Nat)(i:Nat),(∀i',i≤i'→ ∀z,¬tgt<:+z++(i'::p))→wB (zAo G G') xs→RF St G w s xs p i→RF St G' w' s xs p i
 | [],_,_,_,_,_=>by simp only[RF]
 |x::xs,p,i,hz,hk,h=>by
  simp only[RF,wB]at h hk ⊢
  exact⟨zPe hm x (i::p) (hz i (Jh _)) hk.1 h.1,zRZ hm xs p (i+1) (fun i' eI=>hz i' (by omega)) hk.2 h.2⟩
theorem zNE(hm:Upd G w G' w' s tgt):(xs:List T)→ ∀(p:List Nat)(i0 i:Nat)(x y:T),RF St G w s xs p i0→xs[i]? =iG x→wB (zAo G G') xs→
  (∀i',i'≠i0+i→ ∀z,¬tgt<:+z++(i'::p))→R St G' w' s y ((i0+i)::p)→
  RF St G' w' s (xs.set i y) p i0
 | [],_,_,_,_,_,_,h,_,_,_=>by simp at h
 |z::zs,p,i0,i,x,y,hr,h,hk,hz,hy=>by
  simp only[RF,wB]at hr hk;cases i with
  |zero=>
   simp at h;subst h;simp only[H5,RF];exact⟨by simpa using hy,zRZ hm zs p (i0+1) (fun i' eI=>hz i' (by omega)) hk.2 hr.2⟩
  |succ i=>
   simp only[Lb,RF];rw[show i0+(i+1)=i0+1+i from by omega]at hy hz;exact⟨zPe hm z _ (hz i0 (by omega)) hk.1 hr.1,zNE hm zs p (i0+1) i x y hr.2 (by simpa using h) hk.2 hz hy⟩
theorem uO{φ:Nat→List Nat→Prop}:(xs:List T)→wB φ xs→ ∀(i:Nat)(x:T),xs[i]? =iG x→xE φ x
 | [],_,_,_,h=>by simp at h
 |y::ys,hk,i,x,h=>by
  simp only[wB]at hk;cases i with
  |zero=>simp at h;subst h;exact hk.1
  |succ i=>exact uO ys hk.2 i x (by simpa using h)
theorem zGp:(f:List Nat)→ ∀(t u u0:T)(p:List Nat),Upd G w G' w' s (rp f p)→R St G w s t p→t.get f=iG u0→u.size=u0.size→xE (zAo G G') t→
  (∀b o,Loc G w s u0 (rp f p) b o→Loc G' w' s u (rp f p) b o)→R St G' w' s u (rp f p)→R St G' w' s (t.set f u) p
 | [],t,u,u0,p,hm,hr,hg,hs,hk,hl,hu=>by simpa[T.set,rp]using hu
 |i::f,t,u,u0,p,hm,hr,hg,hs,hk,hl,hu=>by
  have gE:=hm;rw[zBG]at gE hl hu;cases t with
  |sl k xs=>
   simp only[T.get]at hg;cases hx:xs[i]? with
   |none=>simp[hx]at hg
   |some x=>
    rw[hx]at hg;simp only[T.set,hx];simp only[R,xE]at hr hk ⊢
    rcases hr with⟨rfl,_⟩|⟨b,cap,cs,e,h1,h2,h3,h4,h5,h6,h7,h8⟩
    ·simp at hx
    ·obtain⟨cs',cD,gy⟩:=gE.blk b cs e h2
     refine .inr ⟨b,cap,cs',e,by rw[gE.hd p kO,Qe];exact h1,cD,by rw[Qe];exact h3,h4,by omega,gE.ow b p h6 kO,?_,?_⟩
     ·intro o ho ho2
      rw[Qe]at ho;exact(gE.lb b o iI p (h7 o ho (by omega)) kO).1
     ·have te:=kA xs p 0 b 0 k i x h8 hx
      simp only[Jc]at te;refine zRY gE xs p 0 b 0 k i x _ h8 hx (zE5 f x u u0 hg hs) hk (fun i' eI z=>kB (by omega) z) ?_ ?_
      ·intro o' ho'
       simp only[Jc]at ho' ⊢
       exact zKc f x u u0 (i::p) b o' gE ho' hg hs (fun o''=>hl b o'')
      ·simp only[Jc]
       exact zGp f x u u0 (i::p) gE te.2.2 hg hs (uO xs hk i x hx) hl hu
  |ptr t=>
   simp only[T.get]at hg;split at hg
   ·rename_i hi;subst hi
    simp only[T.set,if_true];simp only[R,xE]at hr hk ⊢
    obtain⟨b,cs,e,h1,h2,h3,h6,h4,h5⟩:=hr;obtain⟨cs',cD,gy⟩:=gE.blk b cs e h2;refine⟨b,cs',e,by rw[gE.hd p kO];exact h1,cD,by rw[zE5 f t u u0 hg hs];omega,gE.ow b p h6 kO,zKc f t u u0 (0::p) b 0 gE h4 hg hs (fun o''=>hl b o''),zGp f t u u0 (0::p) gE h5 hg hs hk hl hu⟩
   ·cases hg
  |agg xs=>
   simp only[T.get]at hg;cases hx:xs[i]? with
   |none=>simp[hx]at hg
   |some x=>
    rw[hx]at hg;simp only[T.set,hx];simp only[R,xE]at hr hk ⊢
    refine zNE gE xs p 0 i x _ hr hx hk (fun i' eI z=>kB (by omega) z) ?_;simp only[Jc];exact zGp f x u u0 (i::p) gE (by simpa using zBc xs p 0 i x hr hx) hg hs (uO xs hk i x hx) hl hu
  |tup xs=>
   simp only[T.get]at hg;cases hx:xs[i]? with
   |none=>simp[hx]at hg
   |some x=>
    rw[hx]at hg;simp only[T.set,hx];simp only[R,xE]at hr hk ⊢
    refine zNE gE xs p 0 i x _ hr hx hk (fun i' eI z=>kB (by omega) z) ?_;simp only[Jc];exact zGp f x u u0 (i::p) gE (by simpa using zBc xs p 0 i x hr hx) hg hs (uO xs hk i x hx) hl hu
  |_=>simp[T.get]at hg
end
end Go.Ab

namespace Go.Ab
open Go
mutual
def vals(G:Gh)(s:Nat):T→List Nat→List Value
 |.agg xs,p=>yJ G s xs p 0
 |.any,p|.lit _,p|.ro _,p|.same _ _,p|.addr _ _,p|.sub _ _ _ _ _,p|.sl _ _,p|.ptr _,p|.tup _,p=>[G.hd s p]
def yJ(G:Gh)(s:Nat):List T→List Nat→Nat→List Value
 | [],_,_=>[]
 |x::xs,p,j=>vals G s x (j::p)++yJ G s xs p (j+1)
end
def sQ(G:Gh)(s:Nat)(t:T)(p:List Nat):Value:=
 match t with
 |.agg xs=>.agg (yJ G s xs p 0).toArray
 |_=>G.hd s p
def jV(G:Gh)(s:Nat):List T→List Nat→Nat→List Value
 | [],_,_=>[]
 |x::xs,p,j=>sQ G s x (j::p)::jV G s xs p (j+1)
def mkV(G:Gh)(s:Nat)(t:T)(p:List Nat):Value:=
 match t with
 |.agg xs=>.agg (yJ G s xs p 0).toArray
 |.tup xs=>.tuple (jV G s xs p 0).toArray
 |_=>G.hd s p
mutual
def Top:T→Prop
 |.sl _ xs=>xW xs
 |.ptr t=>yE t
 |.agg xs|.tup xs=>vU xs
 |.any|.lit _|.ro _|.same _ _|.addr _ _|.sub _ _ _ _ _=>True
def vU:List T→Prop
 | []=>True
 |x::xs=>Top x∧vU xs
end
mutual
theorem Top.of_clean:(t:T)→yE t→Top t
 |.sl _ xs,h=>by simpa only[Top,yE,xE]using h
 |.ptr t,h=>by simpa only[Top,yE,xE]using h
 |.agg xs,h|.tup xs,h=>by simp only[Top];exact vU.of_clean xs (by simpa only[yE,xE]using h)
 |.any,_|.lit _,_|.ro _,_|.same _ _,_|.addr _ _,_|.sub _ _ _ _ _,_=>by simp only[Top]
theorem vU.of_clean:(xs:List T)→xW xs→vU xs
 | [],_=>by simp only[vU]
 |x::xs,h=>by simp only[vU];exact⟨Top.of_clean x h.1,vU.of_clean xs h.2⟩
end
abbrev Chg:=List (Nat×Nat)
def Off(chg:Chg)(s:Nat)(p:List Nat):Prop:=∀n,(s,n)∈chg→p.length<n
def zAp(chg:Chg)(r:Nat)(p:List Nat):Bool:=chg.all fun c=>c.1 != r||decide (p.length<c.2)
theorem zQA{chg:Chg}{r:Nat}{p:List Nat}(h:zAp chg r p=iI):Off chg r p:=by
 intro n hn;have:=Ki.1 h _ hn
 grind
mutual
def T.okB(chg:Chg):T→Bool
 |.same r p|.addr r p|.sub r p _ _ _=>zAp chg r p
 |.agg xs|.tup xs=>zLw chg xs
 |.any|.lit _|.ro _|.sl _ _|.ptr _=>iI
def zLw(chg:Chg):List T→Bool
 | []=>iI
 |x::xs=>x.okB chg&&zLw chg xs
end
mutual
theorem zAs{chg:Chg}:(t:T)→Top t→t.okB chg=iI→xE (Off chg) t
 |.same r p,_,h|.addr r p,_,h|.sub r p _ _ _,_,h=>by simp only[T.okB]at h;simp only[xE];exact zQA h
 |.agg xs,ht,h|.tup xs,ht,h=>by simp only[T.okB,Top]at h ht;simp only[xE];exact zHe xs ht h
 |.sl _ xs,ht,_=>by simp only[Top]at ht;simp only[xE];grind[wB.mono]
 |.ptr t,ht,_=>by simp only[Top]at ht;simp only[xE];grind[xE.mono]
 |.any,_,_|.lit _,_,_|.ro _,_,_=>by simp only[xE]
theorem zHe{chg:Chg}:(xs:List T)→vU xs→zLw chg xs=iI→wB (Off chg) xs
 | [],_,_=>by simp only[wB]
 |x::xs,ht,h=>by simp only[zLw,vU,J4]at h ht;simp only[wB];exact⟨zAs x ht.1 h.1,zHe xs ht.2 h.2⟩
end
abbrev Env:=Nat→Option T
abbrev Wr:=List (Nat×Option T)
def Wr.find(wr:Wr)(s:Nat):Option (Option T):=
 match wr with
 | []=>iH
 |(k,x)::r=>if k=s then iG x else Wr.find r s
def Env.app(E:Env)(wr:Wr)(chg:Chg):Env:=fun s=>
 match wr.find s with
 |some x=>x
 |none=>match E s with
  |some t=>if t.okB chg then iG t else iH
  |none=>iH
structure Ctx where
 St:Stb
 W:Nat→Prop
 w0:World
 N:Nat
def zCw(Γ:Ctx)(w:World)(b:Nat):Prop:=b<w.heap.size∧(Γ.w0.heap.size≤b∨Γ.W b)∧Γ.St b=iH
structure zVL (w w':World):Prop where
 blk:Blk w w'
 os:w'.os=w.os
 out:w'.output=w.output
structure Mem (Γ:Ctx) (G:Gh) (w:World):Prop where
 one:∀s p,(G.hd s p).oneCell'=iI
 lb:∀b o l,G.lb b o=iG l→zCw Γ w b
 ow:∀b l,G.ow b=iG l→zCw Γ w b
 st:∀b x,Γ.St b=iG x→w.heap[b]? =iG x
 fr:∀b,b<Γ.w0.heap.size→ ¬Γ.W b→w.heap[b]? =Γ.w0.heap[b]?
 sz:Γ.w0.heap.size≤w.heap.size
 bk:zVL Γ.w0 w
theorem Blk.trans{w w' w'':World}(h:Blk w w')(h':Blk w' w''):Blk w w'':=fun b cs e hb=>by
 obtain⟨cs',h1,h2⟩:=h b cs e hb;obtain⟨cs'',h3,h4⟩:=h' b cs' e h1
 grind
theorem zVL.trans{w w' w'':World}(h:zVL w w')(h':Blk w' w'')(ho:w''.os=w'.os)(hq:w''.output=w'.output):zVL w w'':=⟨h.blk.trans h',ho.trans h.os,hq.trans h.out⟩
def Ent(Γ:Ctx)(G:Gh)(w:World)(v:Option Value)(s:Nat)(t:T):Prop:=v=iG (mkV G s t [])∧R Γ.St G w s t []∧Top t
structure Rep (Γ:Ctx) (E:Env) (G:Gh) (tmps:Array Value) (w:World):Prop where
 size:tmps.size=Γ.N
 ent:∀s t,E s=iG t→Ent Γ G w tmps[s]? s t
 mem:Mem Γ G w
def Sim(Γ:Ctx)(E:Env)(a:Act)(w:World):Prop:=a.defers=[]∧ ∃G,Rep Γ E G a.tmps w
structure zD2 (S S':Stb) (W:Nat→Prop) (n:Nat):Prop where
 le:∀b x,S b=iG x→S' b=iG x
 nw:∀b,S b=iH→S' b≠iH→n≤b∨W b
theorem zD2.refl{S:Stb}{W:Nat→Prop}{n:Nat}:zD2 S S W n:=⟨fun _ _ h=>h,by grind⟩
theorem zD2.trans{S S' S'':Stb}{W:Nat→Prop}{n:Nat}(h:zD2 S S' W n)(h':zD2 S' S'' W n):zD2 S S'' W n:=
 ⟨fun b x hb=>h'.le b x (h.le b x hb),fun b hb f7=>by
  cases hs:S' b with
  |none=>exact h'.nw b hs f7
  |some x=>exact h.nw b hb (by grind)⟩
abbrev Ctx.at(Γ:Ctx)(S:Stb):Ctx:={ Γ with St:=S }
def jJ(Γ:Ctx)(E:Env)(a:Act)(w:World):Prop:=∃S,zD2 Γ.St S Γ.W Γ.w0.heap.size∧Sim (Γ.at S) E a w
theorem jJ.of{Γ:Ctx}{E:Env}{a:Act}{w:World}(h:Sim Γ E a w):jJ Γ E a w:=⟨Γ.St,.refl,h⟩
theorem jJ.up{Γ:Ctx}{E:Env}{a:Act}{w:World}{S:Stb}(hS:zD2 Γ.St S Γ.W Γ.w0.heap.size)(h:jJ (Γ.at S) E a w):jJ Γ E a w:=by obtain⟨S',h1,h2⟩:=h;exact⟨S',hS.trans h1,h2⟩
structure jB (chg:Chg) (G:Gh) (w:World) (G':Gh) (w':World):Prop where
 hd:∀s p,Off chg s p→G'.hd s p=G.hd s p
 ad:∀s p,Off chg s p→G'.ad s p=G.ad s p
 lb:∀b o f s p,(∃y,G.ow b=iG (s,y))→G.lb b o=iG (f,s,p)→(∀n,(s,n)∉chg)→G'.lb b o=iG (f,s,p)∧yS w' b o=yS w b o
 ow:∀b s p,G.ow b=iG (s,p)→(∀n,(s,n)∉chg)→G'.ow b=iG (s,p)
 blk:Blk w w'
theorem Off.of_not{chg:Chg}{s:Nat}(h:∀n,(s,n)∉chg)(p:List Nat):Off chg s p:=fun n hn=>absurd hn (h n)
section
variable {Γ:Ctx}{G G':Gh}{w w':World}{s:Nat}{chg:Chg}
mutual
theorem zAO{s':Nat}:(t:T)→ ∀(p p':List Nat),(∀z,G'.hd s' (z++p')=G.hd s (z++p))→vals G' s' t p'=vals G s t p
 |.agg xs,p,p',h=>by simp only[vals];exact zE6 xs p p' 0 h
 |.any,p,p',h|.lit _,p,p',h|.ro _,p,p',h|.same _ _,p,p',h|.addr _ _,p,p',h|.sub _ _ _ _ _,p,p',h|.sl _ _,p,p',h|.ptr _,p,p',h|.tup _,p,p',h=>by simp only[vals];rw[show G'.hd s' p'=G.hd s p from by simpa using h []]
theorem zE6{s':Nat}:(xs:List T)→ ∀(p p':List Nat)(j:Nat),(∀z,G'.hd s' (z++p')=G.hd s (z++p))→yJ G' s' xs p' j=yJ G s xs p j
 | [],_,_,_,_=>by rfl
 |x::xs,p,p',j,h=>by simp only[yJ];rw[zAO x (j::p) (j::p') (fun z=>by have:=h (z++[j]);grind),zE6 xs p p' (j+1) h]
end
theorem zBH{s':Nat}(t:T)(p p':List Nat)(h:∀z,G'.hd s' (z++p')=G.hd s (z++p)):sQ G' s' t p'=sQ G s t p:=by
 unfold sQ;split
 ·grind[zE6]
 ·simpa using h []
theorem zPf{s':Nat}:(xs:List T)→ ∀(p p':List Nat)(j:Nat),(∀z,G'.hd s' (z++p')=G.hd s (z++p))→jV G' s' xs p' j=jV G s xs p j
 | [],_,_,_,_=>by rfl
 |x::xs,p,p',j,h=>by simp only[jV];rw[zBH x (j::p) (j::p') (fun z=>by have:=h (z++[j]);simpa using this),zPf xs p p' (j+1) h]
theorem zF1{s':Nat}(t:T)(p p':List Nat)(h:∀z,G'.hd s' (z++p')=G.hd s (z++p)):mkV G' s' t p'=mkV G s t p:=by
 unfold mkV;split
 ·grind[zE6]
 ·grind[zPf]
 ·simpa using h []
theorem jB.moves(hk:jB chg G w G' w')(hs:∀n,(s,n)∉chg)(p:List Nat):zJk G w G' w' s p s p where
 hd _:=hk.hd _ _ (.of_not hs _)
 ad _ _:=hk.ad _ _ (.of_not hs _)
 lb b o f _ _ hJ hl:=hk.lb b o f s _ hJ hl hs
 ow b _ _ hl:=hk.ow b s _ hl hs
 sp b o hJ hl:=hk.lb b o iI s _ hJ hl hs
 ow0 b hl:=hk.ow b s _ hl hs
 blk:=hk.blk
theorem jB.keepR(hk:jB chg G w G' w'){t:T}(h:xE (Off chg) t):xE (zAo G G') t:=
 xE.mono (fun r p hr=>⟨hk.hd r p hr,hk.ad r p hr⟩) t h
theorem Ent.keep(hk:jB chg G w G' w')(hs:∀n,(s,n)∉chg){v:Option Value}{t:T}(ht:t.okB chg=iI)(h:Ent Γ G w v s t):Ent Γ G' w' v s t:=by
 obtain⟨h1,h2,h3⟩:=h;refine⟨?_,?_,h3⟩
 ·rw[h1,zF1 t [] [] (fun z=>hk.hd _ _ (.of_not hs _))]
 ·simpa using zRW (hk.moves hs []) t [] (hk.keepR (zAs t h3 ht)) (by grind)
end
theorem vN{Γ:Ctx}{E:Env}{G G':Gh}{tmps tmps':Array Value}{w w':World}{wr:Wr}{chg:Chg}(h:Rep Γ E G tmps w)
  (gP:tmps'.size=tmps.size)(hk:jB chg G w G' w')(gr:Mem Γ G' w')
  (gI:∀s,wr.find s=iH→(∀n,(s,n)∉chg)∧tmps'[s]? =tmps[s]?)
  (eQ:∀s t,wr.find s=iG (iG t)→Ent Γ G' w' tmps'[s]? s t):Rep Γ (E.app wr chg) G' tmps' w' where
 size:=by rw[gP,h.size]
 mem:=gr
 ent s t hs:=by
  unfold Env.app at hs;cases hf:wr.find s with
  |some x=>
   grind
  |none=>
   rw[hf]at hs;simp at hs;cases he:E s with
   |none=>grind
   |some u=>
    simp[he]at hs;obtain⟨gB,rfl⟩:=hs;rw[(gI s hf).2];exact Ent.keep hk (gI s hf).1 gB (h.ent s u he)
end Go.Ab

namespace Go.Ab
open Go
mutual
def cpT(s:Nat):T→List Nat→T
 |.lit v,_=>.lit v
 |.ro t,_=>.ro t
 |.same r q,_=>.same r q
 |.addr r q,_=>.addr r q
 |.sub r q k lo hi,_=>.sub r q k lo hi
 |.agg xs,p=>.agg (cpF s xs p 0)
 |.any,p|.sl _ _,p|.ptr _,p|.tup _,p=>.same s p
def cpF(s:Nat):List T→List Nat→Nat→List T
 | [],_,_=>[]
 |x::xs,p,j=>cpT s x (j::p)::cpF s xs p (j+1)
end
mutual
theorem qX(s:Nat):(t:T)→ ∀p,Top (cpT s t p)
 |.agg xs,p=>by simp only[cpT,Top];exact zPg s xs p 0
 |.lit _,_|.ro _,_|.same _ _,_|.addr _ _,_|.sub _ _ _ _ _,_|.any,_|.sl _ _,_|.ptr _,_|.tup _,_=>by simp only[cpT,Top]
theorem zPg(s:Nat):(xs:List T)→ ∀p j,vU (cpF s xs p j)
 | [],_,_=>by simp only[cpF,vU]
 |x::xs,p,j=>by simp only[cpF,vU];exact⟨qX s x _,zPg s xs p _⟩
end
section
variable {St:Stb}{G G':Gh}{w w':World}{s d:Nat}
mutual
theorem zDS(hs:∀p,G'.hd s p=G.hd s p):(t:T)→ ∀(p p':List Nat),(∀z,G'.hd d (z++p')=G.hd s (z++p))→(∀xs,t≠.tup xs)→xE (zAo G G') (cpT s t p)→R St G w s t p→R St G' w' d (cpT s t p) p'
 |.lit _,p,p',hd,_,_,h=>by simp only[cpT,R]at h ⊢;rw[show G'.hd d p'=_ from by simpa using hd []];exact h
 |.ro _,p,p',hd,_,_,h=>by simp only[cpT,R]at h ⊢;rw[show G'.hd d p'=_ from by simpa using hd []];exact h
 |.same r q,p,p',hd,_,hk,h=>by simp only[cpT,R,xE]at h hk ⊢;rw[show G'.hd d p'=_ from by simpa using hd [],hk.1];exact h
 |.addr r q,p,p',hd,_,hk,h=>by simp only[cpT,R,xE]at h hk ⊢;rw[show G'.hd d p'=_ from by simpa using hd [],hk.2];exact h
 |.sub r q k lo hi,p,p',hd,_,hk,h=>by simp only[cpT,R,xE]at h hk ⊢;rw[show G'.hd d p'=_ from by simpa using hd [],hk.1];exact h
 |.any,p,p',hd,_,_,_|.sl _ _,p,p',hd,_,_,_|.ptr _,p,p',hd,_,_,_=>by simp only[cpT,R];rw[show G'.hd d p'=_ from by simpa using hd [],hs]
 |.tup xs,_,_,_,h,_,_=>absurd rfl (h xs)
 |.agg xs,p,p',hd,_,hk,h=>by simp only[cpT,R,xE]at h hk ⊢;exact zKd hs xs p p' 0 hd hk h
theorem zKd(hs:∀p,G'.hd s p=G.hd s p):(xs:List T)→ ∀(p p':List Nat)(j:Nat),(∀z,G'.hd d (z++p')=G.hd s (z++p))→wB (zAo G G') (cpF s xs p j)→RF St G w s xs p j→RF St G' w' d (cpF s xs p j) p' j
 | [],_,_,_,_,_,_=>by simp only[cpF,RF]
 |x::xs,p,p',j,hd,hk,h=>by
  simp only[cpF,RF,wB]at h hk ⊢
  refine⟨?_,zKd hs xs p p' (j+1) hd hk.2 h.2⟩
  by_cases hx:∃ys,x=.tup ys
  ·obtain⟨ys,rfl⟩:=hx
   simp only[cpT,R];rw[show G'.hd d (j::p')=_ from by simpa using hd [j],hs]
  ·exact zDS hs x (j::p) (j::p') (fun z=>by have:=hd (z++[j]);simpa using this) (fun ys e=>hx ⟨ys,e⟩) hk.1 h.1
end
mutual
theorem zQB:(t:T)→ ∀(p p':List Nat),(∀z,G'.hd d (z++p')=G.hd s (z++p))→vals G' d (cpT s t p) p'=vals G s t p
 |.agg xs,p,p',h=>by simp only[cpT,vals];exact zDT xs p p' 0 h
 |.any,p,p',h|.lit _,p,p',h|.ro _,p,p',h|.same _ _,p,p',h|.addr _ _,p,p',h|.sub _ _ _ _ _,p,p',h|.sl _ _,p,p',h|.ptr _,p,p',h|.tup _,p,p',h=>by simp only[cpT,vals];rw[show G'.hd d p'=G.hd s p from by simpa using h []]
theorem zDT:(xs:List T)→ ∀(p p':List Nat)(j:Nat),(∀z,G'.hd d (z++p')=G.hd s (z++p))→yJ G' d (cpF s xs p j) p' j=yJ G s xs p j
 | [],_,_,_,_=>by rfl
 |x::xs,p,p',j,h=>by simp only[cpF,yJ];rw[zQB x (j::p) (j::p') (fun z=>by have:=h (z++[j]);grind),zDT xs p p' (j+1) h]
end
theorem zA8(t:T)(p p':List Nat)(ht:∀xs,t≠.tup xs)(h:∀z,G'.hd d (z++p')=G.hd s (z++p)):mkV G' d (cpT s t p) p'=sQ G s t p:=by
 cases t with
 |agg xs=>grind[cpT,mkV,sQ,zDT]
 |tup xs=>grind
 |_=>simpa[cpT,mkV,sQ]using h []
end
theorem kV(G:Gh)(s:Nat)(t:T)(p:List Nat)(ht:∀xs,t≠.tup xs):mkV G s t p=sQ G s t p:=by
 cases t with
 |tup xs=>grind
 |_=>rfl
def Gh.put(G:Gh)(d:Nat)(f:List Nat→Value):Gh:={ G with hd:=fun s z=>if s=d then f z else G.hd s z }
theorem Gh.put_other(G:Gh){d s:Nat}(f:List Nat→Value)(p:List Nat)(h:s≠d):(G.put d f).hd s p=G.hd s p:=by simp[Gh.put,h]
theorem Gh.put_self(G:Gh)(d:Nat)(f:List Nat→Value)(p:List Nat):(G.put d f).hd d p=f p:=by simp[Gh.put]
theorem zYt{d s:Nat}{p:List Nat}(h:Off [(d,0)] s p):s≠d:=by
 rintro rfl
 exact absurd (h 0 (by simp)) (by simp)
theorem Gh.put_keep(G:Gh){w w':World}(hw:w'.heap=w.heap)(d:Nat)(f:List Nat→Value):jB [(d,0)] G w (G.put d f) w' where
 hd s p h:=G.put_other f p (zYt h)
 ad _ _ _:=rfl
 lb b o f' s p _ h _:=⟨h,by grind[yS,World.cell?]⟩
 ow b s p h _:=h
 blk b cs e h:=by grind
theorem Mem.put{Γ:Ctx}{G:Gh}{w w':World}(h:Mem Γ G w)(hw:w'.heap=w.heap)(d:Nat)(f:List Nat→Value)(hf:∀z,(f z).oneCell'=iI)(ho:w'.os=w.os:=by rfl)(hq:w'.output=w.output:=by rfl):Mem Γ (G.put d f) w' where
 one s p:=by unfold Gh.put;dsimp only;split;exact hf p;exact h.one s p
 lb b o l hl:=by have:=h.lb b o l hl;exact⟨by rw[hw];exact this.1,this.2⟩
 ow b l hl:=by have:=h.ow b l hl;exact⟨by rw[hw];exact this.1,this.2⟩
 st b x hx:=by rw[hw];exact h.st b x hx
 fr b h1 h2:=by rw[hw];exact h.fr b h1 h2
 sz:=by rw[hw];exact h.sz
 bk:=h.bk.trans (fun b cs e hb=>by grind) ho hq
theorem tY(d:Nat)(x:Option T)(s:Nat):Wr.find [(d,x)] s=if d=s then iG x else iH:=by rfl
theorem vQ{Γ:Ctx}{E:Env}{G:Gh}{tmps:Array Value}{w w':World}(h:Rep Γ E G tmps w)(hw:w'.heap=w.heap){d:Nat}(hd:d<Γ.N)
  (f:List Nat→Value)(hf:∀z,(f z).oneCell'=iI)(t:T)(v:Value)(hv:v=mkV (G.put d f) d t [])(hr:R Γ.St (G.put d f) w' d t [])(ht:Top t)(ho:w'.os=w.os:=by rfl)(hq:w'.output=w.output:=by rfl):
  Rep Γ (E.app [(d,iG t)] [(d,0)]) (G.put d f) (tmps.setIfInBounds d v) w':=by
 refine vN h (by simp) (G.put_keep hw d f) (h.mem.put hw d f hf ho hq) ?_ ?_
 ·grind[tY]
 ·intro s t' hs
  rw[tY]at hs;split at hs
  ·rename_i he
   subst he;simp at hs;subst hs;refine⟨?_,hr,ht⟩;rw[Jm];simp[h.size,hd,hv]
  ·cases hs
def wQ(P:Program)(Γ:Ctx)(o:Oper)(E E':Env):Prop:=
 ∀(a:Act)(w:World)(K:Act→World→Prop)(Q:Exit→Act→World→Prop),Sim Γ E a w→(∀a' w',jJ Γ E' a' w'→K a' w')→o.wp P a w K Q
def opT(E:Env):Operand→Option T
 |.tmp s=>E s
 |.const v=>if v.oneCell' then iG (.lit v)else iH
 |.func f=>iG (.lit (.func (.func f) #[] #[]))
 |.global _=>iH
def tG(x:Operand)(t:T):T:=match x with
 |.tmp s=>cpT s t []
 |_=>t
section
variable {P:Program}{Γ:Ctx}{E E':Env}{o:Oper}{d:Nat}
theorem wK{a:Act}{s:Nat}{v:Value}(h:a.tmps[s]? =iG v):a.eval (.tmp s)=v:=by simp[Act.eval,Kl,h]
theorem wQ.value(ho:o.dst=iG d)
  (h:∀(a:Act)(w:World)(G:Gh),Rep Γ E G a.tmps w→ ∃v w',(execOp a.eval o).run P w=.ok (.value v) w'∧ ∃G',Rep Γ E' G' (a.tmps.setIfInBounds d v) w'):wQ P Γ o E E':=by
 intro a w K Q ⟨gR,G,g9⟩ hK;obtain⟨v,w',gz,G',fN⟩:=h a w G g9;unfold Oper.wp;rw[gz,Oper.upon_value];refine hK _ _ ?_;rw[ho];exact .of ⟨gR,G',fN⟩
theorem wQ.skip(ho:o.dst=iH)
  (h:∀(a:Act)(w:World)(G:Gh),Rep Γ E G a.tmps w→ ∃w',(execOp a.eval o).run P w=.ok .skip w'∧ ∃G',Rep Γ E' G' a.tmps w'):wQ P Γ o E E':=by
 intro a w K Q ⟨gR,G,g9⟩ hK;obtain⟨w',gz,G',fN⟩:=h a w G g9;unfold Oper.wp;rw[gz,Oper.upon_skip];refine hK _ _ ?_;rw[ho];exact .of ⟨gR,G',fN⟩
theorem opd{G:Gh}{a:Act}{w:World}(g9:Rep Γ E G a.tmps w){x:Operand}{t:T}(hx:opT E x=iG t)(ht:∀xs,t≠.tup xs):
  ∃f:List Nat→Value,(∀z,(f z).oneCell'=iI)∧(∀d,(∀s,x=.tmp s→s≠d)→T.okB [(d,0)] (tG x t)=iI→
   a.eval x=mkV (G.put d f) d (tG x t) []∧R Γ.St (G.put d f) w d (tG x t) [])∧Top (tG x t):=by
 cases x with
 |tmp s=>
  obtain⟨h1,h2,h3⟩:=g9.ent s t hx;refine⟨fun z=>G.hd s z,fun z=>g9.mem.one s z,?_,qX s t []⟩;intro d gf gB;have cU:=gf s rfl;have hk:=G.put_keep (w:=w) (w':=w) rfl d (fun z=>G.hd s z);have hz:∀z,(G.put d (fun z=>G.hd s z)).hd d (z++[])=G.hd s (z++[]):=by grind[Gh.put_self]
  refine⟨?_,?_⟩
  ·grind[wK,tG,zA8,kV]
  ·exact zDS (fun p=>G.put_other _ p cU) t [] [] hz ht (hk.keepR (zAs _ (qX s t []) gB)) h2
 |const v=>
  simp only[opT]at hx;split at hx
  ·rename_i gw
   simp at hx;subst hx;exact⟨fun _=>v,fun _=>gw,fun d _ _=>⟨by simp[Act.eval,tG,mkV,Gh.put],by simp[tG,R,Gh.put]⟩,by simp[tG,Top]⟩
  ·cases hx
 |func f=>
  simp only[opT]at hx;simp at hx;subst hx;exact⟨fun _=>.func (.func f) #[] #[],fun _=>rfl,fun d _ _=>⟨by simp[Act.eval,tG,mkV,Gh.put],by simp[tG,R,Gh.put]⟩,by simp[tG,Top]⟩
 |global g=>cases hx
theorem zPh(x:Operand)(t:T)(ho:o.op=.move x∨o.op=.assign x)(gg:o.dst=iG d)(hd:d<Γ.N)(hx:opT E x=iG t)(ht:∀xs,t≠.tup xs)
  (gf:∀s,x=.tmp s→s≠d)(gB:T.okB [(d,0)] (tG x t)=iI):wQ P Γ o E (E.app [(d,iG (tG x t))] [(d,0)]):=by
 refine wQ.value gg fun a w G g9=>?_
 obtain⟨f,hf,h1,h2⟩:=opd g9 hx ht;obtain⟨h3,h4⟩:=h1 d gf gB;refine⟨a.eval x,w,?_,_,vQ g9 rfl hd f hf _ _ h3 h4 h2⟩;rcases ho with ho|ho<;>simp[execOp,ho]
theorem wL{G:Gh}{a:Act}{w:World}(g9:Rep Γ E G a.tmps w){x:Operand}{v:Value}(hx:opT E x=iG (.lit v)):a.eval x=v∧v.oneCell'=iI:=by
 cases x with
 |tmp s=>
  obtain⟨h1,h2,_⟩:=g9.ent s _ hx;simp only[R]at h2;refine⟨?_,by rw[←h2];exact g9.mem.one s []⟩
  grind[wK,mkV]
 |const u=>
  simp only[opT]at hx;split at hx
  ·simp at hx;subst hx;exact⟨rfl,by assumption⟩
  ·cases hx
 |func f=>simp only[opT]at hx;simp at hx;subst hx;exact⟨rfl,rfl⟩
 |global g=>cases hx
theorem zA9(v:Value)(hv:v.oneCell'=iI)(gg:o.dst=iG d)(hd:d<Γ.N)
  (h:∀(a:Act)(w:World)(G:Gh),Rep Γ E G a.tmps w→(execOp a.eval o).run P w=.ok (.value v) w):wQ P Γ o E (E.app [(d,iG (.lit v))] [(d,0)]):=by
 refine wQ.value gg fun a w G g9=>?_
 exact⟨v,w,h a w G g9,_,vQ g9 rfl hd (fun _=>v) (fun _=>hv) (.lit v) v (by simp[mkV,Gh.put]) (by simp[R,Gh.put]) (by simp[Top])⟩
def zKe(op:BinOp)(k:IntKind)(a b:Int):Option Value:=
 match op with
 |.add=>iG (.int k (k.wrap (a+b)))
 |.sub=>iG (.int k (k.wrap (a-b)))
 |.mul=>iG (.int k (k.wrap (a*b)))
 |.quo=>if b=0 then iH else iG (.int k (k.wrap (a.tdiv b)))
 |.rem=>if b=0 then iH else iG (.int k (a.tmod b))
 |.eql=>iG (.bool (a==b))
 |.neq=>iG (.bool (a != b))
 |.lss=>iG (.bool (decide (a<b)))
 |.leq=>iG (.bool (decide (a≤b)))
 |.gtr=>iG (.bool (decide (a> b)))
 |.geq=>iG (.bool (decide (a≥b)))
 |_=>iH
theorem zSa{op:BinOp}{k:IntKind}{a b:Int}{v:Value}(h:zKe op k a b=iG v):v.oneCell'=iI:=by cases op<;>simp[zKe]at h<;>first|(subst h;rfl)|(obtain⟨_,rfl⟩:=h;rfl)
theorem sK(op:BinOp)(xt yt:TypeId)(x y:Operand)(k:IntKind)(m n:Int)(v:Value)(ho:o.op=.binOp op xt x y yt)(gg:o.dst=iG d)(hd:d<Γ.N)
  (hx:opT E x=iG (.lit (.int k m)))(hy:opT E y=iG (.lit (.int k n)))(hv:zKe op k m n=iG v):wQ P Γ o E (E.app [(d,iG (.lit v))] [(d,0)]):=by
 refine zA9 v (zSa hv) gg hd fun a w G g9=>?_
 have h1:=(wL g9 hx).1;have h2:=(wL g9 hy).1;cases op<;>simp[zKe]at hv<;>
  first
   |(subst hv;simp[execOp,ho,h1,h2,eqGuard,binOp,Op.intArith,Op.intCmp];done)
   |(obtain⟨h0,rfl⟩:=hv;simp[execOp,ho,h1,h2,eqGuard,binOp,Op.intDiv,h0])
theorem zYu(xt:TypeId)(x:Operand)(b:Bool)(ho:o.op=.unOp .not xt x)(gg:o.dst=iG d)(hd:d<Γ.N)
  (hx:opT E x=iG (.lit (.bool b))):wQ P Γ o E (E.app [(d,iG (.lit (.bool !b)))] [(d,0)]):=by
 refine zA9 _ rfl gg hd fun a w G g9=>?_
 have h1:=(wL g9 hx).1;simp[execOp,ho,h1,Op.unary]
theorem zYv(xt:TypeId)(x:Operand)(k:IntKind)(n:Int)(ho:o.op=.unOp .neg xt x)(gg:o.dst=iG d)(hd:d<Γ.N)
  (hx:opT E x=iG (.lit (.int k n))):wQ P Γ o E (E.app [(d,iG (.lit (.int k (k.wrap (0-n)))))] [(d,0)]):=by
 refine zA9 _ rfl gg hd fun a w G g9=>?_
 have h1:=(wL g9 hx).1;simp[execOp,ho,h1,Op.unary,Op.intArith]
theorem zVM(src dst:TypeId)(ds:TypeDesc)(x:Operand)(k k':IntKind)(n:Int)(ho:o.op=.convert src dst x)(gg:o.dst=iG d)(hd:d<Γ.N)
  (hs:P.underlying src=iG ds)(ht:P.underlying dst=iG (.int k'))(hx:opT E x=iG (.lit (.int k n))):
  wQ P Γ o E (E.app [(d,iG (.lit (.int k' (k'.wrap n))))] [(d,0)]):=by
 refine zA9 _ rfl gg hd fun a w G g9=>?_
 have h1:=(wL g9 hx).1;simp[execOp,ho,h1,convert,run_underlying hs,run_underlying ht,Conv.intToInt]
theorem zVN(c x y:Operand)(b:Bool)(t:T)(ho:o.op=.pick c x y)(gg:o.dst=iG d)(hd:d<Γ.N)
  (hc:opT E c=iG (.lit (.bool b)))(hx:opT E (if b then x else y)=iG t)(ht:∀xs,t≠.tup xs)
  (gf:∀s,(if b then x else y)=.tmp s→s≠d)(gB:T.okB [(d,0)] (tG (if b then x else y) t)=iI):wQ P Γ o E (E.app [(d,iG (tG (if b then x else y) t))] [(d,0)]):=by
 refine wQ.value gg fun a w G g9=>?_
 obtain⟨f,hf,h1,h2⟩:=opd g9 hx ht;obtain⟨h3,h4⟩:=h1 d gf gB;refine⟨a.eval (if b then x else y),w,?_,_,vQ g9 rfl hd f hf _ _ h3 h4 h2⟩;have h5:=(wL g9 hc).1;cases b<;>simp[execOp,ho,h5,asBool]
end
end Go.Ab

namespace Go.Ab
open Go
def jC(E:Env):Nat→Nat→List Nat→Option (Nat×List Nat×T)
 |0,_,_=>iH
 |n+1,r,q=>match E r with
  |some t=>match t.get q.reverse with
   |some (.same r' q')=>jC E n r' q'
   |some u=>iG (r,q,u)
   |none=>iH
  |none=>iH
def tP(E:Env):Operand→Option (Nat×List Nat×T)
 |.tmp s=>jC E 4 s []
 |_=>iH
def T.single:T→Bool
 |.agg _|.tup _=>iJ
 |_=>iI
theorem xU{G:Gh}{s:Nat}{t:T}{p:List Nat}(h:t.single=iI):mkV G s t p=G.hd s p:=by cases t<;>simp[T.single]at h<;>rfl
section
variable {P:Program}{Γ:Ctx}{E:Env}{o:Oper}{d:Nat}
theorem zDg{G:Gh}{a:Act}{w:World}(g9:Rep Γ E G a.tmps w):∀(n s:Nat)(p:List Nat)(r:Nat)(q:List Nat)(u:T),jC E n s p=iG (r,q,u)→
  R Γ.St G w r u q∧G.hd s p=G.hd r q∧(∃t,E r=iG t∧t.get q.reverse=iG u)
 |0,_,_,_,_,_,h=>by grind[jC]
 |n+1,s,p,r,q,u,h=>by
  simp only[jC]at h;split at h
  ·rename_i t ht
   obtain⟨_,h4,_⟩:=g9.ent _ _ ht;split at h
   ·rename_i r' q' hg
    obtain⟨h1,h2,h3⟩:=zDg g9 n r' q' r q u h;have h5:=(zAN p.reverse t _ [] h4 hg).1;simp only[rp,Km,Je,R]at h5
    grind
   ·rename_i u' hns hg
    simp at h;obtain⟨rfl,rfl,rfl⟩:=h;have h5:=(zAN p.reverse t _ [] h4 hg).1
    simp_all
   ·cases h
  ·cases h
theorem jK{G:Gh}{a:Act}{w:World}(g9:Rep Γ E G a.tmps w){x:Operand}{r:Nat}{q:List Nat}{u:T}(h:tP E x=iG (r,q,u))(hu:u.single=iI):
  R Γ.St G w r u q∧a.eval x=G.hd r q:=by
 cases x with
 |tmp s=>
  obtain⟨h1,h2,_⟩:=zDg g9 4 s [] r q u h;refine⟨h1,?_⟩;rw[←h2];simp only[tP,jC]at h;split at h
  ·rename_i t ht
   obtain⟨h3,_,_⟩:=g9.ent s _ ht;rw[wK h3];simp only[Qi,T.get]at h;have:t.single=iI:=by cases t<;>first|rfl|simp_all
   exact xU this
  ·cases h
 |_=>grind[tP]
theorem zKf{St:Stb}{G:Gh}{w:World}{s:Nat}{k:Nat}{xs:List T}{p:List Nat}(h:R St G w s (.sl k xs) p):∃a c,G.hd s p=.slice a xs.length c:=by
 simp only[R]at h;rcases h with⟨rfl,a,h⟩|⟨b,cap,_,_,h,_⟩
 ·exact⟨a,0,h⟩
 ·exact⟨_,_,h⟩
theorem zDh{St:Stb}{G:Gh}{w:World}{s:Nat}{k:Nat}{xs:List T}{p:List Nat}(h:R St G w s (.ro (.sl k xs)) p):∃a c,G.hd s p=.slice a xs.length c∧xs.length≤c∧c≤maxLen∧
   (xs≠[]→ ∃b o' cs' e fr,a=iG ⟨b,o',iH⟩∧St b=iG (.cells cs' e fr)∧RoL St xs cs' o' k):=by
 grind[R,RoC]
def zLx:T→Option Nat
 |.sl _ xs|.ro (.sl _ xs)=>iG xs.length
 |.lit (.slice _ n _)=>iG n
 |.lit (.string s)=>iG s.size
 |_=>iH
def zVO:T→TypeDesc→Bool
 |.lit (.string _),.string=>iI
 |.sl _ _,.slice _|.ro (.sl _ _),.slice _|.lit (.slice _ _ _),.slice _=>iI
 |_,_=>iJ
theorem zSb(x:Operand)(t:TypeId)(ds:TypeDesc)(r:Nat)(q:List Nat)(u:T)(n:Nat)(ho:o.op=.call { callee:=.builtin .len,args:=#[x],argTypes:=#[t] })(gg:o.dst=iG d)(hd:d<Γ.N)
  (ht:P.underlying t=iG ds)(hx:tP E x=iG (r,q,u))(hl:zLx u=iG n)(me:zVO u ds=iI):
  wQ P Γ o E (E.app [(d,iG (.lit (.int .i64 n)))] [(d,0)]):=by
 refine zA9 (.int .i64 n) rfl gg hd fun a w G g9=>?_
 have hu:u.single=iI:=by cases u<;>simp[zLx]at hl<;>rfl
 obtain⟨h1,h2⟩:=jK g9 hx hu;have h3:(Builtin.len_ #[t] o.type #[G.hd r q]).run P w=.ok (.int .i64 n) w:=by
  cases u with
  |sl k xs=>
   obtain⟨a',c,h4⟩:=zKf h1;simp[zLx]at hl;subst hl;cases ds<;>simp[zVO]at me
   simp[Builtin.len_,run_underlying ht,h4,goInt]
  |ro t'=>
   cases t'<;>simp[zLx]at hl
   obtain⟨a',c,h4,_⟩:=zDh h1;subst hl;cases ds<;>simp[zVO]at me
   simp[Builtin.len_,run_underlying ht,h4,goInt]
  |lit v=>
   simp only[R]at h1;cases v<;>simp[zLx]at hl<;>(subst hl;cases ds<;>simp[zVO]at me;simp[Builtin.len_,run_underlying ht,h1,goInt])
  |_=>grind[zLx]
 simp[execOp,ho,resolve,invoke,builtin,h2,h3]
theorem zBI{G:Gh}{w:World}{s:Nat}{t:T}{p:List Nat}{b o:Nat}(h:Loc G w s t p b o):G.ad s p=⟨b,o,iH⟩:=by cases t<;>simp only[Loc]at h<;>first|exact h.1|exact h.elim
theorem uR(b o n:Nat):(⟨b,o,iH⟩:Addr).add n=⟨b,o+n,iH⟩:=by grind[Addr.add]
theorem zVP{St:Stb}{G:Gh}{w:World}{s:Nat}{k:Nat}{xs:List T}{p:List Nat}(h:R St G w s (.sl k xs) p){i:Nat}(hi:i<xs.length):
  ∃b cap,G.hd s p=.slice (iG ⟨b,0,iH⟩) xs.length cap∧G.ad s (i::p)=⟨b,i*k,iH⟩:=by
 simp only[R]at h;rcases h with⟨rfl,_⟩|⟨b,cap,cs,e,h1,h2,h3,h4,h5,h6,h7,h8⟩
 ·simp at hi
 ·have:=(kA xs p 0 b 0 k i xs[i] h8 (by simp[hi])).1
  simp only[Jc]at this;exact⟨b,cap,h1,zBI this⟩
theorem zSc(x y:Operand)(t e:TypeId)(ti:TypeInfo)(r:Nat)(q:List Nat)(k:Nat)(xs:List T)(kd:IntKind)(i:Int)(ho:o.op=.indexAddr t x y)(gg:o.dst=iG d)(hd:d<Γ.N)
  (ht:P.underlying t=iG (.slice e))(he:P.info? e=iG ti)(hk:ti.size=k)(hx:tP E x=iG (r,q,.sl k xs))(hy:opT E y=iG (.lit (.int kd i)))(h0:0≤i)(h1:i.toNat<xs.length):
  wQ P Γ o E (E.app [(d,iG (.addr r (i.toNat::q)))] [(d,0)]):=by
 refine wQ.value gg fun a w G g9=>?_
 obtain⟨g1,g2⟩:=jK g9 hx rfl;have g3:=(wL g9 hy).1;obtain⟨b,cap,g4,g5⟩:=zVP g1 h1;refine⟨.pointer (iG (G.ad r (i.toNat::q))),w,?_,_,vQ g9 rfl hd (fun _=>.pointer (iG (G.ad r (i.toNat::q)))) (fun _=>rfl) _ _ (by simp[mkV,Gh.put]) (by simp[R,Gh.put]) (by simp[Top])⟩;have gF:i<(xs.length:Int):=by omega
 simp[execOp,ho,Instr.indexAt,g3,g2,g4,asIntOf,run_underlying ht,h0,gF,sizeOf,typeInfo,he,hk,uR,g5]
theorem zGL{St:Stb}:(xs:List T)→ ∀(cs:Array Value)(o k i:Nat)(x:T),RoL St xs cs o k→xs[i]? =iG x→RoC St x cs (o+i*k)
 | [],_,_,_,_,_,_,h=>by simp at h
 |y::ys,cs,o,k,i,x,hr,h=>by
  simp only[RoL]at hr;cases i with
  |zero=>grind
  |succ i=>
   have:=zGL ys cs (o+k) k i x hr.2 (by grind)
   grind
theorem zPi{St:Stb}:(xs:List T)→ ∀(cs:Array Value)(o i:Nat)(x:T),RoF St xs cs o→xs[i]? =iG x→RoC St x cs (o+T.sizes (xs.take i))
 | [],_,_,_,_,_,h=>by simp at h
 |y::ys,cs,o,i,x,hr,h=>by
  simp only[RoF]at hr;cases i with
  |zero=>grind[T.sizes]
  |succ i=>
   have:=zPi ys cs (o+y.size) i x hr.2 (by grind)
   grind[T.sizes]
theorem zSd(x y:Operand)(t e:TypeId)(ti:TypeInfo)(r:Nat)(q:List Nat)(k:Nat)(xs:List T)(kd:IntKind)(i:Int)(u:T)(ho:o.op=.indexAddr t x y)(gg:o.dst=iG d)(hd:d<Γ.N)
  (ht:P.underlying t=iG (.slice e))(he:P.info? e=iG ti)(hk:ti.size=k)(hx:tP E x=iG (r,q,.ro (.sl k xs)))(hy:opT E y=iG (.lit (.int kd i)))(h0:0≤i)(h1:xs[i.toNat]? =iG u):
  wQ P Γ o E (E.app [(d,iG (.ro (.ptr u)))] [(d,0)]):=by
 refine wQ.value gg fun a w G g9=>?_
 obtain⟨g1,g2⟩:=jK g9 hx rfl;have g3:=(wL g9 hy).1;have hlt':i.toNat<xs.length:=(Js.1 h1).1;obtain⟨a',c,g4,_,_,g5⟩:=zDh g1;obtain⟨b,o',cs',e',fr,rfl,g6,g7⟩:=g5 (by rintro rfl;grind);have g8:=zGL xs cs' o' k i.toNat u g7 h1;refine⟨.pointer (iG ⟨b,o'+i.toNat*k,iH⟩),w,?_,_,vQ g9 rfl hd (fun _=>.pointer (iG ⟨b,o'+i.toNat*k,iH⟩)) (fun _=>rfl) _ _ (by simp[mkV,Gh.put]) ?_ (by simp[Top])⟩
 ·have gF:i<(xs.length:Int):=by omega
  simp[execOp,ho,Instr.indexAt,g3,g2,g4,asIntOf,run_underlying ht,h0,gF,sizeOf,typeInfo,he,hk,uR]
 grind[R,Gh.put_self,RoC]
theorem zCx:(xs:List T)→ ∀{G:Gh}{w:World}{s:Nat}(p:List Nat)(j b o i:Nat)(x:T),vM G w s xs p j b o→xs[i]? =iG x→
  Loc G w s x ((j+i)::p) b (o+T.sizes (xs.take i))
 | [],_,_,_,_,_,_,_,_,_,_,h=>by simp at h
 |y::ys,G,w,s,p,j,b,o,i,x,hr,h=>by
  simp only[vM]at hr;cases i with
  |zero=>grind[T.sizes]
  |succ i=>
   have:=zCx ys p (j+1) b (o+y.size) i x hr.2 (by grind)
   grind[T.sizes]
theorem sD{P:Program}{w:World}(a:Addr):(Instr.sureAddr (.pointer (iG a))).run P w=.ok a w:=rfl
theorem zCy{P:Program}{w:World}{S:TypeId}{fs:Array Field}{f:Field}{fi:TypeInfo}{j:Nat}{b o':Nat}(hS:P.underlying S=iG (.struct fs))(hf:fs[j]? =iG f)(hi:P.info? f.type=iG fi)(hz:fi.size≠0):
  (Instr.fieldAt S (.pointer (iG ⟨b,o',iH⟩)) j).run P w=.ok (.pointer (iG ⟨b,o'+f.offset,iH⟩)) w:=by
 simp[Instr.fieldAt,run_underlying hS,hf,sD,fieldPlace,sizeOf,typeInfo,hi,hz,uR]
theorem yAb(x:Operand)(S:TypeId)(fs:Array Field)(f:Field)(fi:TypeInfo)(j:Nat)(r:Nat)(q:List Nat)(xs:List T)(u:T)(ho:o.op=.fieldAddr S x j)(gg:o.dst=iG d)(hd:d<Γ.N)
  (hS:P.underlying S=iG (.struct fs))(hf:fs[j]? =iG f)(hi:P.info? f.type=iG fi)(hz:fi.size≠0)(hx:tP E x=iG (r,q,.ptr (.agg xs)))(hu:xs[j]? =iG u)(gG:T.sizes (xs.take j)=f.offset):
  wQ P Γ o E (E.app [(d,iG (.addr r (j::0::q)))] [(d,0)]):=by
 refine wQ.value gg fun a w G g9=>?_
 obtain⟨g1,g2⟩:=jK g9 hx rfl;simp only[R]at g1;obtain⟨b,cs,e,g4,_,_,_,g5,_⟩:=g1;simp only[Loc]at g5;have g6:=zCx xs (0::q) 0 b 0 j u g5.2 hu;simp only[Jc]at g6;refine⟨.pointer (iG (G.ad r (j::0::q))),w,?_,_,vQ g9 rfl hd (fun _=>.pointer (iG (G.ad r (j::0::q)))) (fun _=>rfl) _ _ (by simp[mkV,Gh.put]) (by simp[R,Gh.put]) (by simp[Top])⟩;have g7:=zCy (w:=w) (b:=b) (o':=0) hS hf hi hz;simp[execOp,ho,g2,g4,g7,zBI g6,gG]
theorem zNF(x:Operand)(S:TypeId)(fs:Array Field)(f:Field)(fi:TypeInfo)(j:Nat)(r:Nat)(q:List Nat)(t:T)(xs:List T)(u:T)(ho:o.op=.fieldAddr S x j)(gg:o.dst=iG d)(hd:d<Γ.N)
  (hS:P.underlying S=iG (.struct fs))(hf:fs[j]? =iG f)(hi:P.info? f.type=iG fi)(hz:fi.size≠0)(hx:opT E x=iG (.addr r q))(hr:E r=iG t)(hg:t.get q.reverse=iG (.agg xs))(hl:t.locd q.reverse=iI)
  (hu:xs[j]? =iG u)(gG:T.sizes (xs.take j)=f.offset):
  wQ P Γ o E (E.app [(d,iG (.addr r (j::q)))] [(d,0)]):=by
 refine wQ.value gg fun a w G g9=>?_
 cases x with
 |tmp s=>
  obtain⟨h1,h2,_⟩:=g9.ent s _ hx;obtain⟨_,h4,_⟩:=g9.ent r _ hr;simp only[R]at h2;obtain⟨b,o',cs,e,h6,_,_⟩:=(zAN q.reverse t _ [] h4 hg).2 hl;simp only[rp,Km,Je]at h6;have h7:=zBI h6;simp only[Loc]at h6;have g6:=zCx xs q 0 b o' j u h6.2 hu;simp only[Jc]at g6;refine⟨.pointer (iG (G.ad r (j::q))),w,?_,_,vQ g9 rfl hd (fun _=>.pointer (iG (G.ad r (j::q)))) (fun _=>rfl) _ _ (by simp[mkV,Gh.put]) (by simp[R,Gh.put]) (by simp[Top])⟩;have g7:=zCy (w:=w) (b:=b) (o':=o') hS hf hi hz;simp[execOp,ho,wK h1,mkV,h2,h7,g7,zBI g6,gG]
 |const v=>grind[opT]
 |func f=>grind[opT]
 |global g=>grind[opT]
theorem zNG{G:Gh}{a:Act}{w:World}(g9:Rep Γ E G a.tmps w){x:Operand}{u:T}(hx:opT E x=iG (.ro u)):RoC Γ.St u #[a.eval x] 0:=by
 cases x with
 |tmp s=>
  obtain⟨h1,h2,_⟩:=g9.ent s _ hx;simp only[R]at h2;rw[wK h1,xU rfl];exact h2
 |const v=>grind[opT]
 |func f=>grind[opT]
 |global g=>grind[opT]
theorem zSe(x:Operand)(S:TypeId)(fs:Array Field)(f:Field)(fi:TypeInfo)(j:Nat)(xs:List T)(u:T)(ho:o.op=.fieldAddr S x j)(gg:o.dst=iG d)(hd:d<Γ.N)
  (hS:P.underlying S=iG (.struct fs))(hf:fs[j]? =iG f)(hi:P.info? f.type=iG fi)(hz:fi.size≠0)(hx:opT E x=iG (.ro (.ptr (.agg xs))))(hu:xs[j]? =iG u)(gG:T.sizes (xs.take j)=f.offset):
  wQ P Γ o E (E.app [(d,iG (.ro (.ptr u)))] [(d,0)]):=by
 refine wQ.value gg fun a w G g9=>?_
 have h1:=zNG g9 hx;simp only[RoC]at h1;obtain⟨b,o',cs',e,fr,h2,h3,h4⟩:=h1;have h5:=zPi xs cs' o' j u h4 hu;refine⟨.pointer (iG ⟨b,o'+f.offset,iH⟩),w,?_,_,vQ g9 rfl hd (fun _=>.pointer (iG ⟨b,o'+f.offset,iH⟩)) (fun _=>rfl) _ _ (by simp[mkV,Gh.put]) ?_ (by simp[Top])⟩
 ·have g7:=zCy (w:=w) (b:=b) (o':=o') hS hf hi hz
  have h6:a.eval x=.pointer (iG ⟨b,o',iH⟩):=by grind
  simp[execOp,ho,h6,g7]
 grind[R,Gh.put_self,RoC]
def zF2:TypeDesc→Bool
 |.struct _|.array _ _=>iI
 |_=>iJ
theorem kC{P:Program}{w:World}{t:TypeId}{ds:TypeDesc}(ht:P.underlying t=iG ds):(isAgg t).run P w=.ok (zF2 ds) w:=by cases ds<;>simp[isAgg,run_underlying ht,zF2]
theorem vF{G:Gh}{w:World}{s:Nat}{t:T}{p:List Nat}{b o:Nat}(ht:t.single=iI)(h:Loc G w s t p b o):G.ad s p=⟨b,o,iH⟩∧G.lb b o=iG (iJ,s,p)∧yS w b o=iG (G.hd s p):=by cases t<;>simp[T.single]at ht<;>simpa only[Loc]using h
mutual
theorem zSf{G:Gh}{w:World}{s:Nat}:(t:T)→ ∀(p:List Nat)(b o:Nat),Loc G w s t p b o→ ∀(i:Nat)(v:Value),(vals G s t p)[i]? =iG v→yS w b (o+i)=iG v
 |.agg xs,p,b,o,h,i,v,hv=>by simp only[Loc,vals]at h hv;exact zBq xs p 0 b o h.2 i v hv
 |.any,p,b,o,h,i,v,hv|.lit _,p,b,o,h,i,v,hv|.ro _,p,b,o,h,i,v,hv|.same _ _,p,b,o,h,i,v,hv|.addr _ _,p,b,o,h,i,v,hv|.sub _ _ _ _ _,p,b,o,h,i,v,hv|.sl _ _,p,b,o,h,i,v,hv|.ptr _,p,b,o,h,i,v,hv=>by grind[Loc,vals]
 |.tup _,_,_,_,h,_,_,_=>by grind[Loc]
theorem zBq{G:Gh}{w:World}{s:Nat}:(xs:List T)→ ∀(p:List Nat)(j b o:Nat),vM G w s xs p j b o→ ∀(i:Nat)(v:Value),(yJ G s xs p j)[i]? =iG v→yS w b (o+i)=iG v
 | [],_,_,_,_,_,i,v,hv=>by grind[yJ]
 |x::xs,p,j,b,o,h,i,v,hv=>by
  simp only[vM,yJ]at h hv;rw[Kq]at hv;split at hv
  ·exact zSf x (j::p) b o h.1 i v hv
  ·rename_i hge
   have gj:=vJ (G:=G) (s:=s) x (j::p) (by grind[Loc]);have:=zBq xs p (j+1) b (o+x.size) h.2 _ v hv
   grind
theorem vJ{G:Gh}{s:Nat}:(t:T)→ ∀(p:List Nat),(∀xs,t≠.tup xs)→(vals G s t p).length=t.size
 |.agg xs,p,_=>by simp only[vals,T.size];exact wV xs p 0
 |.any,_,_|.lit _,_,_|.ro _,_,_|.same _ _,_,_|.addr _ _,_,_|.sub _ _ _ _ _,_,_|.sl _ _,_,_|.ptr _,_,_|.tup _,_,_=>by rfl
theorem wV{G:Gh}{s:Nat}:(xs:List T)→ ∀(p:List Nat)(j:Nat),(yJ G s xs p j).length=T.sizes xs
 | [],_,_=>by rfl
 |x::xs,p,j=>by
  simp only[yJ,J5,T.sizes,wV xs p (j+1)]
  by_cases hx:∃ys,x=.tup ys
  ·obtain⟨ys,rfl⟩:=hx;rfl
  ·rw[vJ x (j::p) (by grind)]
end
theorem zGq{P:Program}{G:Gh}{w:World}{s:Nat}{t:T}{p:List Nat}{b o':Nat}{T':TypeId}{ds:TypeDesc}{ti:TypeInfo}(hT:P.underlying T'=iG ds)(hi:P.info? T'=iG ti)(hl:Loc G w s t p b o')
  (fV:zF2 ds= !t.single)(gy:ti.size=t.size):(loadVar T' ⟨b,o',iH⟩).run P w=.ok (sQ G s t p) w:=by
 cases t with
 |agg xs=>
  have h1:=run_loadCells_list (P:=P) (w:=w) ⟨b,o',iH⟩ (yJ G s xs p 0) (fun j v hv=>by rw[uR];simp only[Loc]at hl;exact zBq xs p 0 b o' hl.2 j v hv)
  rw[wV]at h1;simp only[T.size]at gy;simp[T.single]at fV;simp[loadVar,kC hT,fV,sizeOf,typeInfo,hi,gy,h1,sQ]
 |tup xs=>grind[Loc]
 |_=>
  have h1:=(vF rfl hl).2.2;simp[T.single]at fV;simp only[yS]at h1;simp[loadVar,kC hT,fV,load,Sem.run,h1,sQ]
def zAP(Γ:Ctx)(E:Env)(x:Operand)(r:Nat)(q:List Nat):Prop:=∀(a:Act)(w:World)(G:Gh),Rep Γ E G a.tmps w→a.eval x=.pointer (iG (G.ad r q))
theorem zAP.addr{x:Operand}{r:Nat}{q:List Nat}(hx:opT E x=iG (.addr r q)):zAP Γ E x r q:=fun a w G g9=>by
 cases x with
 |tmp s=>
  obtain⟨h1,h2,_⟩:=g9.ent s _ hx;simp only[R]at h2;rw[wK h1];exact h2
 |const v=>grind[opT]
 |func f=>grind[opT]
 |global g=>grind[opT]
theorem zAP.ptr{x:Operand}{r:Nat}{q:List Nat}{t:T}(hx:tP E x=iG (r,q,.ptr t)):zAP Γ E x r (0::q):=fun a w G g9=>by
 obtain⟨g1,g2⟩:=jK g9 hx rfl
 grind[R,zBI]
theorem zLy(x:Operand)(T':TypeId)(ds:TypeDesc)(ti:TypeInfo)(r:Nat)(q:List Nat)(t u:T)(ho:o.op=.load T' x)(gg:o.dst=iG d)(hd:d<Γ.N)
  (hT:P.underlying T'=iG ds)(hi:P.info? T'=iG ti)(fV:zF2 ds= !u.single)(gy:ti.size=u.size)
  (hx:zAP Γ E x r q)(hr:E r=iG t)(hg:t.get q.reverse=iG u)(hl:t.locd q.reverse=iI)(gA:r≠d)(gB:T.okB [(d,0)] (cpT r u q)=iI):
  wQ P Γ o E (E.app [(d,iG (cpT r u q))] [(d,0)]):=by
 refine wQ.value gg fun a w G g9=>?_
 have bD:=hx a w G g9;obtain⟨_,h4,_⟩:=g9.ent r _ hr;obtain⟨h5,h6⟩:=zAN q.reverse t u [] h4 hg;obtain⟨b,o',cs,e,h6,_,_⟩:=h6 hl;simp only[rp,Km,Je]at h5 h6;have eh:∀xs,u≠.tup xs:=by rintro xs rfl;simp only[Loc]at h6
 have h7:=zBI h6;have hz:∀z,(G.put d (fun z=>G.hd r (z++q))).hd d (z++[])=G.hd r (z++q):=fun z=>by rw[Gh.put_self,Je]
 have hk:=G.put_keep (w:=w) (w':=w) rfl d (fun z=>G.hd r (z++q));refine⟨sQ G r u q,w,?_,_,vQ g9 rfl hd (fun z=>G.hd r (z++q)) (fun z=>g9.mem.one _ _) _ _ (zA8 u q [] eh hz).symm
  (zDS (fun p=>G.put_other _ p gA) u q [] hz eh (hk.keepR (zAs _ (qX r u q) gB)) h5) (qX r u q)⟩
 have h8:=zGq (T':=T') hT hi h6 fV gy;simp[execOp,ho,bD,h7,Instr.loadAt,sD,h8]
theorem zVQ(x:Operand)(T':TypeId)(ds:TypeDesc)(ti:TypeInfo)(r:Nat)(q:List Nat)(t u:T)(ho:o.op=.load T' x)(gg:o.dst=iG d)(hd:d<Γ.N)
  (hT:P.underlying T'=iG ds)(hi:P.info? T'=iG ti)(fV:zF2 ds= !u.single)(gy:ti.size=u.size)
  (hx:opT E x=iG (.addr r q))(hr:E r=iG t)(hg:t.get q.reverse=iG u)(hl:t.locd q.reverse=iI)(gA:r≠d)(gB:T.okB [(d,0)] (cpT r u q)=iI):
  wQ P Γ o E (E.app [(d,iG (cpT r u q))] [(d,0)]):=by grind[zLy,zAP.addr]
def roT:T→T
 |.lit v=>.lit v
 |.agg xs=>.agg (roTs xs)
 |.ro t=>.ro t
 |.any=>.any
 |.same r q=>.ro (.same r q)
 |.addr r q=>.ro (.addr r q)
 |.sub r q k lo hi=>.ro (.sub r q k lo hi)
 |.sl k xs=>.ro (.sl k xs)
 |.ptr t=>.ro (.ptr t)
 |.tup xs=>.ro (.tup xs)
where roTs:List T→List T
 | []=>[]
 |x::xs=>roT x::roTs xs
end
end Go.Ab

namespace Go.Ab
open Go
def kE(v:Value):Value:=if v.oneCell' then v else .bool iJ
theorem zBr(v:Value):(kE v).oneCell'=iI:=by
 unfold kE;split
 ·assumption
 ·rfl
theorem zAt{v:Value}(h:v.oneCell'=iI):kE v=v:=by simp[kE,h]
def zDU:T→Array Value→Nat→List Nat→Value
 |.agg xs,cs,o,i::f=>match xs[i]? with
  |some x=>zDU x cs (o+T.sizes (xs.take i)) f
  |none=>.bool iJ
 |_,cs,o,_=>cs.getD o (.bool iJ)
termination_by structural _ _ _ f=>f
theorem zAQ{t:T}(h:t.single=iI)(cs:Array Value)(o:Nat)(f:List Nat):zDU t cs o f=cs.getD o (.bool iJ):=by cases t<;>simp[T.single]at h<;>cases f<;>rfl
mutual
theorem zE7:(u:T)→(∀xs,u≠.tup xs)→(roT u).size=u.size
 |.agg xs,_=>by simp only[roT,T.size];exact zF3 xs
 |.lit _,_|.any,_|.sl _ _,_|.ptr _,_|.ro _,_|.same _ _,_|.addr _ _,_|.sub _ _ _ _ _,_|.tup _,_=>by rfl
theorem zF3:(xs:List T)→T.sizes (roT.roTs xs)=T.sizes xs
 | []=>by rfl
 |x::xs=>by
  simp only[roT.roTs,T.sizes,zF3 xs]
  by_cases hx:∃ys,x=.tup ys
  ·obtain⟨ys,rfl⟩:=hx;rfl
  ·rw[zE7 x (by grind)]
end
section
variable {St:Stb}{G:Gh}{w:World}{d:Nat}
theorem zHf{u:T}{cs:Array Value}{o:Nat}(hu:u.single=iI)(h:RoC St u cs o):∃v,cs[o]? =iG v∧v.oneCell'=iI∧RoC St u #[v] 0:=by
 cases u<;>simp[T.single]at hu<;>simp only[RoC]at h ⊢
 ·grind
 ·grind
 ·obtain⟨a,c,h1,h2⟩:=h;exact⟨_,h1,rfl,a,c,by simp,h2⟩
 ·obtain⟨b,o',cs',e,fr,h1,h2⟩:=h;exact⟨_,h1,rfl,b,o',cs',e,fr,by simp,h2⟩
mutual
theorem zSg:(u:T)→ ∀(cs:Array Value)(o:Nat)(p:List Nat),(∀z,G.hd d (z++p)=kE (zDU u cs o z.reverse))→RoC St u cs o→R St G w d (roT u) p
 |.agg xs,cs,o,p,hd,h=>by
  simp only[roT,R,RoC]at h ⊢
  exact zSh xs cs o p 0 o (by simp) (fun z j x hx=>by
   have:=hd (z++[j]);simp only[Jf,K6,Jv,Jam,Ul,Qi,zDU]at this
   grind) h
 |.lit v,cs,o,p,hd,h=>by
  simp only[roT,R,RoC]at h ⊢
  have:=hd [];rw[Jv,zAQ rfl]at this;rw[this];simp[Kl,h.1,zAt h.2]
 |.any,_,_,_,_,_=>by simp only[roT,R]
 |.sl k xs,cs,o,p,hd,h|.ptr t,cs,o,p,hd,h=>by obtain⟨v,h1,h2,h3⟩:=zHf rfl h;have:=hd [];rw[Jv,zAQ rfl]at this;simp only[roT,R];rw[this];simpa[Kl,h1,zAt h2]using h3
 |.ro _,_,_,_,_,h|.same _ _,_,_,_,_,h|.addr _ _,_,_,_,_,h|.sub _ _ _ _ _,_,_,_,_,h|.tup _,_,_,_,_,h=>by simp only[RoC]at h
theorem zSh:(xs:List T)→ ∀(cs:Array Value)(o0:Nat)(p:List Nat)(j o:Nat),o0≤o→(∀z i x,xs[i]? =iG x→G.hd d (z++((j+i)::p))=kE (zDU x cs (o+T.sizes (xs.take i)) z.reverse))→RoF St xs cs o→RF St G w d (roT.roTs xs) p j
 | [],_,_,_,_,_,_,_,_=>by simp only[roT.roTs,RF]
 |x::xs,cs,o0,p,j,o,ho,hd,h=>by
  simp only[roT.roTs,RF,RoF]at h ⊢
  refine⟨zSg x cs o (j::p) (fun z=>by simpa[T.sizes]using hd z 0 x (by simp)) h.1,zSh xs cs o0 p (j+1) (o+x.size) (by omega) (fun z i y hy=>?_) h.2⟩;have:=hd z (i+1) y (by grind)
  grind[T.sizes]
end
mutual
theorem zHg:(u:T)→ ∀(cs:Array Value)(o:Nat)(p:List Nat),(∀z,G.hd d (z++p)=kE (zDU u cs o z.reverse))→RoC St u cs o→ ∀(i:Nat)(v:Value),(vals G d (roT u) p)[i]? =iG v→cs[o+i]? =iG v
 |.agg xs,cs,o,p,hd,h,i,v,hv=>by
  simp only[roT,vals,RoC]at h hv;exact zJn xs cs p 0 o (fun z j x hx=>by
   have:=hd (z++[j]);simp only[Jf,K6,Jv,Jam,Ul,Qi,zDU]at this
   grind) h i v hv
 |.lit _,cs,o,p,hd,h,i,v,hv|.any,cs,o,p,hd,h,i,v,hv|.sl _ _,cs,o,p,hd,h,i,v,hv|.ptr _,cs,o,p,hd,h,i,v,hv=>by
  obtain⟨v',h1,h2,h3⟩:=zHf rfl h;have:=hd [];rw[Jv,zAQ rfl]at this;simp only[roT,vals]at hv;cases i with
  |zero=>
   simp at hv;rw[←hv,this];simp[Kl,h1,zAt h2]
  |succ i=>simp at hv
 |.ro _,_,_,_,_,h,_,_,_|.same _ _,_,_,_,_,h,_,_,_|.addr _ _,_,_,_,_,h,_,_,_|.sub _ _ _ _ _,_,_,_,_,h,_,_,_|.tup _,_,_,_,_,h,_,_,_=>by simp only[RoC]at h
theorem zJn:(xs:List T)→ ∀(cs:Array Value)(p:List Nat)(j o:Nat),(∀z i x,xs[i]? =iG x→G.hd d (z++((j+i)::p))=kE (zDU x cs (o+T.sizes (xs.take i)) z.reverse))→RoF St xs cs o→ ∀(i:Nat)(v:Value),(yJ G d (roT.roTs xs) p j)[i]? =iG v→cs[o+i]? =iG v
 | [],_,_,_,_,_,_,i,v,hv=>by grind[roT.roTs,yJ]
 |x::xs,cs,p,j,o,hd,h,i,v,hv=>by
  simp only[roT.roTs,yJ,RoF]at h hv;have hx:∀z,G.hd d (z++(j::p))=kE (zDU x cs o z.reverse):=fun z=>by simpa[T.sizes]using hd z 0 x (by simp)
  have gj:(vals G d (roT x) (j::p)).length=x.size:=by have hs:(roT x).size=x.size:=zE7 x (fun ys e=>by subst e;simp only[RoC]at h;exact h.1);rw[vJ (roT x) (j::p) (fun ys e=>by cases x<;>simp[roT]at e),hs]
  rw[Kq]at hv;split at hv
  ·exact zHg x cs o (j::p) hx h.1 i v hv
  ·have:=zJn xs cs p (j+1) (o+x.size) (fun z i y hy=>by
    have:=hd z (i+1) y (by grind)
    grind[T.sizes]) h.2 _ v hv
   grind
end
mutual
theorem zPj:(u:T)→Top (roT u)
 |.agg xs=>by simp only[roT,Top];exact zLz xs
 |.lit _|.any|.sl _ _|.ptr _|.ro _|.same _ _|.addr _ _|.sub _ _ _ _ _|.tup _=>by simp[roT,Top]
theorem zLz:(xs:List T)→vU (roT.roTs xs)
 | []=>by simp only[roT.roTs,vU]
 |x::xs=>by simp only[roT.roTs,vU];exact⟨zPj x,zLz xs⟩
end
end
section
variable {P:Program}{Γ:Ctx}{E:Env}{o:Oper}{d:Nat}
theorem zPk{G:Gh}{w:World}(hm:Mem Γ G w){b:Nat}{cs:Array Value}{e:TypeId}{fr:Nat×Nat}(h:Γ.St b=iG (.cells cs e fr))(i:Nat):w.cell? ⟨b,i,iH⟩=cs[i]?:=by simp[World.cell?,hm.st b _ h]
theorem zNH(x:Operand)(T':TypeId)(ds:TypeDesc)(ti:TypeInfo)(u:T)(ho:o.op=.load T' x)(gg:o.dst=iG d)(hd:d<Γ.N)
  (hT:P.underlying T'=iG ds)(hi:P.info? T'=iG ti)(fV:zF2 ds= !u.single)(gy:ti.size=u.size)
  (hx:opT E x=iG (.ro (.ptr u))):wQ P Γ o E (E.app [(d,iG (roT u))] [(d,0)]):=by
 refine wQ.value gg fun a w G g9=>?_
 have h1:=zNG g9 hx;simp only[RoC]at h1;obtain⟨b,o',cs',e,fr,h2,h3,h4⟩:=h1;have cD:a.eval x=.pointer (iG ⟨b,o',iH⟩):=by grind
 have eh:∀xs,u≠.tup xs:=by rintro xs rfl;simp only[RoC]at h4
 let f:List Nat→Value:=fun z=>kE (zDU u cs' o' z.reverse)
 have hz:∀z,(G.put d f).hd d (z++[])=kE (zDU u cs' o' z.reverse):=by grind[Gh.put_self]
 refine⟨mkV (G.put d f) d (roT u) [],w,?_,_,vQ g9 rfl hd f (fun z=>zBr _) _ _ rfl (by grind[zSg]) (zPj u)⟩;cases u with
 |agg xs=>
  have h5:∀j v,(yJ (G.put d f) d (roT.roTs xs) [] 0)[j]? =iG v→w.cell? ((⟨b,o',iH⟩:Addr).add j)=iG v:=by intro j v hv;rw[uR,zPk g9.mem h3];exact zHg (.agg xs) cs' o' [] hz h4 j v (by grind[roT,vals])
  have h6:=run_loadCells_list (P:=P) (w:=w) ⟨b,o',iH⟩ _ h5;rw[wV,zF3]at h6;simp only[T.size]at gy;simp[T.single]at fV;simp[execOp,ho,cD,Instr.loadAt,sD,loadVar,kC hT,fV,sizeOf,typeInfo,hi,gy,h6,mkV,roT]
 |tup xs=>grind
 |_=>
  obtain⟨v,h5,h6,h7⟩:=zHf rfl h4;have h8:w.cell? ⟨b,o',iH⟩=iG v:=by rw[zPk g9.mem h3];exact h5
  simp[T.single]at fV;have h9:f []=v:=by show kE (zDU _ cs' o' _)=v;rw[zAQ rfl];simp[Kl,h5,zAt h6]
  simp[execOp,ho,cD,Instr.loadAt,sD,loadVar,kC hT,fV,load,Sem.run,h8,mkV,roT,Gh.put_self,h9]
def zGr(E:Env)(x:Operand):Bool:=
 match opT E x with
 |some (.addr _ _)|some (.ro (.ptr _))=>iI
 |_=>match tP E x with
  |some (_,_,.ptr _)=>iI
  |some (_,_,.ro (.ptr _))=>iI
  |_=>iJ
theorem zSi{G:Gh}{a:Act}{w:World}(g9:Rep Γ E G a.tmps w){x:Operand}(h:zGr E x=iI):∃ad,a.eval x=.pointer (iG ad):=by
 unfold zGr at h;split at h
 ·rename_i r q hx
  cases x with
  |tmp s=>
   obtain⟨h1,h2,_⟩:=g9.ent s _ hx;simp only[R]at h2;exact⟨_,by rw[wK h1,xU rfl,h2]⟩
  |const v=>grind[opT]
  |func f=>grind[opT]
  |global g=>grind[opT]
 ·rename_i u hx
  have:=zNG g9 hx;simp only[RoC]at this
  grind
 ·split at h
  ·rename_i hl
   obtain⟨h1,h2⟩:=jK g9 hl rfl;simp only[R]at h1
   grind
  ·rename_i hl
   obtain⟨h1,h2⟩:=jK g9 hl rfl;simp only[R,RoC]at h1
   grind
  ·cases h
theorem zYw(x:Operand)(t:T)(ho:o.op=.nilCheck x)(gg:o.dst=iG d)(hd:d<Γ.N)(hx:opT E x=iG t)(hp:zGr E x=iI)(ht:∀xs,t≠.tup xs)
  (gf:∀s,x=.tmp s→s≠d)(gB:T.okB [(d,0)] (tG x t)=iI):wQ P Γ o E (E.app [(d,iG (tG x t))] [(d,0)]):=by
 refine wQ.value gg fun a w G g9=>?_
 obtain⟨f,hf,h1,h2⟩:=opd g9 hx ht;obtain⟨h3,h4⟩:=h1 d gf gB;obtain⟨ad,h5⟩:=zSi g9 hp;refine⟨a.eval x,w,?_,_,vQ g9 rfl hd f hf _ _ h3 h4 h2⟩;simp[execOp,ho,h5]
theorem zL0{G:Gh}{s:Nat}:(xs:List T)→ ∀(p:List Nat)(j i:Nat)(x:T),xs[i]? =iG x→(jV G s xs p j)[i]? =iG (sQ G s x ((j+i)::p))
 | [],_,_,_,_,h=>by simp at h
 |y::ys,p,j,i,x,h=>by
  cases i with
  |zero=>grind[jV]
  |succ i=>
   have:=zL0 (G:=G) (s:=s) ys p (j+1) i x (by grind)
   grind[jV]
theorem zNI(s i:Nat)(ts:List T)(t:T)(ho:o.op=.extract (.tmp s) i)(gg:o.dst=iG d)(hd:d<Γ.N)(hs:E s=iG (.tup ts))(hi:ts[i]? =iG t)(ht:∀xs,t≠.tup xs)
  (gf:s≠d)(gB:T.okB [(d,0)] (cpT s t [i])=iI):wQ P Γ o E (E.app [(d,iG (cpT s t [i]))] [(d,0)]):=by
 refine wQ.value gg fun a w G g9=>?_
 obtain⟨h1,h2,_⟩:=g9.ent s _ hs;simp only[R]at h2;have h3:=zBc ts [] 0 i t h2 hi;simp only[Jc]at h3;have h4:=zL0 (G:=G) (s:=s) ts [] 0 i t hi;simp only[Jc]at h4;have hk:=G.put_keep (w:=w) (w':=w) rfl d (fun z=>G.hd s (z++[i]));have hz:∀z,(G.put d (fun z=>G.hd s (z++[i]))).hd d (z++[])=G.hd s (z++[i]):=by grind[Gh.put_self]
 refine⟨sQ G s t [i],w,?_,_,vQ g9 rfl hd (fun z=>G.hd s (z++[i])) (fun z=>g9.mem.one _ _) _ _ (by grind[zA8])
  (zDS (fun p=>G.put_other _ p gf) t [i] [] hz ht (hk.keepR (by grind[zAs,qX])) h3) (qX s t [i])⟩
 simp[execOp,ho,wK h1,mkV,Instr.extract,h4]
def zBJ(E:Env)(x:Option Operand)(dflt n:Nat):Prop:=
 match x with
 |none=>n=dflt
 |some y=> ∃kd,opT E y=iG (.lit (.int kd n))
theorem zHh{St:Stb}:(xs:List T)→ ∀(cs:Array Value)(o k l:Nat),RoL St xs cs o k→RoL St (xs.drop l) cs (o+l*k) k
 | [],_,_,_,_,_=>by simp[RoL]
 |x::xs,cs,o,k,l,h=>by
  cases l with
  |zero=>grind
  |succ l=>
   simp only[RoL]at h;have:=zHh xs cs (o+k) k l h.2
   grind
theorem zHi{St:Stb}:(xs:List T)→ ∀(cs:Array Value)(o k l:Nat),RoL St xs cs o k→RoL St (xs.take l) cs o k
 | [],_,_,_,_,_=>by simp[RoL]
 |x::xs,cs,o,k,l,h=>by
  cases l with
  |zero=>simp[RoL]
  |succ l=>simp only[RoL,Lf]at h ⊢;exact⟨h.1,zHi xs cs _ k l h.2⟩
theorem zDi{P:Program}{G:Gh}{a:Act}{w:World}(g9:Rep Γ E G a.tmps w){x:Operand}{kd:IntKind}{n y:Nat}{c:BoundsCode}(hx:opT E x=iG (.lit (.int kd n)))(h:n≤y):
  (Instr.sliceBound (a.eval x) y c).run P w=.ok n w:=by
 rw[(wL g9 hx).1];have:(n:Int)≤(y:Int):=by omega
 simp[Instr.sliceBound,asIntOf,this]
theorem zHj{P:Program}{G:Gh}{a:Act}{w:World}(g9:Rep Γ E G a.tmps w){lo hi:Option Operand}{l h n c:Nat}(eB:zBJ E lo 0 l)(fD:zBJ E hi n h)(h1:l≤h)(h2:h≤c):
  (Instr.sliceBounds iI n c (lo.map a.eval) (hi.map a.eval) iH).run P w=.ok (l,h,c) w:=by
 cases lo with
 |none=>
  cases hi with
  |none=>simp only[zBJ]at eB fD;subst eB;subst fD;rfl
  |some y=>simp only[zBJ]at eB fD;obtain⟨kd,hy⟩:=fD;subst eB;simp[Instr.sliceBounds,zDi g9 hy h2]
 |some x=>
  obtain⟨kd,hx⟩:=eB;cases hi with
  |none=>simp only[zBJ]at fD;subst fD;simp[Instr.sliceBounds,zDi g9 hx h1]
  |some y=>obtain⟨kd',hy⟩:=fD;simp[Instr.sliceBounds,zDi g9 hy h2,zDi g9 hx h1]
theorem zL1(x:Operand)(lo hi:Option Operand)(t e:TypeId)(ti:TypeInfo)(r:Nat)(q:List Nat)(k:Nat)(xs:List T)(l h:Nat)(ho:o.op=.slice t x lo hi iH)(gg:o.dst=iG d)(hd:d<Γ.N)
  (ht:P.underlying t=iG (.slice e))(he:P.info? e=iG ti)(hk:ti.size=k)(hx:tP E x=iG (r,q,.ro (.sl k xs)))(eB:zBJ E lo 0 l)(fD:zBJ E hi xs.length h)(h1:l≤h)(h2:h≤xs.length):
  wQ P Γ o E (E.app [(d,iG (.ro (.sl k ((xs.drop l).take (h-l)))))] [(d,0)]):=by
 refine wQ.value gg fun a w G g9=>?_
 obtain⟨g1,g2⟩:=jK g9 hx rfl;obtain⟨a',c,g4,g5,g6,g7⟩:=zDh g1;have g8:=zHj (P:=P) g9 eB fD h1 (Hb h2 g5);have gj:((xs.drop l).take (h-l)).length=h-l:=by simp;omega
 refine⟨.slice (if c=l then a' else a'.map (·.add (l*k))) (h-l) (c-l),w,?_,_,vQ g9 rfl hd (fun _=>.slice (if c=l then a' else a'.map (·.add (l*k))) (h-l) (c-l)) (fun _=>rfl) _ _ (by simp[mkV,Gh.put]) ?_ (by simp[Top])⟩
 ·simp only[execOp,ho,Jau]
  simp[Instr.sliceAt,Instr.slice,run_underlying ht,g2,g4,g8,sizeOf,typeInfo,he,hk]
 ·simp only[R,Gh.put_self,RoC]
  refine⟨_,_,by rw[gj];rfl,by omega,by omega,?_⟩;intro gf;have eF:xs≠[]:=by grind
  obtain⟨b,o',cs',e',fr,rfl,h3,h4⟩:=g7 eF;have gC:c≠l:=by grind
  grind[uR,zHi,zHh]
theorem zKg(x:Operand)(lo hi:Option Operand)(t e:TypeId)(ti:TypeInfo)(r:Nat)(q:List Nat)(k:Nat)(xs:List T)(l h:Nat)(ho:o.op=.slice t x lo hi iH)(gg:o.dst=iG d)(hd:d<Γ.N)
  (ht:P.underlying t=iG (.slice e))(he:P.info? e=iG ti)(hk:ti.size=k)(hx:tP E x=iG (r,q,.sl k xs))(eB:zBJ E lo 0 l)(fD:zBJ E hi xs.length h)(h1:l≤h)(h2:h≤xs.length)(gA:r≠d):
  wQ P Γ o E (E.app [(d,iG (.sub r q k l h))] [(d,0)]):=by
 refine wQ.value gg fun a w G g9=>?_
 obtain⟨g1,g2⟩:=jK g9 hx rfl;obtain⟨a',c,g4⟩:=zKf g1;have g5:xs.length≤c:=by
  simp only[R]at g1
  grind
 have g8:=zHj (P:=P) g9 eB fD h1 (Hb h2 g5);refine⟨zBo (G.hd r q) k l h,w,?_,_,vQ g9 rfl hd (fun _=>zBo (G.hd r q) k l h) (fun _=>by rw[g4];rfl) _ _ (by simp[mkV,Gh.put]) ?_ (by simp[Top])⟩
 ·simp only[execOp,ho,Jau]
  simp[Instr.sliceAt,Instr.slice,run_underlying ht,g2,g4,g8,sizeOf,typeInfo,he,hk,zBo]
 ·simp only[R,Gh.put_self]
  grind[Gh.put_other]
end
end Go.Ab

namespace Go.Ab
open Go
def T.inT:T→List Nat→Bool
 |_,[]=>iI
 |.agg xs,i::f=>match xs[i]? with
  |some x=>x.inT f
  |none=>iJ
 |.any,_::_|.lit _,_::_|.ro _,_::_|.same _ _,_::_|.addr _ _,_::_|.sub _ _ _ _ _,_::_|.sl _ _,_::_|.ptr _,_::_|.tup _,_::_=>iJ
termination_by structural _ f=>f
def T.offT:T→List Nat→Nat
 |_,[]=>0
 |.agg xs,i::f=>match xs[i]? with
  |some x=>T.sizes (xs.take i)+x.offT f
  |none=>0
 |.any,_::_|.lit _,_::_|.ro _,_::_|.same _ _,_::_|.addr _ _,_::_|.sub _ _ _ _ _,_::_|.sl _ _,_::_|.ptr _,_::_|.tup _,_::_=>0
termination_by structural _ f=>f
theorem zHk{t:T}(h:t.single=iI){f:List Nat}(hf:f≠[]):t.inT f=iJ:=by
 cases f with
 |nil=>grind
 |cons i f=>cases t<;>simp[T.single]at h<;>rfl
mutual
def zSj:T→List Nat→Nat→Option (List Nat)
 |.agg xs,p,o=>zCz xs p 0 o
 |.any,p,o|.lit _,p,o|.ro _,p,o|.same _ _,p,o|.addr _ _,p,o|.sub _ _ _ _ _,p,o|.sl _ _,p,o|.ptr _,p,o|.tup _,p,o=>if o=0 then iG p else iH
def zCz:List T→List Nat→Nat→Nat→Option (List Nat)
 | [],_,_,_=>iH
 |x::xs,p,j,o=>if o<x.size then zSj x (j::p) o else zCz xs p (j+1) (o-x.size)
end
mutual
def T.okTup:T→Bool
 |.tup _=>iJ
 |.agg xs=>yV xs
 |.any|.lit _|.ro _|.same _ _|.addr _ _|.sub _ _ _ _ _|.sl _ _|.ptr _=>iI
def yV:List T→Bool
 | []=>iI
 |x::xs=>x.okTup&&yV xs
end
theorem zDV:(xs:List T)→ ∀(p:List Nat)(j o:Nat),T.sizes xs≤o→zCz xs p j o=iH
 | [],_,_,_,_=>by rfl
 |x::xs,p,j,o,h=>by simp only[T.sizes]at h;simp only[zCz];rw[if_neg (by omega)];exact zDV xs p (j+1) _ (by omega)
section
variable {G:Gh}{w:World}{d:Nat}
mutual
theorem zYx:(x:T)→ ∀(p:List Nat)(B o:Nat),(∀xs,x≠.tup xs)→x.okTup=iI→
  (∀f,x.inT f=iI→G.ad d (f.reverse++p)=⟨B,o+x.offT f,iH⟩)→(∀j p',j<x.size→zSj x p j=iG p'→G.lb B (o+j)=iG (iJ,d,p'))→
  (∀j v,(vals G d x p)[j]? =iG v→yS w B (o+j)=iG v)→Loc G w d x p B o
 |.agg xs,p,B,o,_,hn,ha,hl,hc=>by
  simp only[Loc];refine⟨by simpa[T.offT]using ha [] rfl,zGM xs p 0 B o (by grind[T.okTup]) (fun i x hx f hf=>?_) (fun j p' hj hp=>?_) (by grind[vals])⟩
  ·have:=ha (i::f) (by grind[T.inT])
   grind[T.offT]
  grind[T.size,zSj]
 |.any,p,B,o,_,_,ha,hl,hc|.lit _,p,B,o,_,_,ha,hl,hc|.ro _,p,B,o,_,_,ha,hl,hc|.same _ _,p,B,o,_,_,ha,hl,hc|.addr _ _,p,B,o,_,_,ha,hl,hc|.sub _ _ _ _ _,p,B,o,_,_,ha,hl,hc|.sl _ _,p,B,o,_,_,ha,hl,hc|.ptr _,p,B,o,_,_,ha,hl,hc=>by simp only[Loc];exact⟨by simpa[T.offT]using ha [] rfl,by simpa using hl 0 p (by simp[T.size]) (by rfl),by simpa using hc 0 (G.hd d p) (by simp[vals])⟩
 |.tup xs,_,_,_,h,_,_,_,_=>absurd rfl (h xs)
theorem zGM:(xs:List T)→ ∀(p:List Nat)(j B o:Nat),yV xs=iI→
  (∀i x,xs[i]? =iG x→ ∀f,x.inT f=iI→G.ad d (f.reverse++((j+i)::p))=⟨B,o+(T.sizes (xs.take i)+x.offT f),iH⟩)→
  (∀i p',i<T.sizes xs→zCz xs p j i=iG p'→G.lb B (o+i)=iG (iJ,d,p'))→
  (∀i v,(yJ G d xs p j)[i]? =iG v→yS w B (o+i)=iG v)→vM G w d xs p j B o
 | [],_,_,_,_,_,_,_,_=>by simp only[vM]
 |x::xs,p,j,B,o,hn,ha,hl,hc=>by
  simp only[yV,J4]at hn;have eh:∀ys,x≠.tup ys:=by rintro ys rfl;grind[T.okTup]
  simp only[vM];refine⟨zYx x (j::p) B o eh hn.1 (fun f hf=>by simpa[T.sizes]using ha 0 x (by simp) f hf) (fun i p' hi hp=>hl i p' (by grind[T.sizes]) (by simp only[zCz,hi,if_true];exact hp)) (fun i v hv=>hc i v ?_),
   zGM xs p (j+1) B (o+x.size) hn.2 (fun i y hy f hf=>?_) (fun i p' hi hp=>?_) (fun i v hv=>?_)⟩
  ·grind[yJ]
  ·have:=ha (i+1) y (by grind) f hf
   grind[T.sizes]
  ·have:=hl (x.size+i) p' (by grind[T.sizes]) (by simp only[zCz];grind)
   grind
  ·have:=hc (x.size+i) v (by
    grind[yJ,vJ])
   grind
end
end
structure MvC (G:Gh) (w:World) (G':Gh) (w':World) (s:Nat) (p:List Nat) (s':Nat) (p':List Nat) (t:T):Prop where
 hd:∀z,G'.hd s' (z++p')=G.hd s (z++p)
 ad:∀z,t.inT z.reverse=iJ→G'.ad s' (z++p')=G.ad s (z++p)
 lb:∀b o f z,(f=iI∨t.inT z.reverse=iJ)→G.lb b o=iG (f,s,z++p)→G'.lb b o=iG (f,s',z++p')∧yS w' b o=yS w b o
 ow:∀b z,G.ow b=iG (s,z++p)→G'.ow b=iG (s',z++p')
 blk:Blk w w'
section
variable {St:Stb}{G:Gh}{w:World}{G':Gh}{w':World}{s:Nat}{s':Nat}
theorem MvC.moves{p p':List Nat}{t:T}(h:MvC G w G' w' s p s' p' t)(ht:t.single=iI):zJk G w G' w' s p s' p' where
 hd:=h.hd
 ad z hz:=h.ad z (zHk ht (by simp_all))
 lb b o f z hz _ hl:=h.lb b o f z (.inr (zHk ht (by simp_all))) hl
 ow b z _ hl:=h.ow b z hl
 blk:=h.blk
 sp b o _ hl:=by simpa using h.lb b o iI [] (.inl rfl) (by grind)
 ow0 b hl:=by simpa using h.ow b [] (by grind)
theorem MvC.field{p p':List Nat}{xs:List T}(h:MvC G w G' w' s p s' p' (.agg xs)){j:Nat}{x:T}(hx:xs[j]? =iG x):MvC G w G' w' s (j::p) s' (j::p') x where
 hd z:=by have:=h.hd (z++[j]);grind
 ad z hz:=by
  have:=h.ad (z++[j]) (by grind[T.inT])
  grind
 lb b o f z hf hl:=by
  have:=h.lb b o f (z++[j]) (by grind[T.inT]) (by grind)
  grind
 ow b z hl:=by
  have:=h.ow b (z++[j]) (by grind)
  grind
 blk:=h.blk
mutual
theorem zL2:(t:T)→ ∀(p p':List Nat),t.okTup=iI→MvC G w G' w' s p s' p' t→xE (zAo G G') t→R St G w s t p→R St G' w' s' t p'
 |.agg xs,p,p',hn,h,hk,hr=>by
  simp only[R,xE,T.okTup]at hr hk hn ⊢
  exact zSk xs p p' 0 hn (fun j x hx=>by rw[Jc];exact h.field hx) hk hr
 |.any,p,p',_,h,hk,hr|.lit _,p,p',_,h,hk,hr|.ro _,p,p',_,h,hk,hr|.same _ _,p,p',_,h,hk,hr|.addr _ _,p,p',_,h,hk,hr|.sub _ _ _ _ _,p,p',_,h,hk,hr|.sl _ _,p,p',_,h,hk,hr|.ptr _,p,p',_,h,hk,hr=>
  zAr (h.moves rfl) _ hk hr
 |.tup _,_,_,hn,_,_,_=>by grind[T.okTup]
theorem zSk:(xs:List T)→ ∀(p p':List Nat)(j:Nat),yV xs=iI→(∀i x,xs[i]? =iG x→MvC G w G' w' s ((j+i)::p) s' ((j+i)::p') x)→wB (zAo G G') xs→RF St G w s xs p j→RF St G' w' s' xs p' j
 | [],_,_,_,_,_,_,_=>by simp only[RF]
 |x::xs,p,p',j,hn,h,hk,hr=>by
  simp only[RF,wB,yV,J4]at hr hk hn ⊢
  exact⟨zL2 x (j::p) (j::p') hn.1 (by simpa using h 0 x (by simp)) hk.1 hr.1,zSk xs p p' (j+1) hn.2 (fun i y hy=>by
   have:=h (i+1) y (by grind)
   grind) hk.2 hr.2⟩
end
end
theorem zPl{St:Stb}{G:Gh}{w:World}{s:Nat}:(xs:List T)→ ∀(p:List Nat)(j:Nat),(∀i x,xs[i]? =iG x→R St G w s x ((j+i)::p))→RF St G w s xs p j
 | [],_,_,_=>by simp only[RF]
 |x::xs,p,j,h=>by
  simp only[RF];exact⟨by simpa using h 0 x (by simp),zPl xs p (j+1) (fun i y hy=>by
   have:=h (i+1) y (by grind)
   grind)⟩
theorem zSl{St:Stb}{G:Gh}{w:World}{s:Nat}{k:Nat}:(xs:List T)→ ∀(p:List Nat)(j b o:Nat),(∀x∈xs,x.size=k)→vM G w s xs p j b o→RF St G w s xs p j→RL St G w s xs p j b o k
 | [],_,_,_,_,_,_,_=>by simp only[RL]
 |x::xs,p,j,b,o,hk,hl,hr=>by
  simp only[RL,vM,RF]at hl hr ⊢
  have h1:=hk x (by simp);exact⟨⟨hl.1,h1⟩,hr.1,zSl xs p (j+1) b (o+k) (by grind) (by grind) hr.2⟩
theorem wW{k:Nat}:(xs:List T)→(∀x∈xs,x.size=k)→T.sizes xs=xs.length*k
 | [],_=>by simp[T.sizes]
 |x::xs,h=>by simp[T.sizes,wW xs (fun y hy=>h y (by simp[hy])),h x (by simp),K1];omega
def Gh.nb(G:Gh)(d B:Nat)(xs:List T)(src:Nat→Option (Nat×List Nat))(φ:Nat→List Nat→Option (List Nat))(f:Nat→List Nat→Value)(hH:Value):Gh where
 hd s z:=if s=d then(match z.getLast? with
  |some i=>f i z.dropLast
  |none=>hH)else G.hd s z
 ad s z:=if s=d then(if(T.agg xs).inT z.reverse then⟨B,(T.agg xs).offT z.reverse,iH⟩else match z.getLast? with
  |some i=>(match src i with
   |some (x,q)=>G.ad x (z.dropLast++q)
   |none=>default)
  |none=>default)else G.ad s z
 lb b o:=if b=B then iG (match zCz xs [] 0 o with
  |some p=>(iJ,d,p)
  |none=>(iI,d,[]))else match G.lb b o with
  |some (fl,s,z)=>(match φ s z with
   |some z'=>iG (fl,d,z')
   |none=>iG (fl,s,z))
  |none=>iH
 ow b:=if b=B then iG (d,[])else match G.ow b with
  |some (s,z)=>(match φ s z with
   |some z'=>iG (d,z')
   |none=>iG (s,z))
  |none=>iH
theorem zDj{Γ:Ctx}{G:Gh}{w w':World}(hm:Mem Γ G w){cells:Array Value}{e:TypeId}(hw:w'.heap=w.heap.push (.cells cells e))(d:Nat)(xs:List T)
  (src:Nat→Option (Nat×List Nat))(φ:Nat→List Nat→Option (List Nat))(f:Nat→List Nat→Value)(hH:Value)(chg:Chg)
  (gB:yV xs=iI)(hf:∀(i:Nat)(z:List Nat),(f i z).oneCell'=iI)(hh:hH.oneCell'=iI)
  (hφ:∀(i:Nat) u x q(z:List Nat),xs[i]? =iG u→src i=iG (x,q)→φ x (z++q)=iG (z++[i]))
  (dK:∀(i:Nat) u x q,xs[i]? =iG u→src i=iG (x,q)→(∀z,f i z=G.hd x (z++q))∧R Γ.St G w x u q∧yE u∧x≠d)
  (az:∀(i:Nat) u,xs[i]? =iG u→src i=iH→ ∀(G2:Gh)(w2:World),(∀z,G2.hd d (z++[i])=f i z)→R Γ.St G2 w2 d u [i])
  (cB:∀(G2:Gh),(∀i z,G2.hd d (z++[i])=f i z)→ ∀(o:Nat)(v:Value),(yJ G2 d xs [] 0)[o]? =iG v→cells[o]? =iG v)
  (aT:∀s p,(∀n,(s,n)∉(d,0)::chg)→φ s p=iH)(ho:w'.os=w.os:=by rfl)(hq:w'.output=w.output:=by rfl):
  jB ((d,0)::chg) G w (G.nb d w.heap.size xs src φ f hH) w'∧Mem Γ (G.nb d w.heap.size xs src φ f hH) w'∧
  vM (G.nb d w.heap.size xs src φ f hH) w' d xs [] 0 w.heap.size 0∧RF Γ.St (G.nb d w.heap.size xs src φ f hH) w' d xs [] 0∧
  w'.heap[w.heap.size]? =iG (.cells cells e):=by
 have eQ:w'.heap[w.heap.size]? =iG (.cells cells e):=by grind
 have gI:∀b,b<w.heap.size→w'.heap[b]? =w.heap[b]?:=fun b hb=>by rw[hw,Array.getElem?_push];grind
 have gy:w'.heap.size=w.heap.size+1:=by grind
 have fg:∀b o,b<w.heap.size→yS w' b o=yS w b o:=fun b o hb=>by simp[yS,World.cell?,gI b hb]
 have gL:Blk w w':=fun b cs e' h=>⟨cs,by rw[gI b (by grind)];exact h,rfl⟩
 have gw:=hm.one
 generalize gn:G.nb d w.heap.size xs src φ f hH=G'
 have ghd:∀i z,G'.hd d (z++[i])=f i z:=fun i z=>by rw[←gn];simp[Gh.nb]
 have gad:∀g,(T.agg xs).inT g=iI→G'.ad d g.reverse=⟨w.heap.size,(T.agg xs).offT g,iH⟩:=fun g hg=>by rw[←gn];simp[Gh.nb,hg]
 have gadm:∀i x q z,src i=iG (x,q)→(T.agg xs).inT (i::z.reverse)=iJ→G'.ad d (z++[i])=G.ad x (z++q):=fun i x q z hs gQ=>by rw[←gn];simp[Gh.nb,gQ,hs]
 have glb:∀o p,zCz xs [] 0 o=iG p→G'.lb w.heap.size o=iG (iJ,d,p):=fun o p h=>by rw[←gn];simp[Gh.nb,h]
 have glbm:∀b o fl x z z',G.lb b o=iG (fl,x,z)→φ x z=iG z'→G'.lb b o=iG (fl,d,z'):=fun b o fl x z z' h1 h2=>by have:=(hm.lb b o _ h1).1;rw[←gn];simp[Gh.nb,h1,h2,show b≠w.heap.size from by omega]
 have gowm:∀b x z z',G.ow b=iG (x,z)→φ x z=iG z'→G'.ow b=iG (d,z'):=fun b x z z' h1 h2=>by have:=(hm.ow b _ h1).1;rw[←gn];simp[Gh.nb,h1,h2,show b≠w.heap.size from by omega]
 have gf:∀s p,Off ((d,0)::chg) s p→s≠d:=fun s p h e=>absurd (h 0 (by simp[e])) (by simp)
 have gx:jB ((d,0)::chg) G w G' w':=by
  refine⟨fun s p h=>?_,fun s p h=>?_,fun b o fl s p _ hl h=>⟨?_,fg b o (hm.lb b o _ hl).1⟩,fun b s p hl h=>?_,gL⟩
  ·rw[←gn];simp[Gh.nb,gf s p h]
  ·rw[←gn];simp[Gh.nb,gf s p h]
  ·have:=(hm.lb b o _ hl).1
   rw[←gn];simp[Gh.nb,hl,aT s p h,show b≠w.heap.size from by omega]
  ·have:=(hm.ow b _ hl).1
   rw[←gn];simp[Gh.nb,hl,aT s p h,show b≠w.heap.size from by omega]
 refine⟨gx,?_,?_,?_,eQ⟩
 ·
  have hB:zCw Γ w' w.heap.size:=⟨by omega,.inl hm.sz,by
   cases gD:Γ.St w.heap.size with
   |none=>rfl
   |some x=>have:=hm.st _ x gD;simp at this⟩
  have fK:∀b,zCw Γ w b→zCw Γ w' b:=fun b h=>⟨by have:=h.1;omega,h.2⟩
  refine⟨fun s p=>?_,fun b o l hl=>?_,fun b l hl=>?_,fun b x hx=>?_,fun b h1 h2=>?_,by have:=hm.sz;omega,hm.bk.trans gL ho hq⟩
  ·rw[←gn]
   simp only[Gh.nb];split
   ·split
    ·exact hf _ _
    ·exact hh
   ·exact gw s p
  ·rw[←gn]at hl
   simp only[Gh.nb]at hl;split at hl
   ·grind
   ·split at hl
    ·rename_i hg;exact fK b (hm.lb b o _ hg)
    ·cases hl
  ·rw[←gn]at hl
   simp only[Gh.nb]at hl;split at hl
   ·grind
   ·split at hl
    ·rename_i hg;exact fK b (hm.ow b _ hg)
    ·cases hl
  ·have:=hm.st b x hx
   rw[gI b (L5.1 this).1];exact this
  ·rw[gI b (Jav h1 hm.sz)]
   exact hm.fr b h1 h2
 ·
  refine zGM xs [] 0 w.heap.size 0 gB (fun i x hx g hg=>?_) (fun i p' _ hp=>by simpa using glb i p' hp) (fun i v hv=>?_)
  ·have:=gad (i::g) (by simp only[T.inT,hx];exact hg)
   simpa[T.offT,hx]using this
  ·have:=cB G' ghd i v hv
   rw[Jc];simp[yS,World.cell?,eQ,this]
 ·
  refine zPl xs [] 0 (fun i u hu=>?_);rw[Jc];cases hs:src i with
  |none=>exact az i u hu hs G' w' (fun z=>ghd i z)
  |some xq=>
   obtain⟨x,q⟩:=xq;obtain⟨h1,h2,h3,h4⟩:=dK i u x q hu hs;have gQ:∀g,(T.agg xs).inT (i::g)=u.inT g:=fun g=>by simp only[T.inT,hu]
   refine zL2 u q [i] (okTups_get xs gB i u hu) ⟨fun z=>by rw[ghd,h1],fun z hz=>gadm i x q z hs (by rw[gQ];exact hz),fun b o fl z hz hl=>⟨glbm b o fl x _ _ hl (hφ i u x q z hu hs),fg b o (hm.lb b o _ hl).1⟩,
    fun b z hl=>gowm b x _ _ hl (hφ i u x q z hu hs),gL⟩ (xE.mono (by simp) u h3) h2
where okTups_get:(xs:List T)→yV xs=iI→ ∀(i:Nat)(x:T),xs[i]? =iG x→x.okTup=iI
 | [],_,_,_,h=>by simp at h
 |y::ys,hk,i,x,h=>by
  simp only[yV,J4]at hk;cases i with
  |zero=>grind
  |succ i=>exact okTups_get ys hk.2 i x (by grind)
end Go.Ab

namespace Go.Ab
open Go
inductive yW where
 |slot (s:Nat) (t:T)
 |zero (u:T)
def yW.tree:yW→T
 |.slot _ t=>t
 |.zero u=>u
def sS:T→Bool
 |.lit _|.ro _=>iJ
 |_=>iI
mutual
def T.zOk:T→Bool
 |.lit v=>v.oneCell'
 |.sl _ xs=>xs.isEmpty
 |.agg xs=>zAu xs
 |.any|.ro _|.same _ _|.addr _ _|.sub _ _ _ _ _|.ptr _|.tup _=>iJ
def zAu:List T→Bool
 | []=>iI
 |x::xs=>x.zOk&&zAu xs
end
def zhd:T→List Nat→Value
 |.agg xs,i::f=>match xs[i]? with
  |some x=>zhd x f
  |none=>.bool iJ
 |.lit v,_=>v
 |.sl _ _,_=>.slice iH 0 0
 |.agg _,[] |.any,_|.ro _,_|.same _ _,_|.addr _ _,_|.sub _ _ _ _ _,_|.ptr _,_|.tup _,_=>.bool iJ
termination_by structural _ f=>f
mutual
def tZ:T→List Value
 |.lit v=>[v]
 |.sl _ _=>[.slice iH 0 0]
 |.agg xs=>qO xs
 |.any|.ro _|.same _ _|.addr _ _|.sub _ _ _ _ _|.ptr _|.tup _=>[]
def qO:List T→List Value
 | []=>[]
 |x::xs=>tZ x++qO xs
end
section
variable {St:Stb}{G:Gh}{w:World}{d:Nat}
mutual
theorem zKh:(u:T)→ ∀(p:List Nat),u.zOk=iI→(∀z,G.hd d (z++p)=kE (zhd u z.reverse))→R St G w d u p
 |.lit v,p,h,hd=>by
  simp only[T.zOk,R]at h ⊢
  have:=hd [];rw[Jv]at this;rw[this];exact zAt h
 |.sl k xs,p,h,hd=>by simp only[T.zOk,Jbb]at h;subst h;have:=hd [];rw[Jv]at this;simp only[R];exact .inl ⟨trivial,iH,by rw[this];rfl⟩
 |.agg xs,p,h,hd=>by
  simp only[T.zOk,R]at h ⊢
  exact zPm xs p 0 h (fun i x hx z=>by
   rw[Jc];have:=hd (z++[i])
   grind[zhd])
 |.any,_,h,_|.ro _,_,h,_|.same _ _,_,h,_|.addr _ _,_,h,_|.sub _ _ _ _ _,_,h,_|.ptr _,_,h,_|.tup _,_,h,_=>by grind[T.zOk]
theorem zPm:(xs:List T)→ ∀(p:List Nat)(j:Nat),zAu xs=iI→(∀i x,xs[i]? =iG x→ ∀z,G.hd d (z++((j+i)::p))=kE (zhd x z.reverse))→RF St G w d xs p j
 | [],_,_,_,_=>by simp only[RF]
 |x::xs,p,j,h,hd=>by
  simp only[zAu,J4,RF]at h ⊢
  exact⟨zKh x (j::p) h.1 (by simpa using hd 0 x (by simp)),zPm xs p (j+1) h.2 (fun i y hy z=>by
   have:=hd (i+1) y (by grind) z
   grind)⟩
end
end
section
variable {G:Gh}{d:Nat}
mutual
theorem zF4:(u:T)→ ∀(p:List Nat),u.zOk=iI→(∀z,G.hd d (z++p)=kE (zhd u z.reverse))→vals G d u p=tZ u
 |.lit v,p,h,hd=>by
  simp only[T.zOk,vals,tZ]at h ⊢
  have:=hd []
  grind[zhd,zAt]
 |.sl k xs,p,h,hd=>by
  have:=hd []
  grind[vals,tZ,zhd,kE,Value.oneCell']
 |.agg xs,p,h,hd=>by
  simp only[T.zOk,vals,tZ]at h ⊢
  exact zDW xs p 0 h (fun i x hx z=>by
   rw[Jc];have:=hd (z++[i])
   grind[zhd])
 |.any,_,h,_|.ro _,_,h,_|.same _ _,_,h,_|.addr _ _,_,h,_|.sub _ _ _ _ _,_,h,_|.ptr _,_,h,_|.tup _,_,h,_=>by grind[T.zOk]
theorem zDW:(xs:List T)→ ∀(p:List Nat)(j:Nat),zAu xs=iI→(∀i x,xs[i]? =iG x→ ∀z,G.hd d (z++((j+i)::p))=kE (zhd x z.reverse))→yJ G d xs p j=qO xs
 | [],_,_,_,_=>by rfl
 |x::xs,p,j,h,hd=>by
  simp only[zAu,J4,yJ,qO]at h ⊢
  rw[zF4 x (j::p) h.1 (by simpa using hd 0 x (by simp)),zDW xs p (j+1) h.2 (fun i y hy z=>by
   have:=hd (i+1) y (by grind) z
   grind)]
end
end
mutual
theorem zBs:(u:T)→u.zOk=iI→yE u∧u.okTup=iI
 |.lit _,_=>by simp[yE,xE,T.okTup]
 |.sl _ xs,h=>by simp only[T.zOk,Jbb]at h;subst h;simp[yE,xE,wB,T.okTup]
 |.agg xs,h=>by simp only[T.zOk]at h;simpa only[yE,xE,T.okTup]using zBK xs h
 |.any,h|.ro _,h|.same _ _,h|.addr _ _,h|.sub _ _ _ _ _,h|.ptr _,h|.tup _,h=>by grind[T.zOk]
theorem zBK:(xs:List T)→zAu xs=iI→xW xs∧yV xs=iI
 | [],_=>by simp[xW,wB,yV]
 |x::xs,h=>by simp only[zAu,J4]at h;simp only[xW,wB,yV,J4];exact⟨⟨(zBs x h.1).1,(zBK xs h.2).1⟩,(zBs x h.1).2,(zBK xs h.2).2⟩
end
mutual
theorem vG:(u:T)→u.zOk=iI→(tZ u).length=u.size
 |.lit _,_|.sl _ _,_=>by rfl
 |.agg xs,h=>by simp only[T.zOk]at h;simp only[tZ,T.size];exact zBd xs h
 |.any,h|.ro _,h|.same _ _,h|.addr _ _,h|.sub _ _ _ _ _,h|.ptr _,h|.tup _,h=>by grind[T.zOk]
theorem zBd:(xs:List T)→zAu xs=iI→(qO xs).length=T.sizes xs
 | [],_=>by rfl
 |x::xs,h=>by simp only[zAu,J4]at h;simp only[qO,J5,T.sizes,vG x h.1,zBd xs h.2]
end
def zHl(ps:List yW)(i:Nat):Option (Nat×List Nat):=
 match ps[i]? with
 |some (.slot s t)=>if sS t then iG (s,[])else iH
 |_=>iH
def zIN:List yW→Nat→Nat→Option Nat
 | [],_,_=>iH
 |.slot x t::r,i,s=>if sS t&&x==s then iG i else zIN r (i+1) s
 |.zero _::r,i,s=>zIN r (i+1) s
def zIO(ps:List yW)(s:Nat)(z:List Nat):Option (List Nat):=
 match zIN ps 0 s with
 |some i=>iG (z++[i])
 |none=>iH
def pWr(d:Nat):List yW→Nat→Wr
 | [],_=>[]
 |.slot s t::r,i=>if sS t then(s,iG (cpT d t [i]))::pWr d r (i+1)else pWr d r (i+1)
 |.zero _::r,i=>pWr d r (i+1)
def xX:List yW→List Nat
 | []=>[]
 |.slot s t::r=>if sS t then s::xX r else xX r
 |.zero _::r=>xX r
def sT(ps:List yW):Chg:=(xX ps).map fun s=>(s,1)
def qS(G:Gh):yW→List Value
 |.slot s t=>vals G s t []
 |.zero u=>tZ u
def pHd(G:Gh)(ps:List yW)(i:Nat)(z:List Nat):Value:=
 match ps[i]? with
 |some (.slot s _)=>G.hd s z
 |some (.zero u)=>kE (zhd u z.reverse)
 |none=>.bool iJ
structure tU (E:Env) (d:Nat) (ps:List yW):Prop where
 slot:∀s t,yW.slot s t∈ps→E s=iG t∧yE t∧t.okTup=iI
 zero:∀u,yW.zero u∈ps→u.zOk=iI
 dist:(d::xX ps).Nodup
theorem zBt:(ps:List yW)→ ∀(i0 i s:Nat)(t:T),ps[i]? =iG (.slot s t)→sS t=iI→(xX ps).Nodup→zIN ps i0 s=iG (i0+i)
 | [],_,_,_,_,h,_,_=>by simp at h
 |.slot x u::r,i0,i,s,t,h,hm,hn=>by
  cases i with
  |zero=>simp at h;obtain⟨rfl,rfl⟩:=h;simp[zIN,hm]
  |succ i=>
   simp only[Q6]at h;have gQ:s∈xX r:=pSlots_mem r i s t h hm;simp only[zIN]
   by_cases hu:sS u=iI
   ·simp only[xX,hu,if_true,L9]at hn
    have:x≠s:=by grind
    simp only[hu,Bool.true_and,beq_iff_eq,this,if_false];rw[zBt r (i0+1) i s t h hm hn.2]
    grind
   ·simp only[xX,hu]at hn
    simp only[hu,Jce,Hx,if_false];rw[zBt r (i0+1) i s t h hm (by grind)]
    grind
 |.zero u::r,i0,i,s,t,h,hm,hn=>by
  cases i with
  |zero=>simp at h
  |succ i=>
   simp only[Q6]at h;simp only[zIN];rw[zBt r (i0+1) i s t h hm (by grind[xX])]
   grind
where pSlots_mem:(ps:List yW)→ ∀(i s:Nat)(t:T),ps[i]? =iG (.slot s t)→sS t=iI→s∈xX ps
 | [],_,_,_,h,_=>by simp at h
 |.slot x u::r,i,s,t,h,hm=>by
  cases i with
  |zero=>simp at h;obtain⟨rfl,rfl⟩:=h;simp[xX,hm]
  |succ i=>
   have:=pSlots_mem r i s t (by grind) hm
   grind[xX]
 |.zero u::r,i,s,t,h,hm=>by
  cases i with
  |zero=>simp at h
  |succ i=>simpa only[xX]using pSlots_mem r i s t (by grind) hm
theorem zDk:(ps:List yW)→ ∀(i0 s:Nat),s∉xX ps→zIN ps i0 s=iH
 | [],_,_,_=>by rfl
 |.slot x u::r,i0,s,h=>by
  simp only[zIN]
  by_cases hu:sS u=iI
  ·simp only[xX,hu,if_true,J9,not_or]at h
   simp only[hu,Bool.true_and,beq_iff_eq,Ne.symm h.1,if_false];exact zDk r _ s h.2
  ·simp only[xX,hu]at h
   simp only[hu,Jce,Hx,if_false];exact zDk r _ s (by grind)
 |.zero u::r,i0,s,h=>by simp only[zIN];exact zDk r _ s (by grind[xX])
theorem zC0:(ps:List yW)→ ∀(d i0 s:Nat)(x:Option T),(pWr d ps i0).find s=iG x→ ∃i t,ps[i]? =iG (.slot s t)∧sS t=iI∧x=iG (cpT d t [i0+i])
 | [],_,_,_,_,h=>by grind[pWr,Wr.find]
 |.slot y u::r,d,i0,s,x,h=>by
  simp only[pWr]at h;split at h
  ·rename_i hu
   simp only[Wr.find]at h;split at h
   ·rename_i he;subst he;simp at h;exact⟨0,u,by simp,hu,by grind⟩
   ·obtain⟨i,t,h1,h2,h3⟩:=zC0 r d (i0+1) s x h
    exact⟨i+1,t,by grind,h2,by grind⟩
  ·obtain⟨i,t,h1,h2,h3⟩:=zC0 r d (i0+1) s x h
   exact⟨i+1,t,by grind,h2,by grind⟩
 |.zero u::r,d,i0,s,x,h=>by simp only[pWr]at h;obtain⟨i,t,h1,h2,h3⟩:=zC0 r d (i0+1) s x h;exact⟨i+1,t,by grind,h2,by grind⟩
theorem zC1:(ps:List yW)→ ∀(d i0 s:Nat),(pWr d ps i0).find s=iH→s∉xX ps
 | [],_,_,_,_=>by simp[xX]
 |.slot y u::r,d,i0,s,h=>by
  simp only[pWr]at h;simp only[xX];split at h
  ·rename_i hu
   simp only[Wr.find]at h;split at h
   ·cases h
   ·rename_i gf
    simp only[hu,if_true,J9,not_or];exact⟨fun e=>gf e.symm,zC1 r d _ s h⟩
  ·rename_i hu
   simp only[hu];simpa using zC1 r d _ s h
 |.zero u::r,d,i0,s,h=>by simp only[pWr]at h;simpa only[xX]using zC1 r d _ s h
section
variable {Γ:Ctx}{E:Env}{G:Gh}{tmps:Array Value}{w:World}{d:Nat}{ps:List yW}
theorem zGs(g9:Rep Γ E G tmps w)(h:tU E d ps):
  yV (ps.map yW.tree)=iI∧xW (ps.map yW.tree)∧(∀i z,(pHd G ps i z).oneCell'=iI)∧
  (∀(i:Nat) u x q(z:List Nat),(ps.map yW.tree)[i]? =iG u→zHl ps i=iG (x,q)→zIO ps x (z++q)=iG (z++[i]))∧
  (∀(i:Nat) u x q,(ps.map yW.tree)[i]? =iG u→zHl ps i=iG (x,q)→(∀z,pHd G ps i z=G.hd x (z++q))∧R Γ.St G w x u q∧yE u∧x≠d)∧
  (∀(i:Nat) u,(ps.map yW.tree)[i]? =iG u→zHl ps i=iH→ ∀(G2:Gh)(w2:World),(∀z,G2.hd d (z++[i])=pHd G ps i z)→R Γ.St G2 w2 d u [i])∧
  (∀s p,(∀n,(s,n)∉(d,0)::sT ps)→zIO ps s p=iH):=by
 have mE:=L9.1 h.dist;refine⟨?_,?_,?_,?_,?_,?_,?_⟩
 ·have:∀qs:List yW,(∀p∈qs,p∈ps)→yV (qs.map yW.tree)=iI:=by
   intro qs
   induction qs with
   |nil=>intro _;rfl
   |cons q qs ih=>
    intro hq;simp only[Jn,yV,J4];refine⟨?_,by grind⟩;cases q with
    |slot s t=>exact(h.slot s t (hq _ (by simp))).2.2
    |zero u=>exact(zBs u (h.zero u (hq _ (by simp)))).2
  grind
 ·have:∀qs:List yW,(∀p∈qs,p∈ps)→xW (qs.map yW.tree):=by
   intro qs
   induction qs with
   |nil=>intro _;trivial
   |cons q qs ih=>
    intro hq;simp only[Jn,xW,wB];refine⟨?_,by grind⟩;cases q with
    |slot s t=>exact(h.slot s t (hq _ (by simp))).2.1
    |zero u=>exact(zBs u (h.zero u (hq _ (by simp)))).1
  grind
 ·intro i z
  unfold pHd;split
  ·exact g9.mem.one _ _
  ·exact zBr _
  ·rfl
 ·intro i u x q z hu hs
  rw[K5]at hu;unfold zHl at hs;cases hp:ps[i]? with
  |none=>grind
  |some p=>
   cases p with
   |zero v=>grind
   |slot s t=>
    simp only[hp]at hs;split at hs
    ·rename_i hm
     simp at hs;obtain⟨rfl,rfl⟩:=hs;simp[zIO,zBt ps 0 i s t hp hm mE.2]
    ·cases hs
 ·intro i u x q hu hs
  rw[K5]at hu;unfold zHl at hs;cases hp:ps[i]? with
  |none=>grind
  |some p=>
   cases p with
   |zero v=>grind
   |slot s t=>
    simp only[hp]at hs;split at hs
    ·rename_i hm
     simp at hs;obtain⟨rfl,rfl⟩:=hs;simp[hp,yW.tree]at hu;subst hu;obtain⟨h1,h2,h3⟩:=h.slot s t (by grind);refine⟨by grind[pHd],(g9.ent s t h1).2.1,h2,fun e=>mE.1 ?_⟩
     grind[zBt.pSlots_mem]
    ·cases hs
 ·intro i u hu hs G2 w2 fm
  rw[K5]at hu;unfold zHl at hs;cases hp:ps[i]? with
  |none=>grind
  |some p=>
   cases p with
   |zero v=>
    simp[hp,yW.tree]at hu;subst hu;exact zKh v [i] (h.zero v (by grind)) (by grind[pHd])
   |slot s t=>
    simp only[hp]at hs;split at hs
    ·cases hs
    ·rename_i hm
     simp[hp,yW.tree]at hu;subst hu;have h1:=(g9.ent s t (h.slot s t (by grind)).1).2.1;have h2:G2.hd d [i]=G.hd s []:=by have:=fm [];grind[pHd]
     cases t<;>simp[sS]at hm<;>simp only[R]at h1 ⊢ <;>rw[h2]<;>exact h1
 ·intro s p gG
  have:s∉xX ps:=fun gQ=>gG 1 (by grind[sT])
  grind[zIO,zDk]
theorem zDX(g9:Rep Γ E G tmps w)(h:tU E d ps)(G2:Gh):∀(qs:List yW)(i0:Nat),(∀i q,qs[i]? =iG q→ps[i0+i]? =iG q)→(∀i z,G2.hd d (z++[i])=pHd G ps i z)→
  yJ G2 d (qs.map yW.tree) [] i0=qs.flatMap (qS G)
 | [],_,_,_=>by rfl
 |q::qs,i0,hq,fm=>by
  have h0:ps[i0]? =iG q:=by simpa using hq 0 q (by simp)
  have ih:=zDX g9 h G2 qs (i0+1) (fun i p hp=>by rw[show i0+1+i=i0+(i+1)from by omega];simp_all) fm;simp only[Jn,yJ,Lo,ih]
  congr 1
  cases q with
  |slot s t=>exact zAO t [] [i0] (by grind[pHd])
  |zero u=>exact zF4 u [i0] (h.zero u (by grind)) (by grind[pHd])
end
end Go.Ab

namespace Go.Ab
open Go
section
variable {P:Program}{Γ:Ctx}{E:Env}{o:Oper}{d:Nat}
theorem zJo{G G':Gh}{w':World}{s i:Nat}{t:T}{v:Option Value}(hv:v=iG (mkV G s t []))(eh:∀xs,t≠.tup xs)(hs:∀p,G'.hd s p=G.hd s p)(bw:∀z,G'.hd d (z++[i])=G.hd s z)
  (hr:R Γ.St G' w' d t [i]):Ent Γ G' w' v s (cpT d t [i]):=by
 have hz:∀z,G'.hd s (z++[])=G'.hd d (z++[i]):=by grind
 refine⟨?_,?_,qX d t [i]⟩
 ·rw[hv,zA8 (G:=G') (G':=G') t [i] [] eh hz,kV G s t [] eh,zBH t [] [i] (fun z=>by rw[bw,Je])]
 ·exact zDS (G:=G') (G':=G') (fun _=>rfl) t [i] [] hz eh (xE.triv (fun _ _=>⟨rfl,rfl⟩) _) hr
theorem zBu{G:Gh}{a:Act}{w w':World}{ps:List yW}(g9:Rep Γ E G a.tmps w)(h:tU E d ps)(hd:d<Γ.N){cells:Array Value}{e:TypeId}(hw:w'.heap=w.heap.push (.cells cells e))
  (cB:∀(o:Nat)(v:Value),(ps.flatMap (qS G))[o]? =iG v→cells[o]? =iG v)
  (rt:T)(hH:Value)
  (ff:(∃k cap,rt=.sl k (ps.map yW.tree)∧(∀p∈ps,p.tree.size=k)∧hH=.slice (iG ⟨w.heap.size,0,iH⟩) ps.length cap∧ps.length≤cap∧cap≤maxLen∧cells.size=cap*k)∨
   ∃p,ps=[p]∧rt=.ptr p.tree∧hH=.pointer (iG ⟨w.heap.size,0,iH⟩)∧cells.size=p.tree.size)
  (ho:w'.os=w.os:=by rfl)(hq:w'.output=w.output:=by rfl):
  ∃G',Rep Γ (E.app ((d,iG rt)::pWr d ps 0) ((d,0)::sT ps)) G' (a.tmps.setIfInBounds d hH) w':=by
 obtain⟨f1,f0,f2,f3,f4,f5,f6⟩:=zGs g9 h;have hh:hH.oneCell'=iI:=by rcases ff with⟨k,cap,_,_,rfl,_⟩|⟨p,_,_,rfl,_⟩<;>rfl
 have mE:=L9.1 h.dist;obtain⟨g1,g2,g3,g4,g5⟩:=zDj g9.mem hw d (ps.map yW.tree) (zHl ps) (zIO ps) (pHd G ps) hH (sT ps) f1 f2 hh f3 f4 f5
  (fun G2 fm o v hv=>cB o v (by rw[zDX g9 h G2 ps 0 (by simp) fm]at hv;exact hv)) f6 (ho:=ho) (hq:=hq)
 refine⟨_,vN g9 (by simp) g1 g2 ?_ ?_⟩
 ·intro s hs
  simp only[Wr.find]at hs;split at hs
  ·cases hs
  ·rename_i gf
   have hns:=zC1 ps d 0 s hs;refine⟨fun n hn=>?_,by grind⟩;simp only[J9,Jal.injEq,sT,Jl]at hn;rcases hn with⟨e1,_⟩|⟨y,hy,e1,_⟩
   ·omega
   grind
 ·intro s t hs
  simp only[Wr.find]at hs;split at hs
  ·rename_i he
   subst he;simp at hs;subst hs;have pt:(G.nb d w.heap.size (ps.map yW.tree) (zHl ps) (zIO ps) (pHd G ps) hH).hd d []=hH:=by simp[Gh.nb]
   have how:(G.nb d w.heap.size (ps.map yW.tree) (zHl ps) (zIO ps) (pHd G ps) hH).ow w.heap.size=iG (d,[]):=by simp[Gh.nb]
   refine⟨?_,?_,?_⟩
   ·rw[Jm]
    rcases ff with⟨k,cap,rfl,_⟩|⟨p,_,rfl,_⟩<;>simp[g9.size,hd,mkV,pt]
   ·rcases ff with⟨k,cap,rfl,hk,h1,h2,h3,h4⟩|⟨p,rfl,rfl,h1,h4⟩
    ·simp only[R]
     rw[pt];refine .inr ⟨w.heap.size,cap,cells,e,by grind,g5,by grind,h3,by omega,how,?_,zSl _ _ _ _ _ (fun x hx=>?_) g3 g4⟩
     ·intro o ho _
      have gy:T.sizes (ps.map yW.tree)=(ps.map yW.tree).length*k:=wW _ (fun x hx=>by
       obtain⟨p,hp,rfl⟩:=Jl.1 hx
       grind)
      simp[Gh.nb,zDV (ps.map yW.tree) [] 0 o (by omega)]
     ·obtain⟨p,hp,rfl⟩:=Jl.1 hx
      grind
    ·simp only[R]
     rw[pt];simp only[Jn,U2,vM,RF]at g3 g4;exact⟨w.heap.size,cells,e,h1,g5,h4,how,g3.1,g4.1⟩
   ·rcases ff with⟨k,cap,rfl,_⟩|⟨p,rfl,rfl,_⟩
    ·simp only[Top];exact f0
    ·simp only[Top];exact f0.1
  ·rename_i gf
   obtain⟨i,u,h1,h2,h3⟩:=zC0 ps d 0 s _ hs;simp only[Jc]at h3;simp at h3;subst h3;obtain⟨h4,h5,h6⟩:=h.slot s u (Lv h1);have eh:∀xs,u≠.tup xs:=by rintro xs rfl;simp[T.okTup]at h6
   have hi:(ps.map yW.tree)[i]? =iG u:=by simp[h1,yW.tree]
   have hr:=zBc _ [] 0 i u g4 hi;simp only[Jc]at hr;refine zJo (G:=G) (by rw[Jm];simp only[gf,if_false];exact(g9.ent s u h4).1) eh (fun p=>?_) (fun z=>?_) hr
   ·simp[Gh.nb,show s≠d from fun e=>gf e.symm]
   ·simp[Gh.nb,pHd,h1]
inductive zAj (E:Env):Operand→yW→Prop where
 |slot (s:Nat) (t:T):zAj E (.tmp s) (.slot s t)
 |zero (v:Value) (u:T) (h:tZ u=v.cells.toList):zAj E (.const v) (.zero u)
theorem zAA{G:Gh}{a:Act}{w:World}{ps:List yW}(g9:Rep Γ E G a.tmps w)(h:tU E d ps){x:Operand}{p:yW}(hp:p∈ps)(hx:zAj E x p):
  (a.eval x).cells.toList=qS G p:=by
 cases hx with
 |slot s t=>
  obtain⟨h1,h2,h3⟩:=h.slot s t hp;obtain⟨h4,_,_⟩:=g9.ent s t h1;rw[wK h4];cases t with
  |agg xs=>rfl
  |tup xs=>grind[T.okTup]
  |_=>
   have:=g9.mem.one s [];simp only[mkV,vals,qS]
   generalize G.hd s []=v at this
   cases v<;>simp[Value.oneCell',Value.cells]at this ⊢
 |zero v u h=>simp[Act.eval,h,qS]
def uJ(E:Env):List Operand→List yW→Prop
 | [],[]=>True
 |x::xs,p::ps=>zAj E x p∧uJ E xs ps
 |_,_=>False
theorem uJ.length:(xs:List Operand)→(ps:List yW)→uJ E xs ps→xs.length=ps.length
 | [],[],_=>rfl
 |_::xs,_::ps,h=>by simp[uJ.length xs ps h.2]
 | [],_::_,h=>by simp[uJ]at h
 |_::_,[],h=>by simp[uJ]at h
theorem uJ.mem:(xs:List Operand)→(ps:List yW)→uJ E xs ps→ ∀x∈xs,∃p,p∈ps∧zAj E x p
 | [],_,_,x,hx=>by simp at hx
 |y::xs,p::ps,h,x,hx=>by
  rcases J9.1 hx with rfl|hx
  ·exact⟨p,by simp,h.1⟩
  ·obtain⟨q,hq,hxq⟩:=uJ.mem xs ps h.2 x hx;exact⟨q,by simp[hq],hxq⟩
 |_::_,[],h,_,_=>by simp[uJ]at h
theorem zHm{G:Gh}{a:Act}{w:World}{ps:List yW}(g9:Rep Γ E G a.tmps w)(h:tU E d ps):∀(xs:List Operand)(qs:List yW),(∀q∈qs,q∈ps)→uJ E xs qs→
  ((xs.map a.eval).flatMap fun v=>v.cells.toList)=qs.flatMap (qS G)
 | [],[],_,_=>rfl
 |x::xs,q::qs,hq,hx=>by simp only[Jn,Lo,zAA g9 h (hq q (by simp)) hx.1,zHm g9 h xs qs (by grind) hx.2]
 | [],_::_,_,hx=>by simp[uJ]at hx
 |_::_,[],_,hx=>by simp[uJ]at hx
theorem zSm(T':TypeId)(ti:TypeInfo)(z:Value)(u:T)(ho:o.op=.alloc T')(gg:o.dst=iG d)(hd:d<Γ.N)
  (hi:P.info? T'=iG ti)(hz:ti.zero=iG z)(hu:u.zOk=iI)(hv:tZ u=z.cells.toList)(gy:z.cells.size=u.size):
  wQ P Γ o E (E.app [(d,iG (.ptr u))] [(d,0)]):=by
 refine wQ.value gg fun a w G g9=>?_
 have gW:tU E d [.zero u]:=⟨by simp,by grind,by simp[xX]⟩;obtain⟨G',gn⟩:=zBu (w':=w.alloc (.cells z.cells T')) g9 gW hd (cells:=z.cells) (e:=T') rfl (by grind[qS]) (.ptr u) (.pointer (iG ⟨w.heap.size,0,iH⟩)) (.inr ⟨.zero u,rfl,rfl,rfl,gy⟩);refine⟨_,_,?_,G',by simpa[pWr,sT,xX]using gn⟩;simp[execOp,ho,Instr.alloc,zeroValue,typeInfo,hi,hz,newVar,newRow]
theorem zYy(T':TypeId)(x:Operand)(p:yW)(ho:o.op=.box T' x)(gg:o.dst=iG d)(hd:d<Γ.N)(hx:zAj E x p)(gW:tU E d [p]):
  wQ P Γ o E (E.app ((d,iG (.ptr p.tree))::pWr d [p] 0) ((d,0)::sT [p])):=by
 refine wQ.value gg fun a w G g9=>?_
 have hc:=zAA g9 gW (by simp) hx;have gy:(a.eval x).cells.size=p.tree.size:=by
  rw[←Ks,hc];cases p with
  |slot s t=>
   obtain⟨_,_,h3⟩:=gW.slot s t (by simp);show(vals G s t []).length=t.size;exact vJ t [] (by rintro xs rfl;grind[T.okTup])
  |zero u=>exact vG u (gW.zero u (by simp))
 obtain⟨G',gn⟩:=zBu (w':=w.alloc (.cells (a.eval x).cells T')) g9 gW hd (cells:=(a.eval x).cells) (e:=T') rfl (by grind) (.ptr p.tree) (.pointer (iG ⟨w.heap.size,0,iH⟩)) (by grind);refine⟨_,_,?_,G',gn⟩;simp[execOp,ho,Instr.box,newVar,newRow]
theorem zIP(t e:TypeId)(ti:TypeInfo)(z:Value)(k n:Nat)(xs:List Operand)(ps:List yW)(ho:o.op=.buildSlice t n ((xs.zipIdx 0).map fun x=>(x.2,x.1)).toArray)(gg:o.dst=iG d)(hd:d<Γ.N)
  (ht:P.underlying t=iG (.slice e))(hi:P.info? e=iG ti)(hz:ti.zero=iG z)(hk:ti.size=k)(eW:0<k)(hn:xs.length=n)(aB:0<n)(hsm:n*k≤2 ^ 24)
  (hx:uJ E xs ps)(gW:tU E d ps)(gy:∀p∈ps,p.tree.size=k):
  wQ P Γ o E (E.app ((d,iG (.sl k (ps.map yW.tree)))::pWr d ps 0) ((d,0)::sT ps)):=by
 refine wQ.value gg fun a w G g9=>?_
 subst hk;have gj:xs.length=ps.length:=uJ.length xs ps hx;have hc:=zHm g9 gW xs ps (fun _ h=>h) hx;have cG:∀v∈xs.map a.eval,v.cells.size=ti.size:=by
  intro v hv;obtain⟨x,bK,rfl⟩:=Jl.1 hv;obtain⟨p,hp,hxp⟩:=uJ.mem xs ps hx x bK;rw[←Ks,zAA g9 gW hp hxp,←gy p hp];cases p with
  |slot s t=>
   obtain⟨_,_,h3⟩:=gW.slot s t hp;show(vals G s t []).length=t.size;exact vJ t [] (by rintro xs rfl;simp[T.okTup]at h3)
  |zero u=>exact vG u (gW.zero u hp)
 have aN:=Great.fill_whole eW (xs.map a.eval) ((Jbz (n*ti.size)).map (z.cells[· %z.cells.size]!)) cG (by simp[hn]);have bc:((((xs.zipIdx 0).map fun x=>(x.2,x.1)).toArray).map fun(i,x)=>(i,a.eval x)).toList=((xs.map a.eval).zipIdx 0).map fun x=>(x.2,x.1):=by simp[List.zipIdx_map,Function.comp_def]
 have gz:=run_buildSlice (P:=P) w t e n _ _ ti z ht hi hz (by omega) (by have:=Jbh aB eW;omega) (by rw[bc];exact aN);have gP:((xs.map a.eval).flatMap fun v=>v.cells.toList).toArray.size=n*ti.size:=by rw[Jbl,zFe (k:=ti.size) _ (fun v hv=>by rw[Ks];exact cG v hv)];simp[hn]
 obtain⟨G',gn⟩:=zBu (w':=w.alloc (.cells ((xs.map a.eval).flatMap fun v=>v.cells.toList).toArray e)) g9 gW hd rfl (fun o v h=>by rw[hc];simpa using h) (.sl ti.size (ps.map yW.tree)) (.slice (iG ⟨w.heap.size,0,iH⟩) n n) (.inl ⟨ti.size,n,rfl,gy,by rw[←gj,hn],by omega,by have:n≤n*ti.size:=Jaw n eW;simp only[maxLen];omega,gP⟩)
 refine⟨_,_,?_,G',gn⟩;simp only[execOp,ho,Sem.run_bind,gz,Result.andThen_ok];rfl
where
 zFe {k:Nat} (vs:List Value) (h:∀v∈vs,v.cells.toList.length=k):(vs.flatMap fun v=>v.cells.toList).length=vs.length*k:=by
  induction vs with
  |nil=>simp
  |cons v vs ih=>simp[Lo,ih (fun u hu=>h u (by simp[hu])),K1];have:=h v (by simp);simp at this;omega
end
end Go.Ab

namespace Go.Ab
open Go
theorem zKi{α β:Type}(f:α→List β)(x:α)(k:Nat)(hk:(f x).length=k)(eW:0<k):∀(n o:Nat)(v:β),((J1 n x).flatMap f)[o]? =iG v→o<n*k∧(f x)[o%k]? =iG v
 |0,o,v,h=>by simp at h
 |n+1,o,v,h=>by
  rw[Ju,Lo,Kq]at h;split at h
  ·grind[Nat.mod_eq_of_lt]
  ·rename_i hge
   rw[hk]at h hge;obtain⟨h1,h2⟩:=zKi f x k hk eW n (o-k) v h
   grind[Nat.mod_eq_sub_mod]
section
variable {P:Program}{Γ:Ctx}{E:Env}{o:Oper}{d:Nat}
theorem zVR(t e:TypeId)(ti:TypeInfo)(z:Value)(u:T)(k:Nat)(x y:Operand)(n c:Nat)(kl kc:IntKind)(ho:o.op=.makeSlice t x y)(gg:o.dst=iG d)(hd:d<Γ.N)
  (ht:P.underlying t=iG (.slice e))(hi:P.info? e=iG ti)(hz:ti.zero=iG z)(hk:ti.size=k)(eW:0<k)(hu:u.zOk=iI)(hv:tZ u=z.cells.toList)(fT:u.size=k)(hb:ti.bytes≤4096)
  (hx:opT E x=iG (.lit (.int kl n)))(hy:opT E y=iG (.lit (.int kc c)))(cZ:n≤c)(hc:c≤68719476736):
  wQ P Γ o E (E.app [(d,iG (.sl k (J1 n u)))] [(d,0)]):=by
 refine wQ.value gg fun a w G g9=>?_
 have h1:=(wL g9 hx).1;have h2:=(wL g9 hy).1;subst hk;have gW:tU E d (J1 n (.zero u)):=⟨by simp,fun v h=>by simp_all,by
  have:∀m,xX (J1 m (.zero u))=[]:=by intro m;induction m with|zero=>rfl|succ m ih=>grind[xX]
  simp[this]⟩
 have hzs:z.cells.size=ti.size:=by grind[vG]
 have bA:(ti.bytes:Int)*(c:Int)≤281474976710656:=by have:ti.bytes*c≤4096*68719476736:=Jr hb hc;omega
 have gz:=run_make (P:=P) w t e ti z ht hi hz kl kc n c (by omega) (by omega) bA (by omega);simp only[J8]at gz;obtain⟨G',gn⟩:=zBu (w':=w.alloc (.cells (madeCells z.cells (c*ti.size)) e)) g9 gW hd rfl (fun i v h=>by
  obtain⟨h3,h4⟩:=zKi (qS G) (.zero u) ti.size (by grind[qS]) eW n i v h
  grind[Jav,Kb,qS,madeCells]) (.sl ti.size (J1 n u)) (.slice (iG ⟨w.heap.size,0,iH⟩) n c)
  (.inl ⟨ti.size,c,by simp[yW.tree],fun p hp=>by simp at hp;obtain⟨_,rfl⟩:=hp;exact fT,by simp,by grind,by grind[maxLen],by simp[madeCells]⟩)
 refine⟨.slice (iG ⟨w.heap.size,0,iH⟩) n c,w.alloc (.cells (madeCells z.cells (c*ti.size)) e),?_,G',?_⟩
 ·simp only[execOp,ho,h1,h2,Sem.run_bind,gz,Result.andThen_ok]
  rfl
 ·have h6:∀m i,pWr d (J1 m (.zero u)) i=[]:=by intro m;induction m with|zero=>intro i;rfl|succ m ih=>grind[pWr]
  have h7:sT (J1 n (.zero u))=[]:=by
   have:∀m,xX (J1 m (.zero u))=[]:=by intro m;induction m with|zero=>rfl|succ m ih=>grind[xX]
   grind[sT]
  grind
theorem zHn(t e:TypeId)(ti:TypeInfo)(k:Nat)(ho:o.op=.buildSlice t 0 #[])(gg:o.dst=iG d)(hd:d<Γ.N)
  (ht:P.underlying t=iG (.slice e))(hi:P.info? e=iG ti):wQ P Γ o E (E.app [(d,iG (.sl k []))] [(d,0)]):=by
 refine wQ.value gg fun a w G g9=>?_
 have gW:tU E d []:=⟨by simp,by simp,by simp[xX]⟩;obtain⟨G',gn⟩:=zBu (w':=w.alloc (.cells #[] e)) g9 gW hd (cells:=#[]) rfl (by simp) (.sl k []) (.slice (iG ⟨w.heap.size,0,iH⟩) 0 0)
  (by simp)
 refine⟨_,_,?_,G',gn⟩;have h0:(Jbz 0:Array Nat)= #[]:=by rfl
 simp[execOp,ho,Instr.buildSlice,run_underlying ht,sizeOf,typeInfo,hi,Instr.fill,newRow,h0]
theorem zL3(k:Nat)(x:Operand)(ho:o.op=.move x∨o.op=.assign x)(hx:x=.const (.slice iH 0 0))(gg:o.dst=iG d)(hd:d<Γ.N):wQ P Γ o E (E.app [(d,iG (.sl k []))] [(d,0)]):=by
 refine wQ.value gg fun a w G g9=>?_
 refine⟨.slice iH 0 0,w,?_,_,vQ g9 rfl hd (fun _=>.slice iH 0 0) (fun _=>rfl) (.sl k []) (.slice iH 0 0) (by simp[mkV,Gh.put]) (by simp[R,Gh.put]) (by simp[Top,xW,wB])⟩;subst hx;rcases ho with ho|ho<;>simp[execOp,ho,Act.eval]
def Gh.nv(G:Gh)(d:Nat)(src:Nat→Option (Nat×List Nat))(φ:Nat→List Nat→Option (List Nat))(f:Nat→List Nat→Value):Gh where
 hd s z:=if s=d then(match z.getLast? with
  |some i=>f i z.dropLast
  |none=>.bool iJ)else G.hd s z
 ad s z:=if s=d then(match z.getLast? with
  |some i=>(match src i with
   |some (x,q)=>G.ad x (z.dropLast++q)
   |none=>default)
  |none=>default)else G.ad s z
 lb b o:=match G.lb b o with
  |some (fl,s,z)=>(match φ s z with
   |some z'=>iG (fl,d,z')
   |none=>iG (fl,s,z))
  |none=>iH
 ow b:=match G.ow b with
  |some (s,z)=>(match φ s z with
   |some z'=>iG (d,z')
   |none=>iG (s,z))
  |none=>iH
theorem zVS{G:Gh}{a:Act}{w:World}{ps:List yW}(g9:Rep Γ E G a.tmps w)(h:tU E d ps)(hd:d<Γ.N):
  ∃G',Rep Γ (E.app ((d,iG (.agg (ps.map yW.tree)))::pWr d ps 0) ((d,0)::sT ps)) G' (a.tmps.setIfInBounds d (.agg (ps.flatMap (qS G)).toArray)) w:=by
 obtain⟨f1,f0,f2,f3,f4,f5,f6⟩:=zGs g9 h;have hm:=g9.mem;have gL:Blk w w:=fun b cs e' h=>⟨cs,h,rfl⟩
 generalize gn:G.nv d (zHl ps) (zIO ps) (pHd G ps)=G'
 have ghd:∀i z,G'.hd d (z++[i])=pHd G ps i z:=fun i z=>by rw[←gn];simp[Gh.nv]
 have ghd':∀s z,s≠d→G'.hd s z=G.hd s z:=by grind[Gh.nv]
 have glbm:∀b o fl x z z',G.lb b o=iG (fl,x,z)→zIO ps x z=iG z'→G'.lb b o=iG (fl,d,z'):=by grind[Gh.nv]
 have gowm:∀b x z z',G.ow b=iG (x,z)→zIO ps x z=iG z'→G'.ow b=iG (d,z'):=by grind[Gh.nv]
 have gf:∀s p,Off ((d,0)::sT ps) s p→s≠d:=fun s p h e=>absurd (h 0 (by simp[e])) (by simp)
 have gx:jB ((d,0)::sT ps) G w G' w:=by
  refine⟨by grind,fun s p h=>?_,fun b o fl s p _ hl h=>⟨?_,rfl⟩,fun b s p hl h=>?_,gL⟩
  ·rw[←gn];simp[Gh.nv,gf s p h]
  ·rw[←gn];simp[Gh.nv,hl,f6 s p h]
  ·rw[←gn];simp[Gh.nv,hl,f6 s p h]
 have gr:Mem Γ G' w:=by
  refine⟨fun s p=>?_,fun b o l hl=>?_,fun b l hl=>?_,hm.st,hm.fr,hm.sz,hm.bk⟩
  ·rw[←gn]
   simp only[Gh.nv];split
   ·split
    ·grind
    ·rfl
   ·exact hm.one s p
  ·rw[←gn]at hl
   simp only[Gh.nv]at hl;split at hl
   ·rename_i hg;exact hm.lb b o _ hg
   ·cases hl
  ·rw[←gn]at hl
   simp only[Gh.nv]at hl;split at hl
   ·rename_i hg;exact hm.ow b _ hg
   ·cases hl
 have g4:RF Γ.St G' w d (ps.map yW.tree) [] 0:=by
  refine zPl _ [] 0 (fun i u hu=>?_);rw[Jc];cases hs:zHl ps i with
  |none=>exact f5 i u hu hs G' w (fun z=>ghd i z)
  |some xq=>
   obtain⟨x,q⟩:=xq;obtain⟨h1,h2,h3,h4⟩:=f4 i u x q hu hs;refine zL2 u q [i] (zDj.okTups_get _ f1 i u hu) ⟨fun z=>by rw[ghd,h1],fun z _=>by rw[←gn];simp[Gh.nv,hs],fun b o fl z _ hl=>⟨glbm b o fl x _ _ hl (f3 i u x q z hu hs),rfl⟩,
    fun b z hl=>gowm b x _ _ hl (f3 i u x q z hu hs),gL⟩ (xE.mono (by simp) u h3) h2
 refine⟨G',vN g9 (by simp) gx gr ?_ ?_⟩
 ·intro s hs
  simp only[Wr.find]at hs;split at hs
  ·cases hs
  ·rename_i gf
   have hns:=zC1 ps d 0 s hs;refine⟨fun n hn=>?_,by rw[Jm];simp[gf]⟩;simp only[J9,Jal.injEq,sT,Jl]at hn
   grind
 ·intro s t hs
  simp only[Wr.find]at hs;split at hs
  ·rename_i he
   subst he;simp at hs;subst hs;refine⟨?_,by grind[R],by grind[Top,vU.of_clean]⟩;rw[Jm];simp only[g9.size,hd,mkV,if_true];rw[zDX g9 h G' ps 0 (by simp) ghd]
  ·rename_i gf
   obtain⟨i,u,h1,h2,h3⟩:=zC0 ps d 0 s _ hs;simp only[Jc]at h3;simp at h3;subst h3;obtain⟨h4,h5,h6⟩:=h.slot s u (Lv h1);have eh:∀xs,u≠.tup xs:=by rintro xs rfl;grind[T.okTup]
   have hi:(ps.map yW.tree)[i]? =iG u:=by simp[h1,yW.tree]
   have hr:=zBc _ [] 0 i u g4 hi;simp only[Jc]at hr;refine zJo (G:=G) (by rw[Jm];simp only[gf,if_false];exact(g9.ent s u h4).1) eh (by grind) (fun z=>?_) hr;rw[ghd];simp[pHd,h1]
theorem zPn(off:Nat):∀(vs:List Value)(i:Nat)(cs:Array Value)(k:Nat),off+i+vs.length≤cs.size→
  ((vs.zipIdx i).foldl (fun cs(x:Value×Nat)=>cs.setIfInBounds (off+x.2) x.1) cs)[k]? =if off+i≤k∧k<off+i+vs.length then vs[k-(off+i)]? else cs[k]?
 | [],i,cs,k,_=>by simp;omega
 |v::vs,i,cs,k,h=>by
  simp only[J7]at h;simp only[List.zipIdx_cons,Gd];rw[zPn off vs (i+1) _ k (by simp;omega)]
  by_cases h1:off+(i+1)≤k∧k<off+(i+1)+vs.length
  ·rw[if_pos h1,if_pos (by grind),show k-(off+i)=k-(off+(i+1))+1 from by omega,Q6]
  ·rw[if_neg h1]
   by_cases h2:k=off+i
   ·subst h2
    rw[if_pos (by simp),Kj]
    grind
   ·rw[if_neg (by grind),Jm,if_neg (fun e=>h2 e.symm)]
theorem zHo{pv:yW→List Value}(place:Nat→Option (Nat×Nat)):∀(vs:List (Nat×Value))(qs:List (Nat×yW))(ps:List yW)(cs:Array Value),cs.toList=ps.flatMap pv→
  (∀i p,ps[i]? =iG p→place i=iG (((ps.take i).flatMap pv).length,(pv p).length))→
  vs.map (·.1)=qs.map (·.1)→(∀(j:Nat)(v:Nat×Value)(q:Nat×yW),vs[j]? =iG v→qs[j]? =iG q→v.2.cells.toList=pv q.2∧ ∃p,ps[q.1]? =iG p∧(pv p).length=(pv q.2).length)→
  ∃cs',Instr.fill place cs vs=iG cs'∧cs'.toList=(qs.foldl (fun ps q=>ps.set q.1 q.2) ps).flatMap pv
 | [],[],ps,cs,gK,_,_,_=>⟨cs,rfl,gK⟩
 | [],_::_,_,_,_,_,h,_=>by simp at h
 |_::_,[],_,_,_,_,h,_=>by simp at h
 |(i,v)::vs,(i',q)::qs,ps,cs,gK,cX,hi,hq=>by
  simp only[Jn,Ja3.injEq]at hi;obtain⟨i9,hi⟩:=hi;subst i9;obtain⟨h1,p,h2,h3⟩:=hq 0 (i,v) (i,q) rfl rfl;dsimp only at h1 h2 h3;have ba:=cX i p h2;have gF:=(Js.1 h2).1;have mQ:ps=ps.take i++p::ps.drop (i+1):=by grind[Uk,Jay]
  have gv:ps.set i q=ps.take i++q::ps.drop (i+1):=List.set_eq_take_append_cons_drop .. |>.trans (if_pos gF);have pi:v.cells.size=(pv p).length:=by grind
  have gC:cs.size=((ps.take i).flatMap pv).length+((pv p).length+((ps.drop (i+1)).flatMap pv).length):=by grind[Ks]
  have eQ:(v.cells.zipIdx.foldl (fun cs(x:Value×Nat)=>cs.setIfInBounds (((ps.take i).flatMap pv).length+x.2) x.1) cs).toList=(ps.set i q).flatMap pv:=by
   rw[gv];simp only[U4,Lo,←h1];apply Ky;intro k;rw[←Array.foldl_toList,Kv,show v.cells.zipIdx.toList=v.cells.toList.zipIdx 0 from by simp,zPn _ _ 0 cs k (by grind)];have iq:cs.toList=((ps.take i).flatMap pv)++(pv p++(ps.drop (i+1)).flatMap pv):=by grind
   have pX:v.cells.toList.length=(pv p).length:=by rw[h1,h3]
   rw[←Kv,iq]
   generalize (ps.take i).flatMap pv=A
   generalize (ps.drop (i+1)).flatMap pv=B
   generalize v.cells.toList=V at pX
   generalize pv p=Q at pX
   by_cases hk:A.length≤k∧k<A.length+V.length
   ·rw[if_pos (by omega),Ja hk.1,Jx (by omega),Qh]
   ·rw[if_neg (by omega)]
    by_cases fw:k<A.length
    ·grind
    ·rw[Ja (by omega),Ja (by omega),Ja (by omega),Ja (by omega),pX]
  have uh:∀j p',(ps.set i q)[j]? =iG p'→place j=iG ((((ps.set i q).take j).flatMap pv).length,(pv p').length):=by
   intro j p' cY;have ey:(((ps.set i q).take j).flatMap pv).length=((ps.take j).flatMap pv).length:=by
    rw[gv]
    conv=>rhs;rw[mQ]
    by_cases hj:j≤i
    ·grind
    ·rw[Jb6,Jb6]
     simp only[U4,J5]
     congr 1
     have:j-(ps.take i).length=(j-(ps.take i).length-1)+1:=by simp;omega
     rw[this,Lf,Lf];simp[h3]
   grind[Qa]
  have hq':∀(j:Nat)(x:Nat×Value)(y:Nat×yW),vs[j]? =iG x→qs[j]? =iG y→x.2.cells.toList=pv y.2∧ ∃p,(ps.set i q)[y.1]? =iG p∧(pv p).length=(pv y.2).length:=by
   intro j x y hx hy;obtain⟨h6,p',h7,h8⟩:=hq (j+1) x y (by grind) (by grind)
   grind[Qa]
  obtain⟨cs',h4,h5⟩:=zHo place vs qs (ps.set i q) _ eQ uh hi hq';refine⟨cs',?_,by grind⟩;simp only[Instr.fill,ba];have df:(v.cells.size≠(pv p).length||((ps.take i).flatMap pv).length+v.cells.size> cs.size)=iJ:=by grind
  grind
theorem uS{t:TypeId}{it:TypeInfo}{fields:Array Field}{z:Value}{places:List (Nat×Nat)}(hi:P.info? t=iG it)(hu:P.underlying t=iG (.struct fields))(hz:it.zero=iG z)
  (hp:fields.toList.mapM (fun f=>(P.info? f.type).map fun i=>(f.offset,i.size))=iG places)(parts:List (Nat×Value)):P.built t parts=Instr.fill (places.toArray[·]?) z.cells parts:=by
 grind[Program.built]
theorem zL4{t e:TypeId}{n:Nat}{it ie:TypeInfo}{z:Value}(hi:P.info? t=iG it)(hu:P.underlying t=iG (.array n e))(hz:it.zero=iG z)
  (he:P.info? e=iG ie)(parts:List (Nat×Value)):P.built t parts=Instr.fill (fun i=>iG (i*ie.size,ie.size)) z.cells parts:=by
 grind[Program.built]
theorem zF5{G:Gh}:(zs:List T)→(zs.map yW.zero).flatMap (qS G)=qO zs
 | []=>rfl
 |z::zs=>by simp[qS,qO,←zF5 (G:=G) zs]
theorem zSn(t:TypeId)(place:Nat→Option (Nat×Nat))(z:Value)(zs:List T)(pl:List (Nat×Operand))(qs:List (Nat×yW))(ps:List yW)(ho:o.op=.build t pl.toArray)(gg:o.dst=iG d)(hd:d<Γ.N)
  (hb:∀parts,P.built t parts=Instr.fill place z.cells parts)(hzv:qO zs=z.cells.toList)(hz:zAu zs=iI)(cX:∀i u,zs[i]? =iG u→place i=iG (T.sizes (zs.take i),u.size))
  (gW:qs.foldl (fun ps q=>ps.set q.1 q.2) (zs.map yW.zero)=ps)(gB:tU E d ps)(hix:pl.map (·.1)=qs.map (·.1))
  (hq:∀(j:Nat)(x:Nat×Operand)(q:Nat×yW),pl[j]? =iG x→qs[j]? =iG q→zAj E x.2 q.2∧q.2∈ps∧ ∃u,zs[q.1]? =iG u∧u.size=q.2.tree.size):
  wQ P Γ o E (E.app ((d,iG (.agg (ps.map yW.tree)))::pWr d ps 0) ((d,0)::sT ps)):=by
 refine wQ.value gg fun a w G g9=>?_
 obtain⟨G',gn⟩:=zVS g9 gB hd;have gy:∀(us:List T),zAu us=iI→((us.map yW.zero).flatMap (qS G)).length=T.sizes us:=by grind[zF5,zBd]
 obtain⟨cs',h1,h2⟩:=zHo (pv:=qS G) place (pl.map fun x=>(x.1,a.eval x.2)) qs (zs.map yW.zero) z.cells (by rw[zF5,hzv]) (fun i p hp=>by
   rw[K5]at hp;cases hu:zs[i]? with
   |none=>grind
   |some u=>
    simp[hu]at hp;subst hp;rw[cX i u hu,←Jb9,gy _ (zOks_take zs i hz),qS,vG u (zOks_get zs hz i u hu)])
  (by grind[Function.comp_def]) (fun j v q hv hqj=>by
   rw[K5]at hv;cases hx:pl[j]? with
   |none=>grind
   |some x=>
    simp[hx]at hv;subst hv;obtain⟨h3,h4,u,h5,h6⟩:=hq j x q hx hqj;refine⟨zAA g9 gB h4 h3,.zero u,by simp[h5],?_⟩;rw[qS,vG u (zOks_get zs hz _ u h5),h6];cases ao:q.2 with
    |slot s t=>
     rw[ao]at h4;obtain⟨_,_,h7⟩:=gB.slot s t h4;exact(vJ t [] (by rintro xs rfl;grind[T.okTup])).symm
    |zero u'=>
     rw[ao]at h4;exact(vG u' (gB.zero u' h4)).symm)
 rw[gW]at h2;have h3:cs'=(ps.flatMap (qS G)).toArray:=by rw[←h2]
 refine⟨_,w,?_,G',gn⟩;have gz:=run_build (P:=P) w t (pl.map fun x=>(x.1,a.eval x.2)).toArray cs' (by grind);simp only[Qj,execOp,ho,Sem.run_bind]at gz ⊢
 rw[show(List.map (fun x=>match x with|(i,x)=>(i,a.eval x)) pl)=List.map (fun x=>(x.1,a.eval x.2)) pl from rfl,gz,h3];rfl
where
 zOks_get:(xs:List T)→zAu xs=iI→ ∀(i:Nat)(x:T),xs[i]? =iG x→x.zOk=iI
  | [],_,_,_,h=>by simp at h
  |y::ys,hk,i,x,h=>by
   simp only[zAu,J4]at hk;cases i with
   |zero=>grind
   |succ i=>exact zOks_get ys hk.2 i x (by grind)
 zOks_take:(xs:List T)→ ∀i,zAu xs=iI→zAu (xs.take i)=iI
  | [],i,_=>by simp[zAu]
  |y::ys,0,_=>by simp[zAu]
  |y::ys,i+1,hk=>by
   simp only[zAu,J4,Lf]at hk ⊢
   exact⟨hk.1,zOks_take ys i hk.2⟩
end
end Go.Ab

namespace Go.Ab
open Go
mutual
def vK:T→T→Bool
 |.agg xs,.agg ys=>kP xs ys
 |.agg _,_=>iJ
 |.tup _,_=>iJ
 |_,.agg _=>iJ
 |_,.tup _=>iJ
 |.any,_|.lit _,_|.ro _,_|.same _ _,_|.addr _ _,_|.sub _ _ _ _ _,_|.sl _ _,_|.ptr _,_=>iI
def kP:List T→List T→Bool
 | [],[]=>iI
 |x::xs,y::ys=>vK x y&&kP xs ys
 | [],_::_=>iJ
 |_::_,[]=>iJ
end
mutual
theorem zC2:(x y:T)→vK x y=iI→x.size=y.size
 |.agg xs,.agg ys,h=>by simp only[vK]at h;simp only[T.size];exact zE8 xs ys h
 |.agg _,.any,h|.agg _,.lit _,h|.agg _,.ro _,h|.agg _,.same _ _,h|.agg _,.addr _ _,h|.agg _,.sub _ _ _ _ _,h|.agg _,.sl _ _,h|.agg _,.ptr _,h|.agg _,.tup _,h=>by grind[vK]
 |.tup _,_,h=>by grind[vK]
 |.any,y,h|.lit _,y,h|.ro _,y,h|.same _ _,y,h|.addr _ _,y,h|.sub _ _ _ _ _,y,h|.sl _ _,y,h|.ptr _,y,h=>by cases y<;>simp[vK]at h<;>simp[T.size]
theorem zE8:(xs ys:List T)→kP xs ys=iI→T.sizes xs=T.sizes ys
 | [],[],_=>rfl
 |x::xs,y::ys,h=>by simp only[kP,J4]at h;simp only[T.sizes,zC2 x y h.1,zE8 xs ys h.2]
 | [],_::_,h=>by grind[kP]
 |_::_,[],h=>by grind[kP]
end
section
variable {G:Gh}{w:World}{s:Nat}
mutual
theorem zKj:(t:T)→ ∀(p:List Nat)(b o j:Nat),Loc G w s t p b o→j<t.size→ ∃y,G.lb b (o+j)=iG (iJ,s,y++p)
 |.agg xs,p,b,o,j,h,hj=>by simp only[Loc,T.size]at h hj;exact zPo xs p 0 b o j h.2 hj
 |.any,p,b,o,j,h,hj|.lit _,p,b,o,j,h,hj|.ro _,p,b,o,j,h,hj|.same _ _,p,b,o,j,h,hj|.addr _ _,p,b,o,j,h,hj|.sub _ _ _ _ _,p,b,o,j,h,hj|.sl _ _,p,b,o,j,h,hj|.ptr _,p,b,o,j,h,hj=>by
  simp only[Loc,T.size]at h hj
  simp_all
 |.tup _,_,_,_,_,h,_=>by grind[Loc]
theorem zPo:(xs:List T)→ ∀(p:List Nat)(i b o j:Nat),vM G w s xs p i b o→j<T.sizes xs→ ∃y,G.lb b (o+j)=iG (iJ,s,y++p)
 | [],_,_,_,_,_,_,hj=>by grind[T.sizes]
 |x::xs,p,i,b,o,j,h,hj=>by
  simp only[vM,T.sizes]at h hj
  by_cases gF:j<x.size
  ·obtain⟨y,hy⟩:=zKj x (i::p) b o j h.1 gF
   exact⟨y++[i],by grind⟩
  ·obtain⟨y,hy⟩:=zPo xs p (i+1) b (o+x.size) (j-x.size) h.2 (by omega)
   grind
end
mutual
theorem zSo{G':Gh}{w':World}:(u u0:T)→ ∀(p:List Nat)(b o:Nat),vK u u0=iI→(∀y,u.inT y.reverse=iI→G'.ad s (y++p)=G.ad s (y++p))→
  (∀b o y,G.lb b o=iG (iJ,s,y++p)→G'.lb b o=iG (iJ,s,y++p))→(∀j v,(vals G' s u p)[j]? =iG v→yS w' b (o+j)=iG v)→Loc G w s u0 p b o→Loc G' w' s u p b o
 |.agg xs,.agg ys,p,b,o,h,ha,hl,hc,h0=>by
  simp only[Loc,vK]at h h0 ⊢
  refine⟨by have:=ha [] rfl;grind,zPp xs ys p 0 b o h (fun i x hx y hy=>?_) (by omega) (by grind[vals]) h0.2⟩;have:=ha (y++[i]) (by grind[T.inT])
  grind
 |.agg _,.any,_,_,_,h,_,_,_,_|.agg _,.lit _,_,_,_,h,_,_,_,_|.agg _,.ro _,_,_,_,h,_,_,_,_|.agg _,.same _ _,_,_,_,h,_,_,_,_|.agg _,.addr _ _,_,_,_,h,_,_,_,_|.agg _,.sub _ _ _ _ _,_,_,_,h,_,_,_,_|.agg _,.sl _ _,_,_,_,h,_,_,_,_|.agg _,.ptr _,_,_,_,h,_,_,_,_|.agg _,.tup _,_,_,_,h,_,_,_,_=>by grind[vK]
 |.tup _,_,_,_,_,h,_,_,_,_=>by grind[vK]
 |.any,u0,p,b,o,h,ha,hl,hc,h0|.lit _,u0,p,b,o,h,ha,hl,hc,h0|.ro _,u0,p,b,o,h,ha,hl,hc,h0|.same _ _,u0,p,b,o,h,ha,hl,hc,h0|.addr _ _,u0,p,b,o,h,ha,hl,hc,h0|.sub _ _ _ _ _,u0,p,b,o,h,ha,hl,hc,h0|.sl _ _,u0,p,b,o,h,ha,hl,hc,h0|.ptr _,u0,p,b,o,h,ha,hl,hc,h0=>by have h1:=vF (by cases u0<;>simp[vK]at h<;>rfl) h0;have h2:=ha [] rfl;rw[Jv]at h2;simp only[Loc];exact⟨h2.trans h1.1,by simp_all,by simpa using hc 0 (G'.hd s p) (by simp[vals])⟩
theorem zPp{G':Gh}{w':World}:(xs ys:List T)→ ∀(p:List Nat)(j b o:Nat),kP xs ys=iI→(∀i x,xs[i]? =iG x→ ∀y,x.inT y.reverse=iI→G'.ad s (y++((j+i)::p))=G.ad s (y++((j+i)::p)))→
  (∀b o y,G.lb b o=iG (iJ,s,y++p)→G'.lb b o=iG (iJ,s,y++p))→(∀i v,(yJ G' s xs p j)[i]? =iG v→yS w' b (o+i)=iG v)→vM G w s ys p j b o→vM G' w' s xs p j b o
 | [],[],_,_,_,_,_,_,_,_,_=>by grind[vM]
 |x::xs,y::ys,p,j,b,o,h,ha,hl,hc,h0=>by
  simp only[kP,J4,vM]at h h0 ⊢
  have hs:=zC2 x y h.1;have eh:∀zs,x≠.tup zs:=by rintro zs rfl;grind[vK]
  refine⟨zSo x y (j::p) b o h.1 (fun z hz=>by simpa using ha 0 x (by simp) z hz) (fun b o z hz=>by have:=hl b o (z++[j]) (by grind);grind) (fun i v hv=>hc i v ?_) h0.1,
   zPp xs ys p (j+1) b (o+x.size) h.2 (fun i z hz=>by have:=ha (i+1) z (by grind);grind) hl (fun i v hv=>?_) (by grind)⟩
  ·grind[yJ]
  ·have:=hc (x.size+i) v (by
    grind[yJ,vJ])
   grind
 | [],_::_,_,_,_,_,h,_,_,_,_=>by grind[kP]
 |_::_,[],_,_,_,_,h,_,_,_,_=>by grind[kP]
end
end
def zGD(p:yW)(q:List Nat)(s:Nat)(z:List Nat):Option (List Nat):=
 match p with
 |.slot s0 t=>if sS t&&s0==s then iG (z++q)else iH
 |.zero _=>iH
def sHd(G:Gh)(p:yW)(y:List Nat):Value:=
 match p with
 |.slot s _=>G.hd s y
 |.zero u=>kE (zhd u y.reverse)
def sWr(r:Nat)(q:List Nat):yW→Wr
 |.slot s t=>if sS t then[(s,iG (cpT r t q))]else[]
 |.zero _=>[]
def Gh.st(G:Gh)(r:Nat)(q:List Nat)(p:yW):Gh where
 hd s z:=if s=r∧q<:+z then sHd G p (z.take (z.length-q.length))else G.hd s z
 ad s z:=if s=r∧q<:+z∧p.tree.inT (z.take (z.length-q.length)).reverse=iJ then(match p with
  |.slot s0 _=>G.ad s0 (z.take (z.length-q.length))
  |.zero _=>default)else G.ad s z
 lb b o:=match G.lb b o with
  |some (fl,s,z)=>(match zGD p q s z with
   |some z'=>iG (fl,r,z')
   |none=>iG (fl,s,z))
  |none=>iH
 ow b:=match G.ow b with
  |some (s,z)=>(match zGD p q s z with
   |some z'=>iG (r,z')
   |none=>iG (s,z))
  |none=>iH
mutual
theorem zL5{Γ:Ctx}{G:Gh}{w:World}(hm:Mem Γ G w){s:Nat}:(t:T)→ ∀(p:List Nat)(v:Value),v∈vals G s t p→v.oneCell'=iI
 |.agg xs,p,v,h=>by simp only[vals]at h;exact zDl hm xs p 0 v h
 |.any,p,v,h|.lit _,p,v,h|.ro _,p,v,h|.same _ _,p,v,h|.addr _ _,p,v,h|.sub _ _ _ _ _,p,v,h|.sl _ _,p,v,h|.ptr _,p,v,h|.tup _,p,v,h=>by simp only[vals,List.mem_singleton]at h;rw[h];exact hm.one s p
theorem zDl{Γ:Ctx}{G:Gh}{w:World}(hm:Mem Γ G w){s:Nat}:(xs:List T)→ ∀(p:List Nat)(j:Nat)(v:Value),v∈yJ G s xs p j→v.oneCell'=iI
 | [],_,_,_,h=>by grind[yJ]
 |x::xs,p,j,v,h=>by
  simp only[yJ,Jd]at h;rcases h with h|h
  ·exact zL5 hm x _ v h
  ·exact zDl hm xs p _ v h
end
mutual
theorem zF6:(u:T)→u.zOk=iI→ ∀v∈tZ u,v.oneCell'=iI
 |.lit v,h,x,hx=>by simp only[tZ,List.mem_singleton]at hx;rw[hx];exact h
 |.sl _ _,_,x,hx=>by simp only[tZ,List.mem_singleton]at hx;rw[hx];rfl
 |.agg xs,h,x,hx=>by simp only[T.zOk]at h;simp only[tZ]at hx;exact zHp xs h x hx
 |.any,h,_,_|.ro _,h,_,_|.same _ _,h,_,_|.addr _ _,h,_,_|.sub _ _ _ _ _,h,_,_|.ptr _,h,_,_|.tup _,h,_,_=>by grind[T.zOk]
theorem zHp:(xs:List T)→zAu xs=iI→ ∀v∈qO xs,v.oneCell'=iI
 | [],_,_,h=>by grind[qO]
 |x::xs,h,v,hv=>by
  simp only[zAu,J4]at h;simp only[qO,Jd]at hv;rcases hv with hv|hv
  ·exact zF6 x h.1 v hv
  ·exact zHp xs h.2 v hv
end
theorem zL6(y q:List Nat):(y++q).take ((y++q).length-q.length)=y:=by simp
theorem zNJ{Γ:Ctx}{G G':Gh}{w':World}{s d:Nat}{q:List Nat}{t:T}{v:Option Value}(hv:v=iG (mkV G s t []))(eh:∀xs,t≠.tup xs)(hs:∀p,G'.hd s p=G.hd s p)(bw:∀z,G'.hd d (z++q)=G.hd s z)
  (hr:R Γ.St G' w' d t q):Ent Γ G' w' v s (cpT d t q):=by
 have hz:∀z,G'.hd s (z++[])=G'.hd d (z++q):=by grind
 refine⟨?_,?_,qX d t q⟩
 ·rw[hv,zA8 (G:=G') (G':=G') t q [] eh hz,kV G s t [] eh,zBH t [] q (fun z=>by rw[bw,Je])]
 ·exact zDS (G:=G') (G':=G') (fun _=>rfl) t q [] hz eh (xE.triv (fun _ _=>⟨rfl,rfl⟩) _) hr
section
variable {P:Program}{Γ:Ctx}{E:Env}{o:Oper}
theorem kF:(f:List Nat)→ ∀(t u:T),yE t→yE u→yE (t.set f u)
 | [],t,u,_,hu=>by grind[T.set]
 |i::f,t,u,ht,hu=>by
  cases t with
  |sl k xs=>
   simp only[T.set];split
   ·rename_i x hx
    simp only[yE,xE]at ht ⊢
    exact sets_clean xs i _ ht (kF f x u (uO xs ht i x hx) hu)
   ·exact ht
  |agg xs=>
   simp only[T.set];split
   ·rename_i x hx
    simp only[yE,xE]at ht ⊢
    exact sets_clean xs i _ ht (kF f x u (uO xs ht i x hx) hu)
   ·exact ht
  |tup xs=>
   simp only[T.set];split
   ·rename_i x hx
    simp only[yE,xE]at ht ⊢
    exact sets_clean xs i _ ht (kF f x u (uO xs ht i x hx) hu)
   ·exact ht
  |ptr t=>
   simp only[T.set];split
   ·simp only[yE,xE]at ht ⊢
    exact kF f t u ht hu
   ·exact ht
  |_=>grind[T.set]
where sets_clean:(xs:List T)→ ∀(i:Nat)(y:T),xW xs→yE y→xW (xs.set i y)
 | [],_,_,_,_=>by grind
 |x::xs,0,y,h,hy=>by simp_all[wB]
 |x::xs,i+1,y,h,hy=>by simp only[Lb,xW,wB]at h ⊢;exact⟨h.1,sets_clean xs i y h.2 hy⟩
theorem zF7(T':TypeId)(ti:TypeInfo)(x y:Operand)(r:Nat)(q:List Nat)(tr u0:T)(p:yW)(ho:o.op=.store T' x y)(gg:o.dst=iH)
  (hi:P.info? T'=iG ti)(gy:ti.size=p.tree.size)(pF:0<ti.size)(hx:zAP Γ E x r q)(hr:E r=iG tr)(d9:tr.single=iI)(hg:tr.get q.reverse=iG u0)(hl:tr.locd q.reverse=iI)
  (fV:vK p.tree u0=iI)(hy:zAj E y p)(gW:tU E r [p]):
  wQ P Γ o E (E.app ((r,iG (tr.set q.reverse p.tree))::sWr r q p) ((r,q.length)::sT [p])):=by
 refine wQ.skip gg fun a w G g9=>?_
 have hm:=g9.mem;have bD:=hx a w G g9;obtain⟨e3,e4,e5⟩:=g9.ent r _ hr;have mu:q≠[]:=by rintro rfl;simp[T.locd]at hl
 obtain⟨i0,f0,u8⟩:∃i f,q.reverse=i::f:=by
  cases h:q.reverse with
  |nil=>exact absurd (by simpa using h) mu
  |cons i f=>exact⟨i,f,rfl⟩
 have tx:∀v:T,(tr.set q.reverse v).single=iI∧yE tr:=by
  intro v;rw[u8]at hg ⊢
  cases tr with
  |sl k xs=>exact⟨by simp only[T.set];split<;>rfl,by simpa only[Top,yE,xE]using e5⟩
  |ptr t=>exact⟨by simp only[T.set];split<;>rfl,by simpa only[Top,yE,xE]using e5⟩
  |agg xs=>simp[T.single]at d9
  |tup xs=>simp[T.single]at d9
  |_=>simp[T.get]at hg
 obtain⟨b,ob,cs,et,mb,gL,ik⟩:=(zAN q.reverse tr u0 [] e4 hg).2 hl;simp only[rp,Km,Je]at mb;have hru0:=(zAN q.reverse tr u0 [] e4 hg).1;have fk:=zBI mb;have ab:=zC2 _ _ fV;have hc:=zAA g9 gW (by simp) hy;have cG:(a.eval y).cells.size=p.tree.size:=by
  rw[←Ks,hc];cases p with
  |slot s t=>obtain⟨_,_,h3⟩:=gW.slot s t (by simp);exact vJ t [] (by rintro xs rfl;simp[T.okTup]at h3)
  |zero u=>exact vG u (gW.zero u (by simp))
 have gw:∀v∈(a.eval y).cells.toList,v.oneCell'=iI:=by
  rw[hc];intro v hv;cases p with
  |slot s t=>exact zL5 hm t [] v hv
  |zero u=>exact zF6 u (gW.zero u (by simp)) v hv
 generalize eK:w.setRow b (cs.toList.take ob++(a.eval y).cells.toList++cs.toList.drop (ob+(a.eval y).cells.toList.length)).toArray=w'
 have eQ:w'.heap[b]? =iG (.cells (cs.toList.take ob++(a.eval y).cells.toList++cs.toList.drop (ob+(a.eval y).cells.toList.length)).toArray et (0,0)):=by rw[←eK];exact setRow_heap w b cs _ et _ gL
 have gI:∀b',b'≠b→w'.heap[b']? =w.heap[b']?:=fun b' h=>by rw[←eK];exact setRow_other w b b' _ h
 have gP:w'.heap.size=w.heap.size:=by rw[←eK];exact size_setRow w b _
 have gC:(a.eval y).cells.toList.length=u0.size:=by rw[Ks,cG,ab]
 have fA:∀k,yS w' b k=if ob≤k∧k<ob+u0.size then(qS G p)[k-ob]? else yS w b k:=by
  intro k;simp only[yS,World.cell?,eQ,gL,Ur,Hx,if_false];rw[←hc,←gC]at*
  rw[←Kv,←Kv (xs:=cs)];simp only[];have gK:cs.toList.length=cs.size:=Ks ..
  generalize (a.eval y).cells.toList=V at*
  by_cases h1:k<ob
  ·rw[if_neg (by omega),Jf,Jx (by simp;omega),U3 h1]
  ·by_cases h2:k<ob+V.length
   ·rw[if_pos ⟨by omega,h2⟩,Jf,Ja (by simp;omega),Jx (by simp;omega)]
    congr 1;simp;omega
   ·rw[if_neg (by omega),Jf,Ja (by simp;omega),Ja (by simp;omega),Hi]
    congr 1;simp;omega
 have cC:∀b' o' fl s z,G.lb b' o'=iG (fl,s,z)→ ¬(s=r∧q<:+z)→yS w' b' o'=yS w b' o':=by
  intro b' o' fl s z h1 h2
  by_cases hb:b'=b
  ·subst hb
   rw[fA];split
   ·rename_i h3
    obtain⟨y',h4⟩:=zKj u0 q b' ob (o'-ob) mb (by omega);rw[show ob+(o'-ob)=o' from by omega,h1]at h4;simp at h4;exact absurd ⟨h4.2.1,y',h4.2.2.symm⟩ h2
   ·rfl
  ·simp[yS,World.cell?,gI b' hb]
 have ex:Blk w w':=by
  intro b' cs' e' h1
  by_cases hb:b'=b
  ·subst hb
   rw[gL]at h1;simp at h1;obtain⟨rfl,rfl⟩:=h1;exact⟨_,eQ,by simp;have:cs.toList.length=cs.size:=Ks ..;omega⟩
  ·exact⟨cs',by rw[gI b' hb];exact h1,rfl⟩
 generalize gn:G.st r q p=G'
 have ghd:∀y',G'.hd r (y'++q)=sHd G p y':=fun y'=>by rw[←gn];simp[Gh.st]
 have ghd':∀s z,¬(s=r∧q<:+z)→G'.hd s z=G.hd s z:=fun s z h=>by rw[←gn];simp only[Gh.st];rw[if_neg h]
 have gad:∀s z,¬(s=r∧q<:+z)→G'.ad s z=G.ad s z:=fun s z h=>by rw[←gn];simp only[Gh.st];rw[if_neg (fun h2=>h ⟨h2.1,h2.2.1⟩)]
 have gadf:∀y',p.tree.inT y'.reverse=iI→G'.ad r (y'++q)=G.ad r (y'++q):=fun y' h=>by rw[←gn];simp only[Gh.st,zL6];rw[if_neg (by simp[h])]
 have gadm:∀s0 t y',p=.slot s0 t→t.inT y'.reverse=iJ→G'.ad r (y'++q)=G.ad s0 y':=fun s0 t y' h1 h2=>by subst h1;rw[←gn];simp only[Gh.st,zL6,yW.tree];rw[if_pos];simp[h2]
 have glb:∀b' o' fl s z,G.lb b' o'=iG (fl,s,z)→zGD p q s z=iH→G'.lb b' o'=iG (fl,s,z):=fun b' o' fl s z h1 h2=>by rw[←gn];simp[Gh.st,h1,h2]
 have glbm:∀b' o' fl s z z',G.lb b' o'=iG (fl,s,z)→zGD p q s z=iG z'→G'.lb b' o'=iG (fl,r,z'):=fun b' o' fl s z z' h1 h2=>by rw[←gn];simp[Gh.st,h1,h2]
 have gow:∀b' s z,G.ow b'=iG (s,z)→zGD p q s z=iH→G'.ow b'=iG (s,z):=fun b' s z h1 h2=>by rw[←gn];simp[Gh.st,h1,h2]
 have gowm:∀b' s z z',G.ow b'=iG (s,z)→zGD p q s z=iG z'→G'.ow b'=iG (r,z'):=fun b' s z z' h1 h2=>by rw[←gn];simp[Gh.st,h1,h2]
 have av:∀s z,(∀n,(s,n)∉(r,q.length)::sT [p])→zGD p q s z=iH:=by
  intro s z h;cases p with
  |zero u=>rfl
  |slot s0 t=>
   simp only[zGD];rw[if_neg];intro h2;simp only[J4,beq_iff_eq]at h2;obtain⟨h3,rfl⟩:=h2;exact h 1 (by simp[sT,xX,h3])
 have pG:∀z,zGD p q r z=iH:=by
  intro z;cases p with
  |zero u=>rfl
  |slot s0 t=>
   simp only[zGD];rw[if_neg];intro h2;simp only[J4,beq_iff_eq]at h2;obtain⟨h3,rfl⟩:=h2;have:=(L9.1 gW.dist).1;simp[xX,h3]at this
 have mA:∀s z,Off ((r,q.length)::sT [p]) s z→ ¬(s=r∧q<:+z):=by
  rintro s z h ⟨rfl,h2⟩
  have:=h q.length (by simp);have:=h2.length_le;omega
 have gx:jB ((r,q.length)::sT [p]) G w G' w':=by
  refine⟨fun s z h=>ghd' s z (mA s z h),fun s z h=>gad s z (mA s z h),fun b' o' fl s z _ h1 h2=>⟨glb b' o' fl s z h1 (av s z h2),cC b' o' fl s z h1 ?_⟩,fun b' s z h1 h2=>gow b' s z h1 (av s z h2),ex⟩
  rintro⟨rfl,_⟩
  exact h2 q.length (by simp)
 have t7:zCw Γ w b:=by obtain⟨y',h4⟩:=zKj u0 q b ob 0 mb (by omega);exact hm.lb _ _ _ h4
 have gr:Mem Γ G' w':=by
  refine⟨fun s z=>?_,fun b' o' l hl=>?_,fun b' l hl=>?_,fun b' x' ep=>?_,fun b' h1 h2=>?_,by rw[gP];exact hm.sz,hm.bk.trans ex (by rw[←eK];rfl) (by rw[←eK];rfl)⟩
  ·by_cases h:s=r∧q<:+z
   ·obtain⟨rfl,y',rfl⟩:=h
    rw[ghd];unfold sHd;split
    ·exact hm.one _ _
    ·exact zBr _
   ·rw[ghd' s z h];exact hm.one s z
  ·have:∃l',G.lb b' o'=iG l':=by
    rw[←gn]at hl;simp only[Gh.st]at hl;split at hl
    ·exact⟨_,by assumption⟩
    ·cases hl
   obtain⟨l',bm⟩:=this;have:=hm.lb b' o' l' bm;exact⟨by rw[gP];exact this.1,this.2⟩
  ·have:∃l',G.ow b'=iG l':=by
    rw[←gn]at hl;simp only[Gh.st]at hl;split at hl
    ·exact⟨_,by assumption⟩
    ·cases hl
   obtain⟨l',bm⟩:=this;have:=hm.ow b' l' bm;exact⟨by rw[gP];exact this.1,this.2⟩
  ·have hb:b'≠b:=by rintro rfl;rw[t7.2.2]at ep;cases ep
   rw[gI b' hb];exact hm.st b' x' ep
  ·have hb:b'≠b:=by
    rintro rfl
    rcases t7.2.1 with h3|h3
    ·omega
    ·exact h2 h3
   rw[gI b' hb];exact hm.fr b' h1 h2
 have dD:Upd G w G' w' r q:=by refine⟨fun z h=>ghd' r z (fun h2=>h h2.2),fun z h=>gad r z (fun h2=>h h2.2),fun b' o' fl z h1 h=>⟨glb b' o' fl r z h1 (pG z),cC b' o' fl r z h1 (fun h2=>h h2.2)⟩,fun b' z h1 _=>gow b' r z h1 (pG z),ex⟩
 have bP:R Γ.St G' w' r p.tree q:=by
  cases hp:p with
  |zero u=>
   refine zKh u q (gW.zero u (by simp[hp])) (fun z=>by rw[ghd];simp[sHd,hp])
  |slot s0 t=>
   obtain⟨h1,h2,h3⟩:=gW.slot s0 t (by simp[hp]);have ff:=(g9.ent s0 t h1).2.1
   by_cases pK:sS t=iI
   ·have dL:s0≠r:=by
     rintro rfl
     have:=(L9.1 gW.dist).1;simp[hp,xX,pK]at this
    refine zL2 t [] q h3 ⟨fun z=>by rw[ghd,Je];simp[sHd,hp],fun z hz=>by rw[Je];exact gadm s0 t z hp hz,fun b' o' fl z _ h4=>?_,fun b' z h4=>?_,ex⟩ (xE.mono (fun _ _=>False.elim) t h2) ff
    ·rw[Je]at h4
     exact⟨glbm b' o' fl s0 z _ h4 (by simp[zGD,hp,pK]),cC b' o' fl s0 z h4 (fun h5=>dL h5.1)⟩
    ·rw[Je]at h4
     exact gowm b' s0 z _ h4 (by simp[zGD,hp,pK])
   ·have hh:G'.hd r q=G.hd s0 []:=by have:=ghd [];rw[Jv]at this;rw[this];simp[sHd,hp]
    cases t<;>simp[sS]at pK<;>simp only[R,yW.tree]at ff ⊢ <;>rw[hh]<;>exact ff
 have pj:vals G' r p.tree q=qS G p:=by
  cases hp:p with
  |zero u=>exact zF4 u q (gW.zero u (by simp[hp])) (fun z=>by rw[ghd];simp[sHd,hp])
  |slot s0 t=>exact zAO t [] q (fun z=>by rw[ghd];simp[sHd,hp])
 have aD:∀b' o',Loc G w r u0 q b' o'→Loc G' w' r p.tree q b' o':=by
  intro b' o' h1;have h2:b'=b∧o'=ob:=by have:=(zBI h1).symm.trans fk;simp at this;exact this
  obtain⟨rfl,rfl⟩:=h2;refine zSo p.tree u0 q b' o' fV (fun y' h=>gadf y' h) (fun b2 o2 y' h=>glb b2 o2 iJ r _ h (pG _)) (fun j v hv=>?_) h1;rw[pj]at hv;have hj:=(Js.1 hv).1;have cX:(qS G p).length=u0.size:=by rw[←hc,gC]
  rw[fA,if_pos ⟨by omega,by omega⟩,show o'+j-o'=j from by omega];exact hv
 have ai:R Γ.St G' w' r (tr.set q.reverse p.tree) []:=by
  have cW:rp q.reverse []=q:=by simp[rp]
  refine zGp q.reverse tr p.tree u0 [] (by rw[cW];exact dD) e4 hg ab (xE.mono (fun _ _=>False.elim) tr (tx .any).2) (by rw[cW];exact aD) (by rw[cW];exact bP)
 have gD:=run_storeCells_at P b ob et (a.eval y).cells.toList 0 cs w gL (by omega) gw;simp only[Qh]at gD;rw[eK]at gD;refine⟨w',?_,G',vN g9 rfl gx gr ?_ ?_⟩
 ·have dH:(a.eval y).cells.size=ti.size:=by rw[cG,gy]
  simp[execOp,ho,bD,fk,Instr.storeAt,sD,storeVar,sizeOf,typeInfo,hi,dH,gD]
 ·intro s hs
  simp only[Wr.find]at hs;split at hs
  ·cases hs
  ·rename_i gf
   refine⟨fun n hn=>?_,rfl⟩;simp only[J9,Jal.injEq]at hn;rcases hn with⟨h1,_⟩|hn
   ·exact gf h1.symm
   ·cases p with
    |zero u=>simp[sT,xX]at hn
    |slot s0 t=>
     by_cases pK:sS t=iI
     ·simp[sT,xX,pK]at hn
      simp[sWr,pK,Wr.find,hn.1.symm]at hs
     ·simp[sT,xX,pK]at hn
 ·intro s t hs
  simp only[Wr.find]at hs;split at hs
  ·rename_i he
   subst he;simp at hs;subst hs;refine⟨?_,ai,Top.of_clean _ (kF _ _ _ (tx .any).2 ?_)⟩
   ·rw[e3,xU (tx p.tree).1,xU d9]
    congr 1
    exact(ghd' r [] (fun h=>mu (by simpa using h.2))).symm
   ·cases p with
    |zero u=>exact(zBs u (gW.zero u (by simp))).1
    |slot s0 t=>exact(gW.slot s0 t (by simp)).2.1
  ·rename_i gf
   cases hp:p with
   |zero u=>simp[sWr,hp,Wr.find]at hs
   |slot s0 t0=>
    by_cases pK:sS t0=iI
    ·simp only[sWr,hp,pK,if_true,Wr.find]at hs
     split at hs
     ·rename_i he
      subst he;simp at hs;subst hs;obtain⟨h1,h2,h3⟩:=gW.slot s0 t0 (by simp[hp]);refine zNJ (G:=G) (g9.ent s0 t0 h1).1 (by rintro xs rfl;simp[T.okTup]at h3) (fun z=>ghd' s0 z (fun h=>gf h.1.symm)) (fun z=>by rw[ghd];simp[sHd,hp]) (by rw[hp]at bP;exact bP)
     ·cases hs
    ·simp[sWr,hp,pK,Wr.find]at hs
theorem zL7(T':TypeId)(ti:TypeInfo)(x y:Operand)(r:Nat)(q:List Nat)(tr u0:T)(p:yW)(ho:o.op=.store T' x y)(gg:o.dst=iH)
  (hi:P.info? T'=iG ti)(gy:ti.size=p.tree.size)(pF:0<ti.size)(hx:opT E x=iG (.addr r q))(hr:E r=iG tr)(d9:tr.single=iI)(hg:tr.get q.reverse=iG u0)(hl:tr.locd q.reverse=iI)
  (fV:vK p.tree u0=iI)(hy:zAj E y p)(gW:tU E r [p]):
  wQ P Γ o E (E.app ((r,iG (tr.set q.reverse p.tree))::sWr r q p) ((r,q.length)::sT [p])):=
 by grind[zF7,zAP.addr]
end
end Go.Ab

namespace Go.Ab
open Go
section
variable {G G':Gh}{s:Nat}
theorem zNK(xs:List T):∀(p:List Nat)(j:Nat),(∀k,j≤k→ ∀z,G'.hd s (z++(k::p))=G.hd s (z++(k::p)))→yJ G' s xs p j=yJ G s xs p j:=by
 induction xs with
 |nil=>grind[yJ]
 |cons z zs ih=>
  intro p j h;simp only[yJ];rw[zAO z (j::p) (j::p) (h j (Jh _)),ih p (j+1) (by grind)]
theorem zQC(xs:List T):∀(p:List Nat)(j i:Nat)(x y:T),xs[i]? =iG x→(∀k,k≠j+i→ ∀z,G'.hd s (z++(k::p))=G.hd s (z++(k::p)))→
  vals G' s y ((j+i)::p)=vals G s x ((j+i)::p)→yJ G' s (xs.set i y) p j=yJ G s xs p j:=by
 induction xs with
 |nil=>simp
 |cons z zs ih=>
  intro p j i x y h hz hy;cases i with
  |zero=>
   grind[yJ,zNK]
  |succ i=>
   simp only[Lb,yJ];rw[zAO z (j::p) (j::p) (hz j (by omega)),ih p (j+1) i x y (by grind) (by grind) (by grind)]
theorem zL8:(f:List Nat)→ ∀(t u u0:T)(p:List Nat),t.get f=iG u0→u0.single=iI→u.single=iI→(∀z,(rp f p<:+z→z=rp f p)→G'.hd s z=G.hd s z)→vals G' s (t.set f u) p=vals G s t p
 | [],t,u,u0,p,hg,h0,h1,hh=>by simp[T.get]at hg;subst hg;have:G'.hd s p=G.hd s p:=hh p (by simp[rp]);simp only[T.set];cases t<;>simp[T.single]at h0<;>cases u<;>simp[T.single]at h1<;>simp[vals,this]
 |i::f,t,u,u0,p,hg,h0,h1,hh=>by
  rw[zBG]at hh;have hp:G'.hd s p=G.hd s p:=by grind[kO]
  cases t with
  |agg xs=>
   simp only[T.get]at hg;cases hx:xs[i]? with
   |none=>grind
   |some x=>
    rw[hx]at hg;simp only[T.set,hx,vals];refine zQC xs p 0 i x _ hx (by grind[kB]) ?_;rw[Jc];exact zL8 f x u u0 (i::p) hg h0 h1 hh
  |tup xs=>
   grind[T.set,vals]
  |sl k xs=>grind[T.set,vals]
  |ptr t=>grind[T.set,vals]
  |_=>grind[T.get]
theorem zL9(f:List Nat)(t u u0:T)(p:List Nat)(hg:t.get f=iG u0)(h0:u0.single=iI)(h1:u.single=iI)(hh:∀z,(rp f p<:+z→z=rp f p)→G'.hd s z=G.hd s z)(eh:∀xs,t≠.tup xs):
  sQ G' s (t.set f u) p=sQ G s t p:=by
 have h:=zL8 f t u u0 p hg h0 h1 hh;cases f with
 |nil=>
  simp[T.get]at hg;subst hg;have:G'.hd s p=G.hd s p:=hh p (by simp[rp]);simp only[T.set];cases t<;>simp[T.single]at h0<;>cases u<;>simp[T.single]at h1<;>simp[sQ,this]
 |cons i f=>
  rw[zBG]at hh;have hp:G'.hd s p=G.hd s p:=by grind[kO]
  cases t with
  |agg xs=>
   grind[T.set,vals,sQ]
  |tup xs=>grind
  |sl k xs=>grind[T.set,sQ]
  |ptr t=>grind[T.set,sQ]
  |_=>grind[T.get]
theorem zQD(xs:List T):∀(p:List Nat)(j:Nat),(∀k,j≤k→ ∀z,G'.hd s (z++(k::p))=G.hd s (z++(k::p)))→jV G' s xs p j=jV G s xs p j:=by
 induction xs with
 |nil=>grind[jV]
 |cons z zs ih=>
  intro p j h;simp only[jV];rw[zBH z (j::p) (j::p) (h j (Jh _)),ih p (j+1) (by grind)]
theorem zSp(xs:List T):∀(p:List Nat)(j i:Nat)(x y:T),xs[i]? =iG x→(∀k,k≠j+i→ ∀z,G'.hd s (z++(k::p))=G.hd s (z++(k::p)))→
  sQ G' s y ((j+i)::p)=sQ G s x ((j+i)::p)→jV G' s (xs.set i y) p j=jV G s xs p j:=by
 induction xs with
 |nil=>simp
 |cons z zs ih=>
  intro p j i x y h hz hy;cases i with
  |zero=>
   grind[jV,zQD]
  |succ i=>
   simp only[Lb,jV];rw[zBH z (j::p) (j::p) (hz j (by omega)),ih p (j+1) i x y (by grind) (by grind) (by grind)]
def xZ:T→Bool
 |.tup xs=>xs.all fun x=>match x with
  |.tup _=>iJ
  |_=>iI
 |_=>iI
theorem zKk(f:List Nat)(t u u0:T)(p:List Nat)(hg:t.get f=iG u0)(h0:u0.single=iI)(h1:u.single=iI)(hh:∀z,(rp f p<:+z→z=rp f p)→G'.hd s z=G.hd s z)(mF:xZ t=iI):
  mkV G' s (t.set f u) p=mkV G s t p:=by
 by_cases ht:∃xs,t=.tup xs
 ·obtain⟨xs,rfl⟩:=ht
  cases f with
  |nil=>grind[T.get,T.single]
  |cons i f=>
   rw[zBG]at hh;simp only[T.get]at hg;cases hx:xs[i]? with
   |none=>grind
   |some x=>
    rw[hx]at hg;simp only[T.set,hx,mkV];rw[zSp xs p 0 i x _ hx (fun k hk z=>hh _ (fun h=>absurd h (kB (by omega) z)))];rw[Jc];refine zL9 f x u u0 (i::p) hg h0 h1 hh ?_
    rintro ys rfl
    simp only[xZ]at mF;have:=Ki.1 mF _ (Lv hx)
    grind
 ·have eh:∀xs,t≠.tup xs:=by grind
  rw[kV G s t p eh,←zL9 f t u u0 p hg h0 h1 hh eh];refine kV G' s _ p ?_
  rintro xs fH
  cases f with
  |nil=>grind[T.set,T.single]
  |cons i f=>cases t<;>simp only[T.set]at fH<;>first|grind|grind|cases fH
end
theorem zE9:(f:List Nat)→ ∀(t u:T),Top t→yE u→Top (t.set f u)
 | [],t,u,_,hu=>by grind[T.set,Top.of_clean]
 |i::f,t,u,ht,hu=>by
  cases t with
  |sl k xs=>
   refine Top.of_clean _ (kF (i::f) _ u (by simpa only[Top,yE,xE]using ht) hu)
  |ptr t=>exact Top.of_clean _ (kF (i::f) _ u (by simpa only[Top,yE,xE]using ht) hu)
  |agg xs=>
   simp only[T.set];split
   ·rename_i x hx
    simp only[Top]at ht ⊢
    exact tops_set xs i _ ht (zE9 f x u (tops_get xs ht i x hx) hu)
   ·exact ht
  |tup xs=>
   simp only[T.set];split
   ·rename_i x hx
    simp only[Top]at ht ⊢
    exact tops_set xs i _ ht (zE9 f x u (tops_get xs ht i x hx) hu)
   ·exact ht
  |_=>grind[T.set]
where
 tops_set:(xs:List T)→ ∀(i:Nat)(y:T),vU xs→Top y→vU (xs.set i y)
  | [],_,_,_,_=>by simp[vU]
  |x::xs,0,y,h,hy=>by simp only[H5,vU]at h ⊢;grind
  |x::xs,i+1,y,h,hy=>by simp only[Lb,vU]at h ⊢;exact⟨h.1,tops_set xs i y h.2 hy⟩
 tops_get:(xs:List T)→vU xs→ ∀(i:Nat)(x:T),xs[i]? =iG x→Top x
  | [],_,_,_,h=>by simp at h
  |y::ys,hk,i,x,h=>by
   simp only[vU]at hk;cases i with
   |zero=>grind
   |succ i=>exact tops_get ys hk.2 i x (by grind)
def Gh.tr(G:Gh)(d:Nat)(g:List Nat)(r:Nat)(p:List Nat):Gh where
 hd s z:=if s=d∧g<:+z then G.hd r (z.take (z.length-g.length)++p)else G.hd s z
 ad s z:=if s=d∧g<:+z∧z≠g then G.ad r (z.take (z.length-g.length)++p)else G.ad s z
 lb b o:=match G.lb b o with
  |some (fl,s,z)=>if s=r∧p<:+z∧(fl=iI∨z≠p)then iG (fl,d,z.take (z.length-p.length)++g)else iG (fl,s,z)
  |none=>iH
 ow b:=match G.ow b with
  |some (s,z)=>if s=r∧p<:+z then iG (d,z.take (z.length-p.length)++g)else iG (s,z)
  |none=>iH
theorem zGt{t:T}(h:t.single=iI):t.size=1:=by cases t<;>simp[T.single]at h<;>simp[T.size]
theorem zHq{Γ:Ctx}{E:Env}{G:Gh}{tmps:Array Value}{w:World}(g9:Rep Γ E G tmps w)(d:Nat)(g:List Nat)(r:Nat)(p:List Nat)(td tr u v0:T)(hd:E d=iG td)(hg:td.get g.reverse=iG v0)(tp:v0.single=iI)(ef:G.hd d g=G.hd r p)(hr:E r=iG tr)
  (hp:tr.get p.reverse=iG u)(hu:u.single=iI)(fb:yE u)(hH:d≠r)(be:td.okB [(d,g.length+1),(r,p.length+1)]=iI)(m9:tr.okB [(d,g.length+1),(r,p.length+1)]=iI)(fj:xZ td=iI)(fh:xZ tr=iI):
  Rep Γ (E.app [(d,iG (td.set g.reverse u)),(r,iG (if p=[]then .same d g else tr.set p.reverse .any))] [(d,g.length+1),(r,p.length+1)]) (G.tr d g r p) tmps w∧ ∀s z,¬(s=d∧g<:+z∧z≠g)→(G.tr d g r p).hd s z=G.hd s z:=by
 obtain⟨d1,d2,d3⟩:=g9.ent d td hd;obtain⟨r1,r2,r3⟩:=g9.ent r tr hr;have hm:=g9.mem;have bP:=(zAN p.reverse tr u [] r2 hp).1;simp only[rp,Km,Je]at bP;have gL:Blk w w:=fun b cs e' h=>⟨cs,h,rfl⟩
 generalize gn:G.tr d g r p=G'
 have ghd:∀z,G'.hd d (z++g)=G.hd r (z++p):=fun z=>by rw[←gn];simp[Gh.tr]
 have ghd0:∀s z,¬(s=d∧g<:+z∧z≠g)→G'.hd s z=G.hd s z:=by
  intro s z h;rw[←gn];simp only[Gh.tr]
  by_cases h2:s=d∧g<:+z
  ·have h3:z=g:=by
    rcases Decidable.em (z=g)with e|e
    ·exact e
    ·exact absurd ⟨h2.1,h2.2,e⟩ h
   subst h3;rw[if_pos h2,h2.1];simpa using ef.symm
  ·rw[if_neg h2]
 have gad0:∀s z,¬(s=d∧g<:+z∧z≠g)→G'.ad s z=G.ad s z:=fun s z h=>by rw[←gn];simp only[Gh.tr];rw[if_neg h]
 have gad:∀z,z≠[]→G'.ad d (z++g)=G.ad r (z++p):=fun z h=>by rw[←gn];simp only[Gh.tr];rw[if_pos (by simpa using h)];simp
 have glb0:∀b o fl s z,G.lb b o=iG (fl,s,z)→ ¬(s=r∧p<:+z∧(fl=iI∨z≠p))→G'.lb b o=iG (fl,s,z):=fun b o fl s z h1 h2=>by rw[←gn];simp only[Gh.tr,h1];rw[if_neg h2]
 have glb:∀b o fl z,G.lb b o=iG (fl,r,z++p)→(fl=iI∨z≠[])→G'.lb b o=iG (fl,d,z++g):=fun b o fl z h1 h2=>by rw[←gn];simp only[Gh.tr,h1];rw[if_pos (by simpa using h2)];simp
 have gow0:∀b s z,G.ow b=iG (s,z)→ ¬(s=r∧p<:+z)→G'.ow b=iG (s,z):=fun b s z h1 h2=>by rw[←gn];simp only[Gh.tr,h1];rw[if_neg h2]
 have gow:∀b z,G.ow b=iG (r,z++p)→G'.ow b=iG (d,z++g):=fun b z h1=>by rw[←gn];simp only[Gh.tr,h1];rw[if_pos (by simp)];simp
 have gG:∀s z,Off [(d,g.length+1),(r,p.length+1)] s z→ ¬(s=d∧g<:+z∧z≠g):=by
  rintro s z h ⟨rfl,⟨y,rfl⟩,h3⟩
  have:=h (g.length+1) (by simp);have:y=[]:=Lp (by simp at this;omega);exact h3 (by simp[this])
 have gx:jB [(d,g.length+1),(r,p.length+1)] G w G' w:=by
  refine⟨fun s z h=>ghd0 s z (gG s z h),fun s z h=>gad0 s z (gG s z h),fun b o fl s z _ h1 h2=>⟨glb0 b o fl s z h1 ?_,rfl⟩,fun b s z h1 h2=>gow0 b s z h1 ?_,gL⟩
  ·rintro⟨rfl,_⟩;exact h2 (p.length+1) (by simp)
  ·rintro⟨rfl,_⟩;exact h2 (p.length+1) (by simp)
 have gr:Mem Γ G' w:=by
  refine⟨fun s z=>?_,fun b o l hl=>?_,fun b l hl=>?_,hm.st,hm.fr,hm.sz,hm.bk⟩
  ·rw[←gn]
   simp only[Gh.tr];split
   ·exact hm.one _ _
   ·exact hm.one _ _
  ·have:∃l',G.lb b o=iG l':=by
    rw[←gn]at hl;simp only[Gh.tr]at hl;split at hl
    ·exact⟨_,by assumption⟩
    ·cases hl
   obtain⟨l',bm⟩:=this;exact hm.lb b o l' bm
  ·have:∃l',G.ow b=iG l':=by
    rw[←gn]at hl;simp only[Gh.tr]at hl;split at hl
    ·exact⟨_,by assumption⟩
    ·cases hl
   obtain⟨l',bm⟩:=this;exact hm.ow b l' bm
 have cW:∀q:List Nat,rp q.reverse []=q:=fun q=>by simp[rp]
 have hud:R Γ.St G' w d u g:=by
  refine zAr (G:=G) (w:=w) (s:=r) (p:=p) ⟨⟨ghd,gad,fun b o f z hz _ hl=>⟨glb b o f z hl (.inr hz),rfl⟩,fun b z _ hl=>gow b z hl,gL⟩,fun b o _ hl=>⟨by simpa using glb b o iI [] (by simpa using hl) (.inl rfl),rfl⟩,fun b hl=>by simpa using gow b [] (by simpa using hl)⟩ u
   (xE.mono (fun _ _=>False.elim) u fb) bP
 have tq:Upd G w G' w d g:=⟨fun z h=>ghd0 d z (fun h2=>h h2.2.1),fun z h=>gad0 d z (fun h2=>h h2.2.1),fun b o f z h1 _=>⟨glb0 b o f d z h1 (fun h2=>hH h2.1),rfl⟩,fun b z h1 _=>gow0 b d z h1 (fun h2=>hH h2.1),gL⟩;have aE:∀b o,Loc G w d v0 g b o→Loc G' w d u g b o:=by intro b o h1;obtain⟨h2,h3,h4⟩:=vF tp h1;have h5:G'.ad d g=⟨b,o,iH⟩∧G'.lb b o=iG (iJ,d,g)∧yS w b o=iG (G'.hd d g):=⟨(gad0 d g (fun h=>h.2.2 rfl)).trans h2,glb0 b o iJ d g h3 (fun h=>hH h.1),by rw[h4,ghd0 d g (fun h=>h.2.2 rfl)]⟩;cases u<;>simp[T.single]at hu<;>simpa only[Loc]using h5
 have aY:R Γ.St G' w d (td.set g.reverse u) []:=
  zGp g.reverse td u v0 [] (by rw[cW];exact tq) d2 hg (by rw[zGt tp,zGt hu]) (gx.keepR (zAs td d3 be)) (by rw[cW];exact aE) (by rw[cW];exact hud)
 have hVd:mkV G' d (td.set g.reverse u) []=mkV G d td []:=
  zKk g.reverse td u v0 [] hg tp hu (fun z hz=>ghd0 d z (fun h2=>h2.2.2 (by rw[cW]at hz;exact hz h2.2.1))) fj
 have hRr:p≠[]→R Γ.St G' w r (tr.set p.reverse .any) []:=by intro bT;refine zGp p.reverse tr .any u [] (by rw[cW];exact⟨fun z _=>ghd0 r z (fun h2=>hH h2.1.symm),fun z _=>gad0 r z (fun h2=>hH h2.1.symm),fun b o f z h1 h=>⟨glb0 b o f r z h1 (fun h2=>h h2.2.1),rfl⟩,fun b z h1 h=>gow0 b r z h1 (fun h2=>h h2.2),gL⟩) r2 hp (by cases u<;>simp[T.single]at hu<;>simp[T.size]) (gx.keepR (zAs tr r3 m9)) ?_ (by simp only[R]);rw[cW];intro b o h1;obtain⟨h2,h3,h4⟩:=vF hu h1;simp only[Loc];exact⟨(gad0 r p (fun h=>hH h.1.symm)).trans h2,glb0 b o iJ r p h3 (by simp),by rw[h4,ghd0 r p (fun h=>hH h.1.symm)]⟩
 have hVr:p≠[]→mkV G' r (tr.set p.reverse .any) []=mkV G r tr []:=fun _=>
  zKk p.reverse tr .any u [] hp hu rfl (fun z _=>ghd0 r z (fun h2=>hH h2.1.symm)) fh
 refine⟨vN g9 rfl gx gr ?_ ?_,ghd0⟩
 ·intro s hs
  simp only[Wr.find]at hs;split at hs
  ·cases hs
  ·rename_i h1
   split at hs
   ·cases hs
   ·rename_i h2
    refine⟨fun n hn=>?_,rfl⟩;simp only[J9,Jal.injEq,Q5,or_false]at hn;rcases hn with⟨e,_⟩|⟨e,_⟩
    ·exact h1 e.symm
    ·exact h2 e.symm
 ·intro s t hs
  simp only[Wr.find]at hs;split at hs
  ·rename_i he
   subst he;simp at hs;subst hs;exact⟨by rw[d1,hVd],aY,zE9 _ _ _ d3 fb⟩
  ·split at hs
   ·rename_i he
    subst he;simp at hs
    by_cases bT:p=[]
    ·rw[if_pos bT]at hs
     subst hs;subst bT;simp[T.get]at hp;subst hp;refine⟨?_,?_,by simp[Top]⟩
     ·rw[r1,xU hu,xU rfl,ghd0 r [] (fun h=>hH h.1.symm)]
     ·simp only[R]
      rw[ghd0 r [] (fun h=>hH h.1.symm)];have:=ghd [];simpa using this.symm
    ·rw[if_neg bT]at hs
     subst hs;exact⟨by rw[r1,hVr bT],hRr bT,zE9 _ _ _ r3 (by simp[yE,xE])⟩
   ·cases hs
theorem zNL{Γ:Ctx}{E:Env}{a:Act}{w:World}(h:Sim Γ E a w)(d:Nat)(g:List Nat)(r:Nat)(p:List Nat)(td tr u:T)(hd:E d=iG td)(hg:td.get g.reverse=iG (.same r p))(hr:E r=iG tr)
  (hp:tr.get p.reverse=iG u)(hu:u.single=iI)(fb:yE u)(hH:d≠r)(be:td.okB [(d,g.length+1),(r,p.length+1)]=iI)(m9:tr.okB [(d,g.length+1),(r,p.length+1)]=iI)(fj:xZ td=iI)(fh:xZ tr=iI):
  Sim Γ (E.app [(d,iG (td.set g.reverse u)),(r,iG (if p=[]then .same d g else tr.set p.reverse .any))] [(d,g.length+1),(r,p.length+1)]) a w:=by
 obtain⟨gR,G,g9⟩:=h;have ef:=(zAN g.reverse td _ [] (g9.ent d td hd).2.1 hg).1;simp only[rp,Km,Je,R]at ef;exact⟨gR,_,(zHq g9 d g r p td tr u _ hd hg rfl ef hr hp hu fb hH be m9 fj fh).1⟩
end Go.Ab

namespace Go.Ab
open Go
theorem zKl{St:Stb}{G:Gh}{w:World}{s:Nat}{k:Nat}:(xs:List T)→ ∀(p:List Nat)(j b o:Nat),(∀i x,xs[i]? =iG x→Loc G w s x ((j+i)::p) b (o+i*k)∧x.size=k∧R St G w s x ((j+i)::p))→RL St G w s xs p j b o k
 | [],_,_,_,_,_=>by grind[RL]
 |x::xs,p,j,b,o,h=>by
  obtain⟨h1,h2,h3⟩:=h 0 x (by simp);simp only[RL];refine⟨by grind,by omega,zKl xs p (j+1) b (o+k) (fun i y hy=>?_)⟩;have:=h (i+1) y (by grind)
  grind
theorem zAB{St:Stb}{G:Gh}{w:World}{s:Nat}{k:Nat}:(xs:List T)→ ∀(p:List Nat)(j b o:Nat),RL St G w s xs p j b o k→vM G w s xs p j b o
 | [],_,_,_,_,_=>by grind[vM]
 |x::xs,p,j,b,o,h=>by simp only[RL]at h;simp only[vM];exact⟨h.1.1,zAB xs p (j+1) b (o+x.size) (by rw[h.1.2];exact h.2.2)⟩
theorem zBv{St:Stb}{G:Gh}{w:World}{s:Nat}{k:Nat}:(xs:List T)→ ∀(p:List Nat)(j b o:Nat),RL St G w s xs p j b o k→RF St G w s xs p j∧ ∀x∈xs,x.size=k
 | [],_,_,_,_,_=>by simp[RF]
 |x::xs,p,j,b,o,h=>by simp only[RL]at h;obtain⟨h1,h2⟩:=zBv xs p (j+1) b (o+k) h.2.2;exact⟨by grind[RF],by grind⟩
section
variable {G:Gh}{w:World}{G':Gh}{w':World}{s s':Nat}
mutual
theorem zHr:(t:T)→ ∀(p p':List Nat)(b o:Nat),(∀z,G'.hd s' (z++p')=G.hd s (z++p))→(∀z,G'.ad s' (z++p')=G.ad s (z++p))→
  (∀b o z,G.lb b o=iG (iJ,s,z++p)→G'.lb b o=iG (iJ,s',z++p')∧yS w' b o=yS w b o)→Loc G w s t p b o→Loc G' w' s' t p' b o
 |.agg xs,p,p',b,o,hh,ha,hl,h=>by
  simp only[Loc]at h ⊢
  exact⟨by have:=ha [];grind,zJp xs p p' 0 b o hh ha hl h.2⟩
 |.any,p,p',b,o,hh,ha,hl,h|.lit _,p,p',b,o,hh,ha,hl,h|.ro _,p,p',b,o,hh,ha,hl,h|.same _ _,p,p',b,o,hh,ha,hl,h|.addr _ _,p,p',b,o,hh,ha,hl,h|.sub _ _ _ _ _,p,p',b,o,hh,ha,hl,h|.sl _ _,p,p',b,o,hh,ha,hl,h|.ptr _,p,p',b,o,hh,ha,hl,h=>by
  simp only[Loc]at h ⊢
  have h1:=hl b o [] (by grind)
  grind
 |.tup _,_,_,_,_,_,_,_,h=>by grind[Loc]
theorem zJp:(xs:List T)→ ∀(p p':List Nat)(j b o:Nat),(∀z,G'.hd s' (z++p')=G.hd s (z++p))→(∀z,G'.ad s' (z++p')=G.ad s (z++p))→
  (∀b o z,G.lb b o=iG (iJ,s,z++p)→G'.lb b o=iG (iJ,s',z++p')∧yS w' b o=yS w b o)→vM G w s xs p j b o→vM G' w' s' xs p' j b o
 | [],_,_,_,_,_,_,_,_,_=>by grind[vM]
 |x::xs,p,p',j,b,o,hh,ha,hl,h=>by
  simp only[vM]at h ⊢
  exact⟨zHr x (j::p) (j::p') b o (fun z=>by have:=hh (z++[j]);grind) (fun z=>by have:=ha (z++[j]);grind) (fun b o z hz=>by have:=hl b o (z++[j]) (by grind);grind) h.1,
   zJp xs p p' (j+1) b _ hh ha hl h.2⟩
end
end
theorem zEA(G:Gh)(s:Nat):∀(xs us:List T)(p:List Nat)(j:Nat),yJ G s (xs++us) p j=yJ G s xs p j++yJ G s us p (j+xs.length)
 | [],us,p,j=>by rfl
 |x::xs,us,p,j=>by simp[yJ,zEA G s xs us p (j+1),Nat.add_assoc,Nat.add_comm 1]
theorem zEB:∀(xs us:List T),T.sizes (xs++us)=T.sizes xs+T.sizes us
 | [],us=>by simp[T.sizes]
 |x::xs,us=>by simp[T.sizes,zEB xs us,Nat.add_assoc]
theorem zDD:∀(xs us:List T),yV xs=iI→yV us=iI→yV (xs++us)=iI
 | [],us,_,h=>h
 |x::xs,us,h,h'=>by
  simp only[yV,J4,K6]at h ⊢
  exact⟨h.1,zDD xs us h.2 h'⟩
theorem zDE:∀(xs us:List T),xW xs→xW us→xW (xs++us)
 | [],us,_,h=>h
 |x::xs,us,h,h'=>by
  simp only[xW,wB,K6]at h ⊢
  exact⟨h.1,zDE xs us h.2 h'⟩
theorem kQ{St:Stb}{G:Gh}{w:World}{s:Nat}{k:Nat}:(xs:List T)→ ∀(p:List Nat)(j b o:Nat),vM G w s xs p j b o→yV xs=iI
 | [],_,_,_,_,_=>rfl
 |x::xs,p,j,b,o,h=>by simp only[vM]at h;simp only[yV,J4];exact⟨one x (j::p) b o h.1,kQ (St:=St) (k:=k) xs p (j+1) b _ h.2⟩
where
 one:(t:T)→ ∀(p:List Nat)(b o:Nat),Loc G w s t p b o→t.okTup=iI
  |.agg xs,p,b,o,h=>by simp only[Loc]at h;simp only[T.okTup];exact kQ (St:=St) (k:=k) xs p 0 b o h.2
  |.tup _,_,_,_,h=>by grind[Loc]
  |.any,_,_,_,_|.lit _,_,_,_,_|.ro _,_,_,_,_|.same _ _,_,_,_,_|.addr _ _,_,_,_,_|.sub _ _ _ _ _,_,_,_,_|.sl _ _,_,_,_,_|.ptr _,_,_,_,_=>rfl
section
variable {P:Program}
structure zHs (P:Program) (t2:TypeId) (e:TypeId) (ti:TypeInfo) (xv:Value) (m:Nat) (nv:List Value) (w:World):Prop where
 arg:(∃e2 xa c,P.underlying t2=iG (.slice e2)∧xv=.slice xa m c∧ ∀w2:World,w2.heap=w.heap→(Builtin.firstCells ti.size m (.slice xa m c)).run P w2=.ok nv.toArray w2)∨
  ∃k2 k3 z,P.underlying t2=iG (.int k2)∧xv=.int k3 (m:Int)∧ti.zero=iG z∧nv.toArray=Builtin.zeroCells z.cells m∧m*ti.bytes≤2 ^ 47∧z.cells.size=ti.size
theorem zEC{t t2 ty e:TypeId}{ti:TypeInfo}{xv:Value}{m:Nat}{nv:List Value}{w w':World}(ht:P.underlying t=iG (.slice e))(hi:P.info? e=iG ti)
  (hx:zHs P t2 e ti xv m nv w)(hm:m≤68719476736){base:Option Addr}{n cap:Nat}(eg:n+m≤cap)
  (gD:(if let iG a:=base then storeCells (a.add (n*ti.size)) nv else pure ():Sem Unit).run P w=.ok () w'):
  (Builtin.append_ #[t,t2] ty #[.slice base n cap,xv]).run P w=.ok (.slice base (n+m) cap) w':=by
 rcases hx.arg with⟨e2,xa,c,h1,rfl,h2⟩|⟨k2,k3,z,h1,rfl,h2,h3,h4,h5⟩
 ·have h2:=h2 w rfl
  cases base with
  |none=>
   simp at gD;subst gD;simp[Builtin.append_,run_underlying ht,run_underlying h1,sizeOf,typeInfo,hi,Builtin.lenOf,eg,h2]
  |some a=>
   simp only at gD;simp[Builtin.append_,run_underlying ht,run_underlying h1,sizeOf,typeInfo,hi,Builtin.lenOf,eg,h2,gD]
 ·have mJ:IntKind.i64.wrap (m:Int)=m:=by grind[IntKind.wrap_i64]
  have bI:¬(281474976710656<(m:Int)*(ti.bytes:Int)):=by omega
  have cw:¬((m:Int)<0):=by omega
  have de:nv=(Builtin.zeroCells z.cells m).toList:=by rw[←h3]
  by_cases hz:m*ti.size=0
  ·have bf:nv=[]:=by
    grind[Builtin.zeroCells]
   subst bf;cases base with
   |none=>
    simp at gD;subst gD;simp[Builtin.append_,run_underlying ht,run_underlying h1,sizeOf,typeInfo,hi,asInt,asIntOf,mJ,bI,cw,eg,hz]
   |some a=>
    simp only[storeCells,Sem.run_pure]at gD;cases gD;simp[Builtin.append_,run_underlying ht,run_underlying h1,sizeOf,typeInfo,hi,asInt,asIntOf,mJ,bI,cw,eg,hz,storeCells]
  ·cases base with
   |none=>
    simp at gD;subst gD;simp[Builtin.append_,run_underlying ht,run_underlying h1,sizeOf,typeInfo,zeroValue,hi,h2,asInt,asIntOf,mJ,bI,cw,eg]
   |some a=>
    simp only[de]at gD;simp[Builtin.append_,run_underlying ht,run_underlying h1,sizeOf,typeInfo,zeroValue,hi,h2,asInt,asIntOf,mJ,bI,cw,eg,hz,gD]
theorem zKm{t t2 ty e:TypeId}{ti:TypeInfo}{z xv:Value}{m:Nat}{nv olds:List Value}{w:World}(ht:P.underlying t=iG (.slice e))(hi:P.info? e=iG ti)(hz:ti.zero=iG z)
  (hx:zHs P t2 e ti xv m nv w){base:Option Addr}{n cap:Nat}(gZ:cap<n+m)(pe:n+m≤68719476736)(hb:ti.bytes≤2048)
  (gI:∀w2:World,w2.heap=w.heap→(Builtin.firstCells ti.size n (.slice base n cap)).run P w2=.ok olds.toArray w2):
  (Builtin.append_ #[t,t2] ty #[.slice base n cap,xv]).run P w=.ok (.slice (iG ⟨w.heap.size,0,iH⟩) (n+m) (grownCap w (n+m) cap e))
    (w.drew.alloc (.cells ((olds++nv).toArray++Builtin.zeroCells z.cells (grownCap w (n+m) cap e-(n+m))) e)):=by
 have hn:¬(n+m≤cap):=by omega
 have bG:¬(9223372036854775807<((n:Int)+(m:Int))):=by omega
 have ik:=growslice_fits (need:=n+m) (old:=cap) (bytes:=ti.bytes) gZ (Hb (Jr pe hb) (by decide));have bH:¬(281474976710656<Builtin.nextslicecap (n+m) cap*ti.bytes):=by omega
 have ho:=gI w.drew rfl;rcases hx.arg with⟨e2,xa,c,h1,rfl,h2⟩|⟨k2,k3,z',h1,rfl,h2,h3,h4,h5⟩
 ·have h2:=h2 w.drew rfl
  simp[Builtin.append_,run_underlying ht,run_underlying h1,sizeOf,typeInfo,zeroValue,hi,hz,Builtin.lenOf,hn,bG,bH,Question.forced,h2,ho,newRow,grownCap]
  grind
 ·have mJ:IntKind.i64.wrap (m:Int)=m:=by grind[IntKind.wrap_i64]
  have bI:¬(281474976710656<(m:Int)*(ti.bytes:Int)):=by omega
  have cw:¬((m:Int)<0):=by omega
  have de:nv=(Builtin.zeroCells z'.cells m).toList:=by rw[←h3]
  rw[hz]at h2;simp at h2;subst h2
  by_cases mH:m*ti.size=0
  ·have bf:nv=[]:=by
    grind[Builtin.zeroCells]
   subst bf;simp[Builtin.append_,run_underlying ht,run_underlying h1,sizeOf,typeInfo,zeroValue,hi,hz,asInt,asIntOf,mJ,bI,cw,hn,bG,bH,Question.forced,mH,ho,newRow,grownCap]
  ·simp[Builtin.append_,run_underlying ht,run_underlying h1,sizeOf,typeInfo,zeroValue,hi,hz,asInt,asIntOf,mJ,bI,cw,hn,bG,bH,Question.forced,mH,ho,newRow,grownCap,←h3]
   grind
end
def zDY(s0:Nat)(y:Option Nat)(n:Nat)(s:Nat)(z:List Nat):Option (List Nat):=
 if s=s0 then iG z else if y=iG s then(match z.getLast? with
  |some j=>iG (z.dropLast++[n+j])
  |none=>iH)else iH
def Gh.ip(G:Gh)(d s0:Nat)(y:Option Nat)(b n k:Nat)(us:List T)(f2:Nat→List Nat→Value)(hH:Value):Gh where
 hd s z:=if s=d then(match z.getLast? with
  |some i=>if i<n then G.hd s0 z else f2 (i-n) z.dropLast
  |none=>hH)else G.hd s z
 ad s z:=if s=d then(match z.getLast? with
  |some i=>if i<n then G.ad s0 z else if(T.agg us).inT ((i-n)::z.dropLast.reverse)then⟨b,n*k+(T.agg us).offT ((i-n)::z.dropLast.reverse),iH⟩else(match y with
   |some y=>G.ad y (z.dropLast++[i-n])
   |none=>default)
  |none=>default)else G.ad s z
 lb b' o:=if b'=b∧n*k≤o∧o<n*k+us.length*k then(match zCz us [] n (o-n*k)with
  |some p=>iG (iJ,d,p)
  |none=>iH)else match G.lb b' o with
  |some (fl,s,z)=>(match zDY s0 y n s z with
   |some z'=>iG (fl,d,z')
   |none=>iG (fl,s,z))
  |none=>iH
 ow b':=match G.ow b' with
  |some (s,z)=>(match zDY s0 y n s z with
   |some z'=>iG (d,z')
   |none=>iG (s,z))
  |none=>iH
def aWr(d s0:Nat)(y:Option Nat)(k:Nat)(ts:List T):Wr:=(d,iG (.sl k ts))::(s0,iG .any)::(match y with
 |some y=>[(y,iG .any)]
 |none=>[])
def zBe(d s0:Nat)(y:Option Nat):Chg:=(d,0)::(s0,1)::(match y with
 |some y=>[(y,1)]
 |none=>[])
structure zHt (Γ:Ctx) (E:Env) (G:Gh) (d s0:Nat) (y:Option Nat) (k n:Nat) (us:List T) (f2:Nat→List Nat→Value) (nv:List Value):Prop where
 size:∀u∈us,u.size=k
 tup:yV us=iI
 clean:xW us
 one:∀j z,(f2 j z).oneCell'=iI
 len:nv.length=us.length*k
 slot:∀y',y=iG y'→y'≠d∧y'≠s0∧E y'=iG (.sl k us)∧ ∀j z,f2 j z=G.hd y' (z++[j])
 none:y=iH→ ∀(j:Nat) u,us[j]? =iG u→ ∀(G2:Gh)(w2:World),(∀z,G2.hd d (z++[n+j])=f2 j z)→R Γ.St G2 w2 d u [n+j]
 vals:∀(G2:Gh),(∀j z,G2.hd d (z++[n+j])=f2 j z)→ ∀(o:Nat)(v:Value),(yJ G2 d us [] n)[o]? =iG v→nv[o]? =iG v
theorem zLA{G G2:Gh}{s d:Nat}:(xs:List T)→ ∀(p:List Nat)(j:Nat),(∀i,i<xs.length→ ∀z,G2.hd d (z++((j+i)::p))=G.hd s (z++((j+i)::p)))→yJ G2 d xs p j=yJ G s xs p j
 | [],_,_,_=>by rfl
 |x::xs,p,j,h=>by
  simp only[yJ];have ih:yJ G2 d xs p (j+1)=yJ G s xs p (j+1):=zLA xs p (j+1) (fun i hi z=>by
   rw[show j+1+i=j+(i+1)from by omega]
   simp_all)
  rw[zAO x (j::p) (j::p) (by simpa using h 0 (by simp)),ih]
theorem zIQ(z:List Nat):z=[]∨ ∃y i,z=y++[i]:=by
 rcases List.eq_nil_or_concat z with h|⟨y,i,h⟩
 all_goals grind
section
variable {P:Program}{Γ:Ctx}{E:Env}{d:Nat}
theorem zBL{G:Gh}{a:Act}{w:World}(g9:Rep Γ E G a.tmps w)(hd:d<Γ.N){t t2 ty e:TypeId}{ti:TypeInfo}{z:Value}{k:Nat}(ht:P.underlying t=iG (.slice e))(hi:P.info? e=iG ti)(hz:ti.zero=iG z)
  (hk:ti.size=k)(_hk0:0<k)(fp:z.cells.size=k)(hb:ti.bytes≤2048){s0:Nat}{y:Option Nat}{xs us:List T}{f2:Nat→List Nat→Value}{nv:List Value}(eA:E s0=iG (.sl k xs))(fM:s0≠d)
  (hn:zHt Γ E G d s0 y k xs.length us f2 nv){xv:Value}(hx:zHs P t2 e ti xv us.length nv w)(gw:∀v∈nv,v.oneCell'=iI)(pe:xs.length+us.length≤68719476736):
  ∃v w',(Builtin.append_ #[t,t2] ty #[G.hd s0 [],xv]).run P w=.ok v w'∧ ∃G',Rep Γ (E.app (aWr d s0 y k (xs++us)) (zBe d s0 y)) G' (a.tmps.setIfInBounds d v) w':=by
 have hm:=g9.mem;obtain⟨e1,e2,e3⟩:=g9.ent s0 _ eA;simp only[Top]at e3;simp only[R]at e2;have dI:T.sizes us=us.length*k:=wW us hn.size;have fin:∀(G':Gh)(w':World)(v:Value),jB (zBe d s0 y) G w G' w'→Mem Γ G' w'→G'.hd d []=v→R Γ.St G' w' d (.sl k (xs++us)) []→(∀s p,s≠d→G'.hd s p=G.hd s p)→
   Rep Γ (E.app (aWr d s0 y k (xs++us)) (zBe d s0 y)) G' (a.tmps.setIfInBounds d v) w':=by
  intro G' w' v gx gr io aY hother;refine vN g9 (by simp) gx gr ?_ ?_
  ·intro s hs
   have gf:s≠d:=by rintro rfl;simp[aWr,Wr.find]at hs
   have aA:s≠s0:=by rintro rfl;simp[aWr,Wr.find,gf.symm]at hs
   have hney:∀y',y=iG y'→s≠y':=by
    rintro y' rfl rfl
    grind[aWr,Wr.find]
   refine⟨fun n' hn'=>?_,by grind⟩;simp only[zBe,J9,Jal.injEq]at hn'
   grind
  ·intro s t' hs
   by_cases h1:s=d
   ·subst h1
    simp[aWr,Wr.find]at hs;subst hs;refine⟨?_,aY,by simp only[Top];exact zDE xs us e3 hn.clean⟩;rw[Jm];simp[g9.size,hd,mkV,io]
   ·have h3:t'=.any∧(s=s0∨y=iG s):=by
     simp only[aWr,Wr.find]at hs;rw[if_neg (fun h=>h1 h.symm)]at hs
     grind[Wr.find]
    obtain⟨rfl,h3⟩:=h3;refine⟨?_,by grind[R],by simp[Top]⟩;rw[Jm];simp only[Ne.symm h1,if_false,mkV];rw[hother s [] h1];rcases h3 with rfl|h3
    ·exact e1
    ·obtain⟨_,_,h4,_⟩:=hn.slot s h3
     exact(g9.ent s _ h4).1
 have pH:∀s p,(∀n',(s,n')∉zBe d s0 y)→zDY s0 y xs.length s p=iH:=by
  intro s p h;have h1:s≠s0:=fun e=>h 1 (by simp[zBe,e])
  grind[zBe,zDY]
 by_cases eg:∃a' c,G.hd s0 []=.slice a' xs.length c∧xs.length+us.length≤c
 ·
  obtain⟨a',c,hh,eg⟩:=eg;rcases e2 with⟨rfl,a1,h1⟩|⟨b,cap,cs,et,h1,h2,h3,h4,h5,h6,h7,h8⟩
  ·rw[h1]at hh
   simp at hh;obtain⟨rfl,rfl⟩:=hh;have fT:us=[]:=by grind
   subst fT;have de:nv=[]:=Lp (by have:=hn.len;grind);subst de;have gz:=zEC (P:=P) (t:=t) (ty:=ty) (w':=w) ht hi hx (by simp) (base:=a1) (n:=0) (cap:=0) (by simp) (by cases a1<;>rfl);refine⟨.slice a1 0 0,w,by grind,G.put d (fun _=>.slice a1 0 0),fin _ w _ ?_ (hm.put rfl d _ (fun _=>rfl)) (by rw[Gh.put_self]) (by simp[R,Gh.put]) (fun s p h=>G.put_other _ p h)⟩;have:=G.put_keep (w:=w) (w':=w) rfl d (fun _=>.slice a1 0 0);exact⟨fun s p h=>this.hd s p (fun n hn=>h n (by simp_all[zBe])),fun s p h=>rfl,fun b o f s p h0 h1 h2=>this.lb b o f s p h0 h1 (fun n hn=>h2 n (by simp_all[zBe])),fun b s p h1 h2=>this.ow b s p h1 (fun n hn=>h2 n (by simp_all[zBe])),this.blk⟩
  ·rw[h1]at hh
   simp at hh;obtain⟨rfl,rfl⟩:=hh;have i5:us.length*k+xs.length*k≤cap*k:=by rw[←Uh];exact Kb _ (by omega)
   have hmk:us.length*k+xs.length*k≤cs.size:=Hb i5 h5
   generalize eK:w.setRow b (cs.toList.take (xs.length*k)++nv++cs.toList.drop (xs.length*k+nv.length)).toArray=w'
   have eQ:w'.heap[b]? =iG (.cells (cs.toList.take (xs.length*k)++nv++cs.toList.drop (xs.length*k+nv.length)).toArray et (0,0)):=by grind[setRow_heap]
   have gI:∀b',b'≠b→w'.heap[b']? =w.heap[b']?:=by grind[setRow_other]
   have gP:w'.heap.size=w.heap.size:=by grind[size_setRow]
   have hcsl:cs.toList.length=cs.size:=rfl;have pJ:=hn.len;have fA:∀i,yS w' b i=if xs.length*k≤i∧i<xs.length*k+us.length*k then nv[i-xs.length*k]? else yS w b i:=by
    intro i;simp only[yS,World.cell?,eQ,h2,Ur,Hx,if_false];rw[←Kv,←Kv (xs:=cs)];simp only[]
    by_cases g1:i<xs.length*k
    ·rw[if_neg (by omega),Jf,Jx (by simp;omega),U3 g1]
    ·by_cases g2:i<xs.length*k+us.length*k
     ·rw[if_pos ⟨by omega,g2⟩,Jf,Ja (by simp;omega),Jx (by simp;omega)]
      grind
     ·rw[if_neg (by omega),Jf,Ja (by simp;omega),Ja (by simp;omega),Hi]
      congr 1;simp;omega
   have gQ:∀b' o fl s p,G.lb b' o=iG (fl,s,p)→(fl,s,p)≠(iI,s0,[])→ ¬(b'=b∧xs.length*k≤o∧o<xs.length*k+us.length*k):=by grind
   have fg:∀b' o,¬(b'=b∧xs.length*k≤o∧o<xs.length*k+us.length*k)→yS w' b' o=yS w b' o:=by
    intro b' o g
    by_cases f7:b'=b
    ·grind
    grind[yS,World.cell?]
   have uu:((cs.toList.take (xs.length*k)++nv++cs.toList.drop (xs.length*k+nv.length)).toArray).size=cs.size:=by simp;omega
   have ex:Blk w w':=by
    intro b' cs' e' g1
    grind
   generalize gn:G.ip d s0 y b xs.length k us f2 (.slice (iG ⟨b,0,iH⟩) (xs.length+us.length) cap)=G'
   have ghdr:G'.hd d []=.slice (iG ⟨b,0,iH⟩) (xs.length+us.length) cap:=by rw[←gn];simp[Gh.ip]
   have ghd1:∀i z,i<xs.length→G'.hd d (z++[i])=G.hd s0 (z++[i]):=fun i z g=>by rw[←gn];simp[Gh.ip,g]
   have ghd2:∀j z,G'.hd d (z++[xs.length+j])=f2 j z:=fun j z=>by rw[←gn];simp[Gh.ip,show¬xs.length+j<xs.length from by omega]
   have ghd0:∀s z,s≠d→G'.hd s z=G.hd s z:=fun s z g=>by rw[←gn];simp[Gh.ip,g]
   have gad0:∀s z,s≠d→G'.ad s z=G.ad s z:=fun s z g=>by rw[←gn];simp[Gh.ip,g]
   have gad1:∀i z,i<xs.length→G'.ad d (z++[i])=G.ad s0 (z++[i]):=fun i z g=>by rw[←gn];simp[Gh.ip,g]
   have gad2:∀j f,(T.agg us).inT (j::f)=iI→G'.ad d (f.reverse++[xs.length+j])=⟨b,xs.length*k+(T.agg us).offT (j::f),iH⟩:=fun j f g=>by rw[←gn];simp[Gh.ip,g,show¬xs.length+j<xs.length from by omega]
   have gad3:∀y' j z,y=iG y'→(T.agg us).inT (j::z.reverse)=iJ→G'.ad d (z++[xs.length+j])=G.ad y' (z++[j]):=fun y' j z g1 g2=>by rw[←gn];simp[Gh.ip,g1,g2,show¬xs.length+j<xs.length from by omega]
   have glb2:∀i p,i<us.length*k→zCz us [] xs.length i=iG p→G'.lb b (xs.length*k+i)=iG (iJ,d,p):=fun i p g1 g2=>by rw[←gn];simp only[Gh.ip];rw[if_pos (by simp;omega),show xs.length*k+i-xs.length*k=i from by omega,g2]
   have glb0:∀b' o fl s p,G.lb b' o=iG (fl,s,p)→ ¬(b'=b∧xs.length*k≤o∧o<xs.length*k+us.length*k)→zDY s0 y xs.length s p=iH→G'.lb b' o=iG (fl,s,p):=fun b' o fl s p g1 g2 g3=>by rw[←gn];simp only[Gh.ip];rw[if_neg g2,g1];simp[g3]
   have glb1:∀b' o fl s p p',G.lb b' o=iG (fl,s,p)→ ¬(b'=b∧xs.length*k≤o∧o<xs.length*k+us.length*k)→zDY s0 y xs.length s p=iG p'→G'.lb b' o=iG (fl,d,p'):=fun b' o fl s p p' g1 g2 g3=>by rw[←gn];simp only[Gh.ip];rw[if_neg g2,g1];simp[g3]
   have gow0:∀b' s p,G.ow b'=iG (s,p)→zDY s0 y xs.length s p=iH→G'.ow b'=iG (s,p):=fun b' s p g1 g2=>by rw[←gn];simp[Gh.ip,g1,g2]
   have gow1:∀b' s p p',G.ow b'=iG (s,p)→zDY s0 y xs.length s p=iG p'→G'.ow b'=iG (d,p'):=fun b' s p p' g1 g2=>by rw[←gn];simp[Gh.ip,g1,g2]
   have fP:∀p,zDY s0 y xs.length s0 p=iG p:=fun p=>by simp[zDY]
   have my:∀y' z j,y=iG y'→y'≠s0→zDY s0 y xs.length y' (z++[j])=iG (z++[xs.length+j]):=fun y' z j g1 g2=>by simp[zDY,g1,g2]
   have gf:∀s p,Off (zBe d s0 y) s p→s≠d:=fun s p h e=>absurd (h 0 (by simp[zBe,e])) (by simp)
   have gx:jB (zBe d s0 y) G w G' w':=by
    refine⟨fun s p h=>ghd0 s p (gf s p h),fun s p h=>gad0 s p (gf s p h),fun b' o fl s p _ g1 g2=>?_,fun b' s p g1 g2=>gow0 b' s p g1 (pH s p g2),ex⟩;have hs:s≠s0:=fun e=>g2 1 (by simp[zBe,e])
    have g3:=gQ b' o fl s p g1 (by simp[hs]);exact⟨glb0 b' o fl s p g1 g3 (pH s p g2),fg b' o g3⟩
   have t7:=hm.ow b _ h6;have gr:Mem Γ G' w':=by
    refine⟨fun s z=>?_,fun b' o' l hl=>?_,fun b' l hl=>?_,fun b' x' ep=>?_,fun b' g1 g2=>?_,by rw[gP];exact hm.sz,hm.bk.trans ex (by rw[←eK];rfl) (by rw[←eK];rfl)⟩
    ·by_cases g:s=d
     ·subst g
      rcases zIQ z with rfl|⟨z',i,rfl⟩
      ·rw[ghdr];rfl
      ·by_cases g1:i<xs.length
       ·rw[ghd1 i z' g1];exact hm.one _ _
       ·have:=ghd2 (i-xs.length) z'
        rw[show xs.length+(i-xs.length)=i from by omega]at this;rw[this];exact hn.one _ _
     ·rw[ghd0 s z g];exact hm.one _ _
    ·have:zCw Γ w b':=by
      rw[←gn]at hl;simp only[Gh.ip]at hl;split at hl
      ·rename_i g;rw[g.1];exact t7
      ·split at hl
       ·rename_i g;exact hm.lb _ _ _ g
       ·cases hl
     exact⟨by rw[gP];exact this.1,this.2⟩
    ·have:zCw Γ w b':=by
      rw[←gn]at hl;simp only[Gh.ip]at hl;split at hl
      ·rename_i g;exact hm.ow _ _ g
      ·cases hl
     exact⟨by rw[gP];exact this.1,this.2⟩
    ·have f7:b'≠b:=by rintro rfl;rw[t7.2.2]at ep;cases ep
     rw[gI b' f7];exact hm.st b' x' ep
    ·have f7:b'≠b:=by
      rintro rfl
      rcases t7.2.1 with g3|g3
      ·omega
      ·exact g2 g3
     rw[gI b' f7];exact hm.fr b' g1 g2
   have bi:vM G' w' d us [] xs.length b (xs.length*k):=by
    refine zGM us [] xs.length b (xs.length*k) hn.tup (fun i x ep f hf=>?_) (fun i p' g1 g2=>glb2 i p' (by omega) g2) (fun i v hv=>?_)
    ·have:=gad2 i f (by simp only[T.inT,ep];exact hf)
     simpa[T.offT,ep]using this
    ·have g1:=hn.vals G' ghd2 i v hv
     have g2:=(Js.1 g1).1;rw[fA,if_pos (by omega),show xs.length*k+i-xs.length*k=i from by omega];exact g1
   have aY:R Γ.St G' w' d (.sl k (xs++us)) []:=by
    simp only[R];rw[ghdr];refine .inr ⟨b,cap,_,et,by simp,eQ,by simp;omega,h4,by omega,gow1 b s0 [] [] h6 (fP []),?_,zKl _ _ _ _ _ (fun i x ep=>?_)⟩
    ·intro o g1 g2
     rw[J5,Uh]at g1;exact glb1 b o iI s0 [] [] (h7 o (by omega) g2) (by omega) (fP [])
    ·rw[Kq]at ep
     simp only[Jc];split at ep
     ·rename_i gF
      obtain⟨g1,g2,g3⟩:=kA xs [] 0 b 0 k i x h8 ep;simp only[Jc]at g1 g3;have mc:∀b' o fl z,G.lb b' o=iG (fl,s0,z++[i])→G'.lb b' o=iG (fl,d,z++[i])∧yS w' b' o=yS w b' o:=fun b' o fl z g=>by have g4:=gQ b' o fl s0 _ g (by simp);exact⟨glb1 b' o fl s0 _ _ g g4 (fP _),fg b' o g4⟩
      refine⟨zHr x [i] [i] b _ (fun z=>ghd1 i z gF) (fun z=>gad1 i z gF) (fun b' o z g=>mc b' o iJ z g) g1,g2,?_⟩;refine zAr (G:=G) (w:=w) (s:=s0) (p:=[i]) ⟨⟨fun z=>ghd1 i z gF,fun z _=>gad1 i z gF,fun b' o f z _ _ g=>mc b' o f z g,fun b' z _ g=>gow1 b' s0 _ _ g (fP _),ex⟩,fun b' o _ g=>?_,fun b' g=>gow1 b' s0 _ _ g (fP _)⟩ x (xE.mono (by simp) x (uO xs e3 i x ep)) g3;have:=mc b' o iI [] (by simpa using g);simpa using this
     ·rename_i hge
      obtain⟨j,rfl⟩:∃j,i=xs.length+j:=⟨i-xs.length,by omega⟩;rw[show xs.length+j-xs.length=j from by omega]at ep;have g1:=zCx us [] xs.length b (xs.length*k) j x bi ep;rw[show T.sizes (us.take j)=j*k from by rw[wW _ (fun u hu=>hn.size u (List.mem_of_mem_take hu)),Kc,Ja0 (by have:=(Js.1 ep).1;omega)],←Uh]at g1
      refine⟨g1,hn.size x (Lv ep),?_⟩;cases hy:y with
      |none=>exact hn.none hy j x ep G' w' (fun z=>ghd2 j z)
      |some y'=>
       obtain⟨y1,y2,y3,y4⟩:=hn.slot y' hy;obtain⟨_,y5,_⟩:=g9.ent y' _ y3;simp only[R]at y5;rcases y5 with⟨rfl,_⟩|⟨b2,cap2,cs2,et2,_,_,_,_,_,_,_,y6⟩
       ·simp at ep
       ·obtain⟨_,_,y7⟩:=kA us [] 0 b2 0 k j x y6 ep
        simp only[Jc]at y7;refine zL2 x [j] [xs.length+j] (zDj.okTups_get us hn.tup j x ep) ⟨fun z=>by rw[ghd2,y4],fun z g=>gad3 y' j z hy (by simp only[T.inT,ep];exact g),fun b' o fl z _ g=>?_,fun b' z g=>gow1 b' y' _ _ g (my y' z j hy y2),ex⟩ (xE.mono (by simp) x (uO us hn.clean j x ep)) y7;have g4:=gQ b' o fl y' _ g (by simp[y2]);exact⟨glb1 b' o fl y' _ _ g g4 (my y' z j hy y2),fg b' o g4⟩
   have gD:=run_storeCells_at P b (xs.length*k) et nv 0 cs w h2 (by omega) gw;simp only[Qh]at gD;rw[eK]at gD;have gz:=zEC (P:=P) (t:=t) (ty:=ty) (w':=w') ht hi hx (by omega) (base:=iG ⟨b,0,iH⟩) eg (by simp only[hk,uR,Jc];exact gD);refine⟨_,w',by rw[h1];exact gz,G',fin G' w' _ gx gr ghdr aY ghd0⟩
 ·
  have aU:∃a' c,G.hd s0 []=.slice a' xs.length c∧ ∀w2:World,w2.heap=w.heap→(Builtin.firstCells ti.size xs.length (.slice a' xs.length c)).run P w2=.ok (yJ G s0 xs [] 0).toArray w2:=by
   rcases e2 with⟨rfl,a1,h1⟩|⟨b,cap,cs,et,h1,h2,h3,h4,h5,h6,h7,h8⟩
   ·exact⟨a1,0,h1,fun w2 _=>by cases a1<;>simp[Builtin.firstCells,loadCells,loadCellsFrom,yJ]⟩
   ·refine⟨_,_,h1,fun w2 hw2=>?_⟩
    have hl:=zAB xs [] 0 b 0 h8;refine run_firstCells_some (P:=P) w2 ti.size xs.length ⟨b,0,iH⟩ _ _ _ ?_ (fun j v hv=>?_)
    ·rw[wV,hk]
     exact wW xs (zBv xs [] 0 b 0 h8).2
    ·have:=zBq xs [] 0 b 0 hl j v hv
     grind[uR,yS,World.cell?]
  obtain⟨a',c,hh,gI⟩:=aU;have fH:yV xs=iI∧(∀x∈xs,x.size=k)∧ ∀i x,xs[i]? =iG x→R Γ.St G w s0 x [i]:=by
   rcases e2 with⟨rfl,a1,h1⟩|⟨b,cap,cs,et,h1,h2,h3,h4,h5,h6,h7,h8⟩
   ·simp[yV]
   ·refine⟨kQ (St:=Γ.St) (k:=k) xs [] 0 b 0 (zAB xs [] 0 b 0 h8),(zBv xs [] 0 b 0 h8).2,fun i x ep=>?_⟩
    have:=(kA xs [] 0 b 0 k i x h8 ep).2.2
    grind
  have gZ:c<xs.length+us.length:=by grind
  have gz:=zKm (P:=P) (t:=t) (ty:=ty) ht hi hz hx gZ pe hb gI;have hge:=grownCap_ge w (xs.length+us.length) c e;have dl:=grownCap_le_maxLen w (xs.length+us.length) c e (by grind[maxLen])
  generalize grownCap w (xs.length+us.length) c e=cap' at gz hge dl
  generalize eK:w.drew.alloc (.cells ((yJ G s0 xs [] 0++nv).toArray++Builtin.zeroCells z.cells (cap'-(xs.length+us.length))) e)=w' at gz
  have hwh:w'.heap=w.heap.push (.cells ((yJ G s0 xs [] 0++nv).toArray++Builtin.zeroCells z.cells (cap'-(xs.length+us.length))) e):=by rw[←eK];rfl
  have hszxs:T.sizes xs=xs.length*k:=wW xs fH.2.1;obtain⟨g1,g2,g3,g4,g5⟩:=zDj hm hwh d (xs++us) (fun i=>if i<xs.length then iG (s0,[i])else y.map fun y'=>(y',[i-xs.length])) (zDY s0 y xs.length) (fun i z=>if i<xs.length then G.hd s0 (z++[i])else f2 (i-xs.length) z) (.slice (iG ⟨w.heap.size,0,iH⟩) (xs.length+us.length) cap') ((zBe d s0 y).tail)
   (zDD xs us fH.1 hn.tup) (fun i z=>by split;exact hm.one _ _;exact hn.one _ _) rfl
   (fun i u x q z' hu hs=>by
    split at hs
    ·simp at hs;obtain⟨rfl,rfl⟩:=hs;simp[zDY]
    ·rename_i cy
     cases y with
     |none=>simp at hs
     |some y'=>
      simp at hs;obtain⟨rfl,rfl⟩:=hs;have:=(hn.slot y' rfl).2.1;simp[zDY,this,show xs.length+(i-xs.length)=i from by omega])
   (fun i u x q hu hs=>by
    rw[Kq]at hu;split at hs
    ·rename_i gF
     rw[if_pos gF]at hu;simp at hs;obtain⟨rfl,rfl⟩:=hs
     grind[uO]
    ·rename_i cy
     rw[if_neg cy]at hu;cases hy:y with
     |none=>grind
     |some y'=>
      rw[hy]at hs;simp at hs;obtain⟨rfl,rfl⟩:=hs;obtain⟨y1,y2,y3,y4⟩:=hn.slot y' hy;obtain⟨_,y5,_⟩:=g9.ent y' _ y3;simp only[R]at y5;refine⟨by grind,?_,uO us hn.clean _ u hu,y1⟩;rcases y5 with⟨rfl,_⟩|⟨b2,cap2,cs2,et2,_,_,_,_,_,_,_,y6⟩
      ·simp at hu
      ·have:=(kA us [] 0 b2 0 k _ u y6 hu).2.2
       grind)
   (fun i u hu hs G2 w2 fm=>by
    rw[Kq]at hu;split at hs
    ·cases hs
    ·rename_i cy
     rw[if_neg cy]at hu;cases hy:y with
     |some y'=>grind
     |none=>
      have:=hn.none hy (i-xs.length) u hu G2 w2 (fun z'=>by rw[show xs.length+(i-xs.length)=i from by omega,fm,if_neg cy])
      rwa [show xs.length+(i-xs.length)=i from by omega]at this)
   (fun G2 fm o v hv=>by
    rw[zEA,Jc]at hv;have h1:yJ G2 d xs [] 0=yJ G s0 xs [] 0:=zLA xs [] 0 (by grind);rw[h1]at hv;have mc:(yJ G s0 xs [] 0).length=xs.length*k:=by grind[wV]
    have aH:(yJ G2 d us [] xs.length).length=us.length*k:=by grind[wV]
    have ho:o<xs.length*k+us.length*k:=by grind
    have pJ:=hn.len;rw[Array.getElem?_append_left (by simp;omega),List.getElem?_toArray];rw[Kq]at hv ⊢
    split at hv
    ·grind
    ·rename_i cy;rw[if_neg cy]
     exact hn.vals G2 (fun j z'=>by rw[fm,if_neg (by omega),show xs.length+j-xs.length=j from by omega]) _ v hv)
   (fun s p h=>pH s p (by simpa[zBe]using h)) (ho:=by rw[←eK];rfl) (hq:=by rw[←eK];rfl)
  refine⟨_,w',by rw[hh];exact gz,_,fin _ w' _ (by simpa[zBe]using g1) g2 (by simp[Gh.nb]) ?_ (by grind[Gh.nb])⟩;simp only[R];refine .inr ⟨w.heap.size,cap',_,e,by simp[Gh.nb],g5,by grind,dl,?_,by simp[Gh.nb],?_,zSl _ _ _ _ _ (fun x ep=>?_) g3 g4⟩
  ·have mc:(yJ G s0 xs [] 0).length=xs.length*k:=by grind[wV]
   have pJ:=hn.len;simp only[Array.size_append,Jbl,J5,size_zeroCells,fp,mc,pJ,←Uh]
   grind
  ·intro o ho _
   rw[J5,Uh]at ho;simp[Gh.nb,zDV (xs++us) [] 0 o (by grind[zEB])]
  ·rcases Jd.1 ep with h|h
   ·grind
   ·exact hn.size x h
end
end Go.Ab

namespace Go.Ab
open Go
mutual
def T.flat:T→Bool
 |.lit _|.ro _=>iI
 |.agg xs=>zAC xs
 |.any|.same _ _|.addr _ _|.sub _ _ _ _ _|.sl _ _|.ptr _|.tup _=>iJ
def zAC:List T→Bool
 | []=>iI
 |x::xs=>x.flat&&zAC xs
end
section
variable {St:Stb}{G G2:Gh}{w w2:World}{s d:Nat}
mutual
theorem zKn:(t:T)→ ∀(p p':List Nat),t.flat=iI→(∀z,G2.hd d (z++p')=G.hd s (z++p))→R St G w s t p→R St G2 w2 d t p'
 |.lit _,p,p',_,h,hr=>by have:=h [];grind[R]
 |.ro _,p,p',_,h,hr=>by have:=h [];grind[R]
 |.agg xs,p,p',hf,h,hr=>by simp only[R,T.flat]at hr hf ⊢;exact zPq xs p p' 0 hf h hr
 |.any,_,_,hf,_,_|.same _ _,_,_,hf,_,_|.addr _ _,_,_,hf,_,_|.sub _ _ _ _ _,_,_,hf,_,_|.sl _ _,_,_,hf,_,_|.ptr _,_,_,hf,_,_|.tup _,_,_,hf,_,_=>by grind[T.flat]
theorem zPq:(xs:List T)→ ∀(p p':List Nat)(j:Nat),zAC xs=iI→(∀z,G2.hd d (z++p')=G.hd s (z++p))→RF St G w s xs p j→RF St G2 w2 d xs p' j
 | [],_,_,_,_,_,_=>by grind[RF]
 |x::xs,p,p',j,hf,h,hr=>by
  simp only[RF,zAC,J4]at hr hf ⊢
  exact⟨zKn x (j::p) (j::p') hf.1 (fun z=>by have:=h (z++[j]);grind) hr.1,zPq xs p p' (j+1) hf.2 h hr.2⟩
end
end
mutual
theorem zHu:(t:T)→t.flat=iI→yE t∧t.okTup=iI
 |.lit _,_|.ro _,_=>by simp[yE,xE,T.okTup]
 |.agg xs,h=>by simp only[T.flat]at h;simpa only[yE,xE,T.okTup]using kW xs h
 |.any,h|.same _ _,h|.addr _ _,h|.sub _ _ _ _ _,h|.sl _ _,h|.ptr _,h|.tup _,h=>by grind[T.flat]
theorem kW:(xs:List T)→zAC xs=iI→xW xs∧yV xs=iI
 | [],_=>by simp[xW,wB,yV]
 |x::xs,h=>by simp only[zAC,J4]at h;simp only[xW,wB,yV,J4];exact⟨⟨(zHu x h.1).1,(kW xs h.2).1⟩,(zHu x h.1).2,(kW xs h.2).2⟩
end
theorem zJq:(xs:List T)→zAC xs=iI→ ∀(i:Nat)(x:T),xs[i]? =iG x→x.flat=iI
 | [],_,_,_,h=>by simp at h
 |y::ys,hk,i,x,h=>by
  simp only[zAC,J4]at hk;cases i with
  |zero=>grind
  |succ i=>exact zJq ys hk.2 i x (by grind)
mutual
def zF8:T→Bool
 |.lit _=>iI
 |.sl _ xs=>zBw xs
 |.agg xs=>zBw xs
 |.ptr t=>zF8 t
 |.any|.ro _|.same _ _|.addr _ _|.sub _ _ _ _ _|.tup _=>iJ
def zBw:List T→Bool
 | []=>iI
 |x::xs=>zF8 x&&zBw xs
end
theorem zLB:(ys:List T)→zBw ys=iI→ ∀u∈ys,∀xs,u≠.tup xs
 | [],_,_,h,_=>by simp at h
 |y::ys,hr,u,h,xs=>by
  simp only[zBw,J4]at hr;rcases J9.1 h with rfl|h
  ·rintro rfl;grind[zF8]
  ·exact zLB ys hr.2 u h xs
theorem zGu:(ys:List T)→(roT.roTs ys).length=ys.length
 | []=>rfl
 |y::ys=>by simp[roT.roTs,zGu ys]
theorem zHv{k:Nat}:(ys:List T)→(∀u∈ys,u.size=k)→(∀u∈ys,∀xs,u≠.tup xs)→ ∀u∈roT.roTs ys,u.size=k
 | [],_,_,u,h=>by grind[roT.roTs]
 |y::ys,h1,h2,u,h=>by
  simp only[roT.roTs,J9]at h;rcases h with rfl|h
  ·grind[zE7]
  ·exact zHv ys (by grind) (by grind) u h
theorem zLC:(ys:List T)→ ∀(j:Nat)(u:T),(roT.roTs ys)[j]? =iG u→ ∃u0,ys[j]? =iG u0∧u=roT u0
 | [],_,_,h=>by grind[roT.roTs]
 |y::ys,j,u,h=>by
  cases j with
  |zero=>grind[roT.roTs]
  |succ j=>
   obtain⟨u0,h1,h2⟩:=zLC ys j u (by grind[roT.roTs])
   grind
theorem zPr{St:Stb}{G2:Gh}{d:Nat}:(ys:List T)→ ∀(cs':Array Value)(o' k n:Nat),RoL St ys cs' o' k→(∀u∈ys,u.size=k)→(∀j u,ys[j]? =iG u→ ∀z',G2.hd d (z'++[n+j])=kE (zDU u cs' (o'+j*k) z'.reverse))→
  ∀(i:Nat)(v:Value),(yJ G2 d (roT.roTs ys) [] n)[i]? =iG v→cs'[o'+i]? =iG v
 | [],_,_,_,_,_,_,_,i,v,hv=>by grind[roT.roTs,yJ]
 |y::ys,cs',o',k,n,h,hs,hd,i,v,hv=>by
  simp only[RoL]at h;simp only[roT.roTs,yJ]at hv;have eh:∀xs,y≠.tup xs:=by rintro xs rfl;grind[RoC]
  have hnt':∀xs,roT y≠.tup xs:=fun xs e=>by cases y<;>simp[roT]at e
  have hl:(vals G2 d (roT y) [n]).length=k:=by grind[vJ,zE7]
  rw[Kq]at hv;split at hv
  ·exact zHg y cs' o' [n] (fun z'=>by simpa using hd 0 y (by simp) z') h.1 i v hv
  ·have:=zPr ys cs' (o'+k) k (n+1) h.2 (by grind) (fun j u hu z'=>by
    have:=hd (j+1) u (by grind) z'
    grind) _ v hv
   grind
mutual
theorem zQE{G:Gh}(hg:∀s z,(G.hd s z).oneCell'=iI){s:Nat}:(t:T)→ ∀(p:List Nat)(v:Value),v∈vals G s t p→v.oneCell'=iI
 |.agg xs,p,v,h=>by simp only[vals]at h;exact zDZ hg xs p 0 v h
 |.any,p,v,h|.lit _,p,v,h|.ro _,p,v,h|.same _ _,p,v,h|.addr _ _,p,v,h|.sub _ _ _ _ _,p,v,h|.sl _ _,p,v,h|.ptr _,p,v,h|.tup _,p,v,h=>by grind[vals]
theorem zDZ{G:Gh}(hg:∀s z,(G.hd s z).oneCell'=iI){s:Nat}:(xs:List T)→ ∀(p:List Nat)(j:Nat)(v:Value),v∈yJ G s xs p j→v.oneCell'=iI
 | [],_,_,_,h=>by grind[yJ]
 |x::xs,p,j,v,h=>by
  simp only[yJ,Jd]at h;rcases h with h|h
  ·exact zQE hg x _ v h
  ·exact zDZ hg xs p _ v h
end
theorem zC3{G G2:Gh}{s d:Nat}:(us:List T)→ ∀(n j:Nat),(∀i z,G2.hd d (z++[n+i])=G.hd s (z++[j+i]))→yJ G2 d us [] n=yJ G s us [] j
 | [],_,_,_=>by rfl
 |x::xs,n,j,h=>by
  have ih:yJ G2 d xs [] (n+1)=yJ G s xs [] (j+1):=zC3 xs (n+1) (j+1) (fun i z=>by rw[show n+1+i=n+(i+1)from by omega,show j+1+i=j+(i+1)from by omega];simp_all)
  simp only[yJ];rw[ih,zAO x [j] [n] (by simpa using h 0)]
theorem zED{G G2:Gh}{s d:Nat}:(us:List T)→ ∀(n j:Nat)(q:List Nat),(∀i z,G2.hd d (z++[n+i])=G.hd s (z++((j+i)::q)))→yJ G2 d us [] n=yJ G s us q j
 | [],_,_,_,_=>by rfl
 |x::xs,n,j,q,h=>by
  have ih:yJ G2 d xs [] (n+1)=yJ G s xs q (j+1):=zED xs (n+1) (j+1) q (fun i z=>by rw[show n+1+i=n+(i+1)from by omega,show j+1+i=j+(i+1)from by omega];simp_all)
  simp only[yJ];rw[ih,zAO x (j::q) [n] (by simpa using h 0)]
section
variable {P:Program}{Γ:Ctx}{E:Env}{o:Oper}{d:Nat}
theorem zPs{St:Stb}{G:Gh}{w:World}{r:Nat}{q:List Nat}{k:Nat}{us:List T}(h:R St G w r (.sl k us) q){size:Nat}(hk:size=k):
  ∃xa c,G.hd r q=.slice xa us.length c∧ ∀w2:World,w2.heap=w.heap→(Builtin.firstCells size us.length (.slice xa us.length c)).run P w2=.ok (yJ G r us q 0).toArray w2:=by
 simp only[R]at h;rcases h with⟨rfl,a1,h1⟩|⟨b,cap,cs,et,h1,h2,h3,h4,h5,h6,h7,h8⟩
 ·exact⟨a1,0,h1,fun w2 _=>by cases a1<;>simp[Builtin.firstCells,loadCells,loadCellsFrom,yJ]⟩
 ·refine⟨_,_,h1,fun w2 hw2=>?_⟩
  have hl:=zAB us q 0 b 0 h8;refine run_firstCells_some (P:=P) w2 size us.length ⟨b,0,iH⟩ _ _ _ ?_ (fun j v hv=>?_)
  ·rw[wV,hk]
   exact wW us (zBv us q 0 b 0 h8).2
  ·have:=zBq us q 0 b 0 hl j v hv
   grind[uR,yS,World.cell?]
theorem zBx{G:Gh}{a:Act}{w:World}(g9:Rep Γ E G a.tmps w){s:Nat}{t:T}(h:E s=iG t)(ht:t.single=iI):a.eval (.tmp s)=G.hd s []:=by rw[wK (g9.ent s t h).1,xU ht]
theorem zKo(t e:TypeId)(ti:TypeInfo)(z:Value)(k s0 y:Nat)(xs us:List T)(ho:o.op=.call { callee:=.builtin .append,args:=#[.tmp s0,.tmp y],argTypes:=#[t,t] })(gg:o.dst=iG d)(hd:d<Γ.N)
  (ht:P.underlying t=iG (.slice e))(hi:P.info? e=iG ti)(hz:ti.zero=iG z)(hk:ti.size=k)(eW:0<k)(fp:z.cells.size=k)(hb:ti.bytes≤2048)
  (eA:E s0=iG (.sl k xs))(hy:E y=iG (.sl k us))(fM:s0≠d)(hyd:y≠d)(hys:y≠s0)(pe:xs.length+us.length≤68719476736):
  wQ P Γ o E (E.app (aWr d s0 (iG y) k (xs++us)) (zBe d s0 (iG y))):=by
 refine wQ.value gg fun a w G g9=>?_
 obtain⟨_,y2,y3⟩:=g9.ent y _ hy;simp only[Top]at y3;obtain⟨xa,c,h1,h2⟩:=zPs (P:=P) y2 hk;have fT:yV us=iI∧ ∀u∈us,u.size=k:=by
  simp only[R]at y2;rcases y2 with⟨rfl,_⟩|⟨b,cap,cs,et,_,_,_,_,_,_,_,h8⟩
  ·simp[yV]
  ·exact⟨kQ (St:=Γ.St) (k:=k) us [] 0 b 0 (zAB us [] 0 b 0 h8),(zBv us [] 0 b 0 h8).2⟩
 have hn:zHt Γ E G d s0 (iG y) k xs.length us (fun j z'=>G.hd y (z'++[j])) (yJ G y us [] 0):=
  ⟨fT.2,fT.1,y3,fun j z'=>g9.mem.one _ _,by grind[wV,wW],fun y' hy'=>by simp_all,fun h=>by simp at h,
   fun G2 fm o v hv=>by rw[←zC3 us xs.length 0 (fun i z'=>by rw[fm,Jc])];exact hv⟩
 obtain⟨v,w',gz,G',gn⟩:=zBL (P:=P) (ty:=o.type) g9 hd ht hi hz hk eW fp hb eA fM hn (xv:=a.eval (.tmp y)) ⟨.inl ⟨e,xa,c,ht,by rw[zBx g9 hy rfl,h1],h2⟩⟩ (fun v hv=>zDl g9.mem us [] 0 v hv) pe;refine⟨v,w',?_,G',gn⟩;rw[←zBx g9 eA rfl]at gz;simp[execOp,ho,resolve,invoke,builtin,gz]
theorem zKp(t e:TypeId)(ti:TypeInfo)(z:Value)(k s0:Nat)(y:Operand)(r:Nat)(q:List Nat)(xs us:List T)(ho:o.op=.call { callee:=.builtin .append,args:=#[.tmp s0,y],argTypes:=#[t,t] })(gg:o.dst=iG d)(hd:d<Γ.N)
  (ht:P.underlying t=iG (.slice e))(hi:P.info? e=iG ti)(hz:ti.zero=iG z)(hk:ti.size=k)(eW:0<k)(fp:z.cells.size=k)(hb:ti.bytes≤2048)
  (eA:E s0=iG (.sl k xs))(hy:tP E y=iG (r,q,.sl k us))(hf:zAC us=iI)(fM:s0≠d)(pe:xs.length+us.length≤68719476736):
  wQ P Γ o E (E.app (aWr d s0 iH k (xs++us)) (zBe d s0 iH)):=by
 refine wQ.value gg fun a w G g9=>?_
 obtain⟨y2,y1⟩:=jK g9 hy rfl;obtain⟨xa,c,h1,h2⟩:=zPs (P:=P) y2 hk;have fT:(∀u∈us,u.size=k)∧ ∀j u,us[j]? =iG u→R Γ.St G w r u (j::q):=by
  simp only[R]at y2;rcases y2 with⟨rfl,_⟩|⟨b,cap,cs,et,_,_,_,_,_,_,_,h8⟩
  ·simp
  ·refine⟨(zBv us q 0 b 0 h8).2,fun j u hu=>?_⟩
   have:=(kA us q 0 b 0 k j u h8 hu).2.2
   grind
 have gC:=kW us hf;have hn:zHt Γ E G d s0 iH k xs.length us (fun j z'=>G.hd r (z'++(j::q))) (yJ G r us q 0):=
  ⟨fT.1,gC.2,gC.1,fun j z'=>g9.mem.one _ _,by grind[wV,wW],by simp,
   by grind[zKn,zJq],
   fun G2 fm o v hv=>by rw[←zED us xs.length 0 q (fun i z'=>by rw[fm,Jc])];exact hv⟩
 obtain⟨v,w',gz,G',gn⟩:=zBL (P:=P) (ty:=o.type) g9 hd ht hi hz hk eW fp hb eA fM hn (xv:=a.eval y) ⟨.inl ⟨e,xa,c,ht,by rw[y1,h1],h2⟩⟩ (fun v hv=>zDl g9.mem us q 0 v hv) pe;refine⟨v,w',?_,G',gn⟩;rw[←zBx g9 eA rfl]at gz;simp[execOp,ho,resolve,invoke,builtin,gz]
mutual
theorem zSq:(u:T)→zF8 u=iI→(roT u).flat=iI
 |.agg xs,h=>by simp only[zF8]at h;simp only[roT,T.flat];exact zF9 xs h
 |.lit _,_|.sl _ _,_|.ptr _,_=>by rfl
 |.any,h|.ro _,h|.same _ _,h|.addr _ _,h|.sub _ _ _ _ _,h|.tup _,h=>by grind[zF8]
theorem zF9:(xs:List T)→zBw xs=iI→zAC (roT.roTs xs)=iI
 | [],_=>by rfl
 |x::xs,h=>by simp only[zBw,J4]at h;simp only[roT.roTs,zAC,J4];exact⟨zSq x h.1,zF9 xs h.2⟩
end
theorem zKq(t e:TypeId)(ti:TypeInfo)(z:Value)(k s0:Nat)(y:Operand)(r:Nat)(q:List Nat)(xs ys:List T)(ho:o.op=.call { callee:=.builtin .append,args:=#[.tmp s0,y],argTypes:=#[t,t] })(gg:o.dst=iG d)(hd:d<Γ.N)
  (ht:P.underlying t=iG (.slice e))(hi:P.info? e=iG ti)(hz:ti.zero=iG z)(hk:ti.size=k)(eW:0<k)(fp:z.cells.size=k)(hb:ti.bytes≤2048)
  (eA:E s0=iG (.sl k xs))(hy:tP E y=iG (r,q,.ro (.sl k ys)))(hro:zBw ys=iI)(hys:∀u∈ys,u.size=k)(fM:s0≠d)(pe:xs.length+ys.length≤68719476736):
  wQ P Γ o E (E.app (aWr d s0 iH k (xs++roT.roTs ys)) (zBe d s0 iH)):=by
 refine wQ.value gg fun a w G g9=>?_
 obtain⟨y2,y1⟩:=jK g9 hy rfl;obtain⟨xa,c,h1,h2,h3,h4⟩:=zDh y2;have hf:=zF9 ys hro;have gC:=kW _ hf;have gj:(roT.roTs ys).length=ys.length:=zGu ys;have gy:∀u∈roT.roTs ys,u.size=k:=zHv ys hys (by grind[zLB]);obtain⟨cs',o',h5,h6⟩:∃(cs':Array Value)(o':Nat),RoL Γ.St ys cs' o' k∧(ys≠[]→ ∃b et fr,xa=iG ⟨b,o',iH⟩∧Γ.St b=iG (.cells cs' et fr)):=by
  by_cases gf:ys=[]
  ·subst gf;exact⟨#[],0,by simp[RoL],fun h=>absurd rfl h⟩
  grind
 let f2:Nat→List Nat→Value:=fun j z'=>match ys[j]? with
  |some u=>kE (zDU u cs' (o'+j*k) z'.reverse)
  |none=>.bool iJ
 have hf2:∀j u,ys[j]? =iG u→ ∀z',f2 j z'=kE (zDU u cs' (o'+j*k) z'.reverse):=by grind
 let G0:Gh:={ G with hd:=fun s z'=>if s=d then(match z'.getLast? with
  |some j=>f2 j z'.dropLast
  |none=>.bool iJ)else G.hd s z' }
 have hG0:∀j z',G0.hd d (z'++[j])=f2 j z':=by grind
 have pj:∀(G2:Gh)(n:Nat),(∀j z',G2.hd d (z'++[n+j])=f2 j z')→ ∀(i:Nat)(v:Value),(yJ G2 d (roT.roTs ys) [] n)[i]? =iG v→cs'[o'+i]? =iG v:=by grind[zPr]
 have hload:∀w2:World,w2.heap=w.heap→(Builtin.firstCells ti.size ys.length (.slice xa ys.length c)).run P w2=.ok (yJ G0 d (roT.roTs ys) [] 0).toArray w2:=by
  intro w2 hw2
  by_cases gf:ys=[]
  ·subst gf
   cases xa<;>simp[Builtin.firstCells,loadCells,loadCellsFrom,roT.roTs,yJ]
  ·obtain⟨b,et,fr,rfl,h7⟩:=h6 gf
   refine run_firstCells_some (P:=P) w2 ti.size ys.length ⟨b,o',iH⟩ _ _ _ ?_ (fun j v hv=>?_)
   ·grind[wV,wW]
   ·have:=pj G0 0 (fun j z'=>by rw[Jc];grind) j v hv
    rw[uR];have h8:=g9.mem.st b _ h7
    grind[World.cell?]
 have mz:∀j z',(f2 j z').oneCell'=iI:=fun j z'=>by
  dsimp only[f2];split
  ·exact zBr _
  ·rfl
 have hn:zHt Γ E G d s0 iH k xs.length (roT.roTs ys) f2 (yJ G0 d (roT.roTs ys) [] 0):=by
  refine⟨gy,gC.2,gC.1,mz,by grind[wV,wW],by simp,fun _ j u hu G2 w2 fm=>?_,fun G2 fm i v hv=>?_⟩
  ·obtain⟨u0,hu0,rfl⟩:=zLC ys j u hu
   exact zSg u0 cs' (o'+j*k) [xs.length+j] (by grind) (by grind[zGL])
  ·rw[←zC3 (roT.roTs ys) xs.length 0 (fun i z'=>by rw[fm,Jc];grind)]
   exact hv
 have ay:∀v∈yJ G0 d (roT.roTs ys) [] 0,v.oneCell'=iI:=by
  intro v hv;refine zDZ (fun s z'=>?_) _ [] 0 v hv;simp only[G0];split
  ·split
   ·exact mz _ _
   ·rfl
  ·exact g9.mem.one _ _
 have bB:zHs P t e ti (a.eval y) (roT.roTs ys).length (yJ G0 d (roT.roTs ys) [] 0) w:=⟨by grind⟩;obtain⟨v,w',gz,G',gn⟩:=zBL (P:=P) (ty:=o.type) g9 hd ht hi hz hk eW fp hb eA fM hn bB ay (by omega);refine⟨v,w',?_,G',gn⟩;rw[←zBx g9 eA rfl]at gz;simp[execOp,ho,resolve,invoke,builtin,gz]
end
end Go.Ab

namespace Go.Ab
open Go
theorem zGv:(us:List T)→qO us=us.flatMap tZ
 | []=>rfl
 |u::us=>by simp[qO,zGv us]
theorem zC4(u:T)(h:u.zOk=iI):∀m,zAu (J1 m u)=iI
 |0=>rfl
 |m+1=>by simp[Ju,zAu,h,zC4 u h m]
section
variable {P:Program}{Γ:Ctx}{E:Env}{o:Oper}{d:Nat}
theorem zHw(t t2 e:TypeId)(k2:IntKind)(ti:TypeInfo)(z:Value)(u:T)(k s0:Nat)(y:Operand)(kd:IntKind)(m:Nat)(xs:List T)(ho:o.op=.call { callee:=.builtin .append,args:=#[.tmp s0,y],argTypes:=#[t,t2] })(gg:o.dst=iG d)(hd:d<Γ.N)
  (ht:P.underlying t=iG (.slice e))(a9:P.underlying t2=iG (.int k2))(hi:P.info? e=iG ti)(hz:ti.zero=iG z)(hk:ti.size=k)(eW:0<k)(hb:ti.bytes≤2048)(hu:u.zOk=iI)(hv:tZ u=z.cells.toList)(fT:u.size=k)
  (eA:E s0=iG (.sl k xs))(hy:opT E y=iG (.lit (.int kd m)))(fM:s0≠d)(pe:xs.length+m≤68719476736):
  wQ P Γ o E (E.app (aWr d s0 iH k (xs++J1 m u)) (zBe d s0 iH)):=by
 refine wQ.value gg fun a w G g9=>?_
 have fp:z.cells.size=k:=by rw[←Ks,←hv,vG u hu,fT]
 have hzo:=zC4 u hu m;have gC:=zBK _ hzo
 let f2:Nat→List Nat→Value:=fun _ z'=>kE (zhd u z'.reverse)
 have ut:((Builtin.zeroCells z.cells m).toList).length=m*k:=by simp[Builtin.zeroCells,fp]
 have hn:zHt Γ E G d s0 iH k xs.length (J1 m u) f2 (Builtin.zeroCells z.cells m).toList:=by
  refine⟨fun x hx=>by simp at hx;rw[hx.2];exact fT,gC.2,gC.1,fun _ _=>zBr _,by rw[ut];simp,fun y' hy'=>by simp at hy',fun _ j x hx G2 w2 fm=>?_,fun G2 fm i v mn=>?_⟩
  ·rw[Kf]at hx
   split at hx
   ·simp at hx;subst hx;exact zKh u _ hu (fun z'=>fm z')
   ·cases hx
  ·have h1:yJ G2 d (J1 m u) [] xs.length=qO (J1 m u):=zDW _ [] xs.length hzo (fun j x hx z'=>by
    rw[Kf]at hx;split at hx
    ·simp at hx;subst hx;exact fm j z'
    ·cases hx)
   rw[h1,zGv]at mn;obtain⟨h2,h3⟩:=zKi tZ u k (by rw[vG u hu,fT]) eW m i v mn;rw[hv,Kv,←fp]at h3;have h4:i<m*z.cells.size:=by rw[fp];exact h2
   simp[Builtin.zeroCells,h4,getElem!_def,h3]
 have gw:∀v∈(Builtin.zeroCells z.cells m).toList,v.oneCell'=iI:=by
  intro v mn;simp only[Builtin.zeroCells,Array.toList_map,Array.toList_range,Jl,Kn]at mn;obtain⟨i,eI,rfl⟩:=mn;have h1:i%z.cells.size<z.cells.size:=Hk _ (by omega);have h2:z.cells[i%z.cells.size]! =z.cells[i%z.cells.size]:=by simp[h1]
  rw[h2];exact zF6 u hu _ (by rw[hv];exact Array.mem_toList_iff.2 (Array.getElem_mem h1))
 have bB:zHs P t2 e ti (a.eval y) (J1 m u).length (Builtin.zeroCells z.cells m).toList w:=by
  refine⟨.inr ⟨k2,kd,z,a9,?_,hz,by simp,?_,by rw[fp,hk]⟩⟩
  ·rw[(wL g9 hy).1];simp
  ·simp only[Jb]
   exact Hb (Jr (show m≤68719476736 by omega) hb) (by decide)
 obtain⟨v,w',gz,G',gn⟩:=zBL (P:=P) (ty:=o.type) g9 hd ht hi hz hk eW fp hb eA fM hn bB gw (by simpa using pe);refine⟨v,w',?_,G',gn⟩;rw[←zBx g9 eA rfl]at gz;simp[execOp,ho,resolve,invoke,builtin,gz]
end
end Go.Ab

namespace Go.Ab
open Go
def zLD(G:Gh)(nd:List (Nat×List Nat×T)):Value:=
 match nd with
 | [x]=>sQ G x.1 x.2.2 x.2.1
 |nd=>.tuple (nd.map fun x=>sQ G x.1 x.2.2 x.2.1).toArray
def FnC(P:Program)(f:FuncId)(us:List T)(res:List T)(rws:List (Nat×T)):Prop:=
 ∀(St:Stb)(W:Nat→Prop)(w:World)(G:Gh)(vs:Array Value),vs.size=us.length→
  (∀(i:Nat) u,us[i]? =iG u→vs[i]? =iG (mkV G i u [])∧R St G w i u [])→Mem ⟨St,W,w,0⟩ G w→
  Calls P f vs w fun e w'=> ∃(S':Stb)(G':Gh)(nd:List (Nat×List Nat×T)),zD2 St S' W w.heap.size∧e=.returned (zLD G' nd)∧Mem ⟨S',W,w,0⟩ G' w'∧nd.map (·.2.2)=res∧
   (∀x∈nd,R S' G' w' x.1 x.2.2 x.2.1∧us.length≤x.1)∧(nd.map (·.1)).Nodup∧
   ∀i u',(i,u')∈rws→R S' G' w' i u' []∧ ∃u,us[i]? =iG u∧mkV G' i u' []=mkV G i u []
mutual
def vO:T→Bool
 |.ro _=>iJ
 |.sl _ xs|.agg xs|.tup xs=>uK xs
 |.ptr t=>vO t
 |.any|.lit _|.same _ _|.addr _ _|.sub _ _ _ _ _=>iI
def uK:List T→Bool
 | []=>iI
 |x::xs=>vO x&&uK xs
end
section
variable {St St':Stb}{G:Gh}{w:World}{s:Nat}
mutual
theorem zQF:(t:T)→ ∀(p:List Nat),vO t=iI→R St G w s t p→R St' G w s t p
 |.ro _,_,h,_=>by grind[vO]
 |.sl k xs,p,h,hr=>by
  simp only[vO,R]at h hr ⊢
  rcases hr with hr|⟨b,cap,cs,e,h1,h2,h3,h4,h5,h6,h7,h8⟩
  ·grind
  ·exact .inr ⟨b,cap,cs,e,h1,h2,h3,h4,h5,h6,h7,zX0 xs p 0 b 0 k h h8⟩
 |.agg xs,p,h,hr|.tup xs,p,h,hr=>by simp only[vO,R]at h hr ⊢;exact zX1 xs p 0 h hr
 |.ptr t,p,h,hr=>by
  simp only[vO,R]at h hr ⊢
  obtain⟨b,cs,e,h1,h2,h3,h6,h4,h5⟩:=hr;exact⟨b,cs,e,h1,h2,h3,h6,h4,zQF t _ h h5⟩
 |.any,_,_,hr|.lit _,_,_,hr|.same _ _,_,_,hr|.addr _ _,_,_,hr|.sub _ _ _ _ _,_,_,hr=>by first|(simp only[R];done)|simpa only[R]using hr
theorem zX0:(xs:List T)→ ∀(p:List Nat)(i b o k:Nat),uK xs=iI→RL St G w s xs p i b o k→RL St' G w s xs p i b o k
 | [],_,_,_,_,_,_,_=>by simp only[RL]
 |x::xs,p,i,b,o,k,h,hr=>by
  simp only[uK,J4,RL]at h hr ⊢
  exact⟨hr.1,zQF x _ h.1 hr.2.1,zX0 xs p (i+1) b _ k h.2 hr.2.2⟩
theorem zX1:(xs:List T)→ ∀(p:List Nat)(i:Nat),uK xs=iI→RF St G w s xs p i→RF St' G w s xs p i
 | [],_,_,_,_=>by simp only[RF]
 |x::xs,p,i,h,hr=>by
  simp only[uK,J4,RF]at h hr ⊢
  exact⟨zQF x _ h.1 hr.1,zX1 xs p (i+1) h.2 hr.2⟩
end
end
section
variable {St St':Stb} (h:∀b x,St b=iG x→St' b=iG x)
 include h
mutual
theorem sA:(t:T)→ ∀(cs:Array Value)(o:Nat),RoC St t cs o→RoC St' t cs o
 |.sl k xs,cs,o,hr=>by
  simp only[RoC]at hr ⊢
  obtain⟨a,c,h1,h2,h3,h4⟩:=hr;refine⟨a,c,h1,h2,h3,fun gf=>?_⟩;obtain⟨b,o',cs',e,fr,h5,h6,h7⟩:=h4 gf;exact⟨b,o',cs',e,fr,h5,h b _ h6,zLE xs cs' o' k h7⟩
 |.agg xs,cs,o,hr=>by simp only[RoC]at hr ⊢;exact zLF xs cs o hr
 |.ptr t,cs,o,hr=>by
  simp only[RoC]at hr ⊢
  obtain⟨b,o',cs',e,fr,h5,h6,h7⟩:=hr;exact⟨b,o',cs',e,fr,h5,h b _ h6,sA t cs' o' h7⟩
 |.any,_,_,hr|.lit _,_,_,hr|.ro _,_,_,hr|.same _ _,_,_,hr|.addr _ _,_,_,hr|.sub _ _ _ _ _,_,_,hr|.tup _,_,_,hr=>by first|(simp only[RoC]at hr;done)|simpa only[RoC]using hr
theorem zLE:(xs:List T)→ ∀(cs:Array Value)(o k:Nat),RoL St xs cs o k→RoL St' xs cs o k
 | [],_,_,_,_=>by have _:=h;simp only[RoL]
 |x::xs,cs,o,k,hr=>by simp only[RoL]at hr ⊢;exact⟨sA x cs o hr.1,zLE xs cs _ k hr.2⟩
theorem zLF:(xs:List T)→ ∀(cs:Array Value)(o:Nat),RoF St xs cs o→RoF St' xs cs o
 | [],_,_,_=>by have _:=h;simp only[RoF]
 |x::xs,cs,o,hr=>by simp only[RoF]at hr ⊢;exact⟨sA x cs o hr.1,zLF xs cs _ hr.2⟩
end
end
section
variable {St St':Stb}{G:Gh}{w:World}{s:Nat} (h:∀b x,St b=iG x→St' b=iG x)
 include h
mutual
theorem zKr:(t:T)→ ∀(p:List Nat),R St G w s t p→R St' G w s t p
 |.ro t,_,hr=>by simp only[R]at hr ⊢;grind[sA]
 |.sl k xs,p,hr=>by
  simp only[R]at hr ⊢
  rcases hr with hr|⟨b,cap,cs,e,h1,h2,h3,h4,h5,h6,h7,h8⟩
  ·grind
  ·exact .inr ⟨b,cap,cs,e,h1,h2,h3,h4,h5,h6,h7,zPt xs p 0 b 0 k h8⟩
 |.agg xs,p,hr|.tup xs,p,hr=>by simp only[R]at hr ⊢;exact zPu xs p 0 hr
 |.ptr t,p,hr=>by
  simp only[R]at hr ⊢
  obtain⟨b,cs,e,h1,h2,h3,h6,h4,h5⟩:=hr;exact⟨b,cs,e,h1,h2,h3,h6,h4,zKr t _ h5⟩
 |.any,_,hr|.lit _,_,hr|.same _ _,_,hr|.addr _ _,_,hr|.sub _ _ _ _ _,_,hr=>by first|(simp only[R];done)|simpa only[R]using hr
theorem zPt:(xs:List T)→ ∀(p:List Nat)(i b o k:Nat),RL St G w s xs p i b o k→RL St' G w s xs p i b o k
 | [],_,_,_,_,_,_=>by have _:=h;simp only[RL]
 |x::xs,p,i,b,o,k,hr=>by simp only[RL]at hr ⊢;exact⟨hr.1,zKr x _ hr.2.1,zPt xs p (i+1) b _ k hr.2.2⟩
theorem zPu:(xs:List T)→ ∀(p:List Nat)(i:Nat),RF St G w s xs p i→RF St' G w s xs p i
 | [],_,_,_=>by have _:=h;simp only[RF]
 |x::xs,p,i,hr=>by simp only[RF]at hr ⊢;exact⟨zKr x _ hr.1,zPu xs p (i+1) hr.2⟩
end
end
mutual
def strip:T→T
 |.lit v=>.lit v
 |.ro u=>if u.single then u else .any
 |.sl k xs=>.sl k (wX xs)
 |.agg xs=>.agg (wX xs)
 |.ptr t=>.ptr (strip t)
 |.any|.same _ _|.addr _ _|.sub _ _ _ _ _|.tup _=>.any
def wX:List T→List T
 | []=>[]
 |x::xs=>strip x::wX xs
end
theorem kR:(xs:List T)→(wX xs).length=xs.length
 | []=>rfl
 |x::xs=>by simp[wX,kR xs]
mutual
theorem zEa:(t:T)→(strip t).size=t.size
 |.agg xs=>by simp only[strip,T.size];exact zGw xs
 |.ro u=>by
  simp only[strip];split
  ·rename_i h;cases u<;>simp[T.single]at h<;>simp[T.size]
  rfl
 |.lit _|.sl _ _|.ptr _|.any|.same _ _|.addr _ _|.sub _ _ _ _ _|.tup _=>by rfl
theorem zGw:(xs:List T)→T.sizes (wX xs)=T.sizes xs
 | []=>rfl
 |x::xs=>by simp only[wX,T.sizes,zEa x,zGw xs]
end
theorem jG{St:Stb}{u:T}(hu:u.single=iI){v:Value}{cs:Array Value}{o:Nat}(h:RoC St u #[v] 0)(hc:cs[o]? =iG v):RoC St u cs o:=by
 cases u<;>simp[T.single]at hu<;>simp only[RoC]at h ⊢ <;>simp at h<;>first
  |grind
  |grind
  |grind
  |grind
section
variable {St Sc:Stb}{G:Gh}{w:World}{s:Nat} (gw:∀s p,(G.hd s p).oneCell'=iI) (eC:∀b x,St b=iG x→Sc b=iG x) (eJ:∀b,(∃y,G.ow b=iG (s,y))→Sc b=w.heap[b]?)
 include gw eC eJ
mutual
theorem frz:(t:T)→ ∀(p:List Nat)(b o:Nat)(cs:Array Value)(e:TypeId)(fr:Nat×Nat),w.heap[b]? =iG (.cells cs e fr)→Loc G w s t p b o→R St G w s t p→RoC Sc (strip t) cs o
 |.agg xs,p,b,o,cs,e,fr,hb,hl,hr=>by simp only[Loc,R,strip,RoC]at hl hr ⊢;exact yAc xs p 0 b o cs e fr hb hl.2 hr
 |.tup _,_,_,_,_,_,_,_,hl,_=>by have _:=eJ;simp only[Loc]at hl
 |.any,p,b,o,cs,e,fr,hb,hl,hr|.same _ _,p,b,o,cs,e,fr,hb,hl,hr|.addr _ _,p,b,o,cs,e,fr,hb,hl,hr|.sub _ _ _ _ _,p,b,o,cs,e,fr,hb,hl,hr=>by
  have h1:=(vF rfl hl).2.2;simp only[yS,World.cell?,hb]at h1;simp only[strip,RoC]
  grind
 |.lit v,p,b,o,cs,e,fr,hb,hl,hr=>by
  have h1:=(vF rfl hl).2.2;simp only[yS,World.cell?,hb]at h1;simp only[strip,RoC,R]at hr ⊢
  grind
 |.ro u,p,b,o,cs,e,fr,hb,hl,hr=>by
  have h1:=(vF rfl hl).2.2;simp only[yS,World.cell?,hb]at h1;simp only[strip,R]at hr ⊢
  split
  ·grind[jG,sA]
  ·simp only[RoC];grind
 |.sl k xs,p,b,o,cs,e,fr,hb,hl,hr=>by have h1:=(vF rfl hl).2.2;simp only[yS,World.cell?,hb]at h1;exact jG rfl (zLG (.sl k xs) p rfl hr) (by grind)
 |.ptr t,p,b,o,cs,e,fr,hb,hl,hr=>by have h1:=(vF rfl hl).2.2;simp only[yS,World.cell?,hb]at h1;exact jG rfl (zLG (.ptr t) p rfl hr) (by grind)
theorem yAc:(xs:List T)→ ∀(p:List Nat)(j b o:Nat)(cs:Array Value)(e:TypeId)(fr:Nat×Nat),w.heap[b]? =iG (.cells cs e fr)→vM G w s xs p j b o→RF St G w s xs p j→RoF Sc (wX xs) cs o
 | [],_,_,_,_,_,_,_,_,_,_=>by have _:=gw;have _:=eC;have _:=eJ;simp only[wX,RoF]
 |x::xs,p,j,b,o,cs,e,fr,hb,hl,hr=>by
  simp only[vM,RF,wX,RoF]at hl hr ⊢
  exact⟨frz x _ b o cs e fr hb hl.1 hr.1,by rw[zEa];exact yAc xs p (j+1) b _ cs e fr hb hl.2 hr.2⟩
theorem yAd:(xs:List T)→ ∀(p:List Nat)(i b o k:Nat)(cs:Array Value)(e:TypeId)(fr:Nat×Nat),w.heap[b]? =iG (.cells cs e fr)→RL St G w s xs p i b o k→RoL Sc (wX xs) cs o k
 | [],_,_,_,_,_,_,_,_,_,_=>by have _:=gw;have _:=eC;have _:=eJ;simp only[wX,RoL]
 |x::xs,p,i,b,o,k,cs,e,fr,hb,hr=>by
  simp only[RL,wX,RoL]at hr ⊢
  exact⟨frz x _ b o cs e fr hb hr.1.1 hr.2.1,yAd xs p (i+1) b _ k cs e fr hb hr.2.2⟩
theorem zLG:(t:T)→ ∀(p:List Nat),t.single=iI→R St G w s t p→RoC Sc (strip t) #[G.hd s p] 0
 |.agg _,_,h,_|.tup _,_,h,_=>by grind[T.single]
 |.any,p,_,_|.same _ _,p,_,_|.addr _ _,p,_,_|.sub _ _ _ _ _,p,_,_=>by simp only[strip,RoC];simp_all
 |.lit v,p,_,hr=>by simp only[strip,RoC,R]at hr ⊢;grind
 |.ro u,p,_,hr=>by
  simp only[strip,R]at hr ⊢
  split
  ·grind[sA]
  ·simp only[RoC];grind
 |.sl k xs,p,_,hr=>by
  simp only[strip,R,RoC]at hr ⊢
  rw[kR];rcases hr with⟨rfl,a,h1⟩|⟨b,cap,cs,e,h1,h2,h3,h4,h5,h6,h7,h8⟩
  ·grind[wX]
  ·exact⟨iG ⟨b,0,iH⟩,cap,by simp[h1],h3,h4,fun _=>⟨b,0,cs,e,(0,0),rfl,by grind,yAd xs p 0 b 0 k cs e (0,0) h2 h8⟩⟩
 |.ptr t,p,_,hr=>by
  simp only[strip,R,RoC]at hr ⊢
  obtain⟨b,cs,e,h1,h2,h3,h6,h4,h5⟩:=hr;exact⟨b,0,cs,e,(0,0),by simp[h1],by grind,frz t _ b 0 cs e (0,0) h2 h4 h5⟩
end
end
end Go.Ab

namespace Go.Ab
open Go
mutual
def clo(E:Env):T→T
 |.agg ts=>.agg (zBf E ts)
 |.lit v=>.lit v
 |.ro u=>.ro u
 |.same r q=>match jC E 4 r q with
  |some (_,_,.ro u)=>.ro u
  |some (_,_,.lit v)=>.lit v
  |some (_,_,t)=>if t.single then .ro (strip t)else .any
  |none=>.any
 |.sub r q k lo hi=>match jC E 4 r q with
  |some (_,_,.sl k' xs)=>if k=k'∧lo≤hi∧hi≤xs.length then .ro (.sl k (((wX xs).drop lo).take (hi-lo)))else .any
  |_=>.any
 |.sl k xs=>.ro (strip (.sl k xs))
 |.ptr t=>.ro (strip (.ptr t))
 |.any|.addr _ _|.tup _=>.any
def zBf(E:Env):List T→List T
 | []=>[]
 |x::xs=>clo E x::zBf E xs
end
mutual
def qL(E:Env)(rs:List Nat)(s:Nat):T→Bool
 |.agg ts=>zAD E rs s ts
 |.same r q|.sub r q _ _ _=>match jC E 4 r q with
  |some (r',_,_)=> !rs.contains r'
  |none=>iI
 |.sl _ _|.ptr _=> !rs.contains s
 |.lit _|.ro _|.any|.addr _ _=>iI
 |.tup _=>iJ
def zAD(E:Env)(rs:List Nat)(s:Nat):List T→Bool
 | []=>iI
 |x::xs=>qL E rs s x&&zAD E rs s xs
end
theorem zVT{St:Stb}{k:Nat}{xs:List T}{v:Value}{lo hi:Nat}(h:RoC St (.sl k xs) #[v] 0)(h1:lo≤hi)(h2:hi≤xs.length):RoC St (.sl k ((xs.drop lo).take (hi-lo))) #[zBo v k lo hi] 0:=by
 simp only[RoC]at h ⊢
 obtain⟨a',c,g4,g5,g6,g7⟩:=h;have hv:v=.slice a' xs.length c:=by simpa using g4
 subst hv;have gj:((xs.drop lo).take (hi-lo)).length=hi-lo:=by simp;omega
 refine⟨if c=lo then a' else a'.map (·.add (lo*k)),c-lo,by rw[gj];simp[zBo],by omega,by omega,?_⟩;intro gf;have eF:xs≠[]:=by rintro rfl;simp at gf
 obtain⟨b,o',cs',e',fr,rfl,h3,h4⟩:=g7 eF;have gC:c≠lo:=by rintro rfl;apply gf;apply Lp;omega
 exact⟨b,o'+lo*k,cs',e',fr,by simp[gC,uR],h3,zHi _ _ _ _ _ (zHh _ _ _ _ _ h4)⟩
section
variable {Γ:Ctx}{E:Env}{G Gc:Gh}{a:Act}{w:World}{Sc:Stb}{rs:List Nat}{s i:Nat} (g9:Rep Γ E G a.tmps w) (eC:∀b x,Γ.St b=iG x→Sc b=iG x) (eJ:∀r,r∉rs→ ∀b,(∃y,G.ow b=iG (r,y))→Sc b=w.heap[b]?) (gH:∀z,Gc.hd i z=G.hd s z)
 include g9 eC eJ gH
mutual
theorem zX2:(t:T)→ ∀(p:List Nat),qL E rs s t=iI→R Γ.St G w s t p→R Sc Gc w i (clo E t) p
 |.agg ts,p,h,hr=>by simp only[qL,clo,R]at h hr ⊢;exact zSr ts p 0 h hr
 |.tup _,_,h,_=>by simp[qL]at h
 |.lit v,p,_,hr=>by simp only[clo,R]at hr ⊢;rw[gH];exact hr
 |.ro u,p,_,hr=>by simp only[clo,R]at hr ⊢;rw[gH];exact sA eC u _ _ hr
 |.any,_,_,_|.addr _ _,_,_,_=>by simp only[clo,R]
 |.sl k xs,p,h,hr=>by simp only[qL,Gy,Hc,decide_eq_false_iff_not]at h;have:=zLG (fun s p=>g9.mem.one s p) eC (eJ s h) (.sl k xs) p rfl hr;simp only[clo,R];rw[gH];exact this
 |.ptr t,p,h,hr=>by simp only[qL,Gy,Hc,decide_eq_false_iff_not]at h;have:=zLG (fun s p=>g9.mem.one s p) eC (eJ s h) (.ptr t) p rfl hr;simp only[clo,R];rw[gH];exact this
 |.same r q,p,h,hr=>by
  simp only[qL,clo,R]at h hr ⊢
  cases hf:jC E 4 r q with
  |none=>simp only[R]
  |some x=>
   obtain⟨r',q',t⟩:=x;simp only[hf,Gy,Hc,decide_eq_false_iff_not]at h;obtain⟨h1,h2,_⟩:=zDg g9 4 r q r' q' t hf;have h3:Gc.hd i p=G.hd r' q':=by rw[gH,hr,h2]
   by_cases hs:t.single=iI
   ·have h4:=zLG (fun s p=>g9.mem.one s p) eC (eJ r' h) t q' hs h1
    cases t with
    |ro u=>simp only[R]at h1 ⊢;rw[h3];exact sA eC u _ _ h1
    |lit v=>simp only[R]at h1 ⊢;rw[h3];exact h1
    |agg _=>simp[T.single]at hs
    |tup _=>simp[T.single]at hs
    |_=>simp only[hs,if_true,R];rw[h3];exact h4
   ·cases t<;>simp[T.single]at hs<;>simp[T.single,R]
 |.sub r q k lo hi,p,h,hr=>by
  simp only[qL,clo,R]at h hr ⊢
  cases hf:jC E 4 r q with
  |none=>simp only[R]
  |some x=>
   obtain⟨r',q',t⟩:=x;simp only[hf,Gy,Hc,decide_eq_false_iff_not]at h;obtain⟨h1,h2,_⟩:=zDg g9 4 r q r' q' t hf;cases t with
   |sl k' xs=>
    simp only[];split
    ·rename_i hc
     obtain⟨rfl,fj,fh⟩:=hc;have h4:=zLG (fun s p=>g9.mem.one s p) eC (eJ r' h) (.sl k xs) q' rfl h1;simp only[strip]at h4;simp only[R];rw[gH,hr,h2];exact zVT h4 fj (by rw[kR];exact fh)
    ·simp only[R]
   |_=>simp only[R]
theorem zSr:(ts:List T)→ ∀(p:List Nat)(j:Nat),zAD E rs s ts=iI→RF Γ.St G w s ts p j→RF Sc Gc w i (zBf E ts) p j
 | [],_,_,_,_=>by have _:=g9;have _:=eC;have _:=eJ;have _:=gH;simp only[zBf,RF]
 |x::xs,p,j,h,hr=>by
  simp only[zAD,J4,zBf,RF]at h hr ⊢
  exact⟨zX2 x _ h.1 hr.1,zSr xs p (j+1) h.2 hr.2⟩
end
end
section
variable {E:Env}{G Gc:Gh}{rs:List Nat}{s i:Nat}
theorem zHx(t:T)(h:t.single=iI):(clo E t).single=iI:=by cases t<;>simp[T.single]at h<;>simp only[clo]<;>first|rfl|(split<;>first|rfl|(split<;>rfl))
mutual
theorem zSs(gH:∀z,Gc.hd i z=G.hd s z):(t:T)→ ∀(p:List Nat),qL E rs s t=iI→vals Gc i (clo E t) p=vals G s t p
 |.agg ts,p,h=>by simp only[qL,clo,vals]at h ⊢;exact zFA gH ts p 0 h
 |.tup _,_,h=>by simp[qL]at h
 |.lit _,p,_|.ro _,p,_|.any,p,_|.addr _ _,p,_|.sl _ _,p,_|.ptr _,p,_|.same _ _,p,_|.sub _ _ _ _ _,p,_=>by
  have h1:∀u:T,u.single=iI→vals Gc i u p=[G.hd s p]:=fun u hu=>by cases u<;>simp[T.single]at hu<;>simp[vals,gH]
  rw[h1 _ (zHx _ rfl)];simp[vals]
theorem zFA(gH:∀z,Gc.hd i z=G.hd s z):(ts:List T)→ ∀(p:List Nat)(j:Nat),zAD E rs s ts=iI→yJ Gc i (zBf E ts) p j=yJ G s ts p j
 | [],_,_,_=>by simp only[zBf,yJ]
 |x::xs,p,j,h=>by simp only[zAD,J4]at h;simp only[zBf,yJ];rw[zSs gH x _ h.1,zFA gH xs p _ h.2]
end
theorem zKs(gH:∀z,Gc.hd i z=G.hd s z)(t:T)(h:qL E rs s t=iI):mkV Gc i (clo E t) []=mkV G s t []:=by
 cases t with
 |agg ts=>simp only[qL]at h;simp only[clo,mkV,zFA gH ts [] 0 h]
 |tup _=>simp[qL]at h
 |_=>rw[xU (zHx _ rfl),xU rfl,gH]
end
end Go.Ab
