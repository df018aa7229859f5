/- The program's TailsOfMap returns what the reference's returns,for all arguments;no conditions. -/
import Derived.Orders
import Derived.Laws.AppendOwn
import Derived.Laws.MakeOwn
import Derived.Great.BuildSlice
import Derived.Laws.Tables
open List renaming replicate→J1,length_append→J5,length_cons→J6,getElem?_append_right→J8,append_nil→J9,append_assoc→Ja,getElem?_eq_some_iff→Jb,mem_cons→Jc,length_replicate→Jh,nil_append→Ji,mem_append→Jj,getElem?_append_left→Jm,cons_append→Jp,replicate_succ→Jq,mem_map→Js,length_nil→Ju,map_cons→Jv,getElem?_map→K1,length_take→K3,take_succ_cons→Kb,eq_nil_of_length_eq_zero→Kd,mem_of_getElem?→Kh,all_eq_true→Ki,getElem?_drop→Ko,reverse_reverse→Ks,set_cons_zero→Ku,mem_range→Kv,getElem?_replicate→Kw,getElem?_append→L5,ext_getElem?→Ld,reverse_nil→Lg,nodup_cons→Lj,set_cons_succ→Lm,flatMap_cons→Ln,map_nil→Ly,flatMap_append→Lz,reverse_cons→H2,drop_eq_getElem_cons→Hc,take_append_of_le_length→Hg,reverse_append→Hs,foldl_cons→U2,mem_of_mem_take→U5,getElem?_take_of_lt→Uo,getElem?_set_self→Uu,getElem?_cons_succ→Uy,length_set→Qq,cons→Qs,map_take→Qu,map_toArray→Qx,getElem?_set_ne→Jak,not_mem_nil→Jb7,take_append_drop→Jbi,take_append→Jbp,map_map→Jbs,isEmpty_iff→Jbu,size_toArray→Jc6
open Bool renaming and_eq_true→J4,false_eq_true→Gk,false_and→Jcu
open Int renaming toNat_natCast→Je,natCast_mul→L6
open Array renaming getElem?_setIfInBounds→Jf,getD_eq_getD_getElem?→K8,getElem?_toList→K9,length_toList→Kk,getElem?_eq_some_iff→Km,range→Jcm,ext'→Jct
open Nat renaming zero_add→Jg,lt_or_ge→Jk,le_refl→Jo,succ_mul→Jy,mul_le_mul→K6,mul_le_mul_right→Kl,sub_self→Kq,le_trans→L9,add_assoc→Lt,add_zero→Hy,min_eq_left→Gl,mod_lt→Gm,add_mul→Up,lt_of_lt_of_le→Jbf,le_mul_of_pos_right→Jbg,mul_pos→Jc3,add_comm→Jcr
open Option renaming isSome_none→Q5,map_none→Jbe
open Prod renaming mk→Jb2
open Option renaming some→ja,none→jb
open Bool renaming true→jc,false→jd
theorem je{p:Prop}[h:Decidable p](a:¬p):decide p=false:=decide_eq_false a
theorem jf{p:Prop}[h:Decidable p](a:p):decide p=true:=decide_eq_true a
namespace Go.Ab
open Go
inductive T where
 |any
 |lit (v:Value)
 |ro (t:T)
 |same (r:Nat) (p:List Nat)
 |addr (r:Nat) (p:List Nat)
 |sub (r:Nat) (p:List Nat) (k lo hi:Nat)
 |sl (k:Nat) (xs:List T)
 |agg (xs:List T)
 |ptr (t:T)
 |tup (xs:List T)
 deriving Inhabited
abbrev Stb:=Nat→Option Obj
mutual
def T.size:T→Nat
 |.agg xs=>T.sizes xs
 |_=>1
def T.sizes:List T→Nat
 | []=>0
 |x::xs=>x.size+T.sizes xs
end
mutual
def RoC(St:Stb):T→Array Value→Nat→Prop
 |.any,cs,o=> ∃v,cs[o]? =ja v∧v.oneCell'=jc
 |.lit v,cs,o=>cs[o]? =ja v∧v.oneCell'=jc
 |.ro _,_,_=>False
 |.sl k xs,cs,o=> ∃a c,cs[o]? =ja (.slice a xs.length c)∧xs.length≤c∧c≤maxLen∧
   (xs≠[]→ ∃b o' cs' e fr,a=ja ⟨b,o',jb⟩∧St b=ja (.cells cs' e fr)∧RoL St xs cs' o' k)
 |.agg xs,cs,o=>RoF St xs cs o
 |.ptr t,cs,o=> ∃b o' cs' e fr,cs[o]? =ja (.pointer (ja ⟨b,o',jb⟩))∧St b=ja (.cells cs' e fr)∧RoC St t cs' o'
 |.same _ _,_,_=>False
 |.addr _ _,_,_=>False
 |.sub _ _ _ _ _,_,_=>False
 |.tup _,_,_=>False
def RoL(St:Stb):List T→Array Value→Nat→Nat→Prop
 | [],_,_,_=>True
 |x::xs,cs,o,k=>RoC St x cs o∧RoL St xs cs (o+k) k
def RoF(St:Stb):List T→Array Value→Nat→Prop
 | [],_,_=>True
 |x::xs,cs,o=>RoC St x cs o∧RoF St xs cs (o+x.size)
end
structure Gh where
 hd:Nat→List Nat→Value
 ad:Nat→List Nat→Addr
 lb:Nat→Nat→Option (Bool×Nat×List Nat)
 ow:Nat→Option (Nat×List Nat)
def yS(w:World)(b o:Nat):Option Value:=w.cell? ⟨b,o,jb⟩
mutual
def Loc(G:Gh)(w:World)(s:Nat):T→List Nat→Nat→Nat→Prop
 |.agg xs,p,b,o=>G.ad s p=⟨b,o,jb⟩∧vG G w s xs p 0 b o
 |.tup _,_,_,_=>False
 |.any,p,b,o|.lit _,p,b,o|.ro _,p,b,o|.same _ _,p,b,o|.addr _ _,p,b,o|.sub _ _ _ _ _,p,b,o|.sl _ _,p,b,o|.ptr _,p,b,o=>
  G.ad s p=⟨b,o,jb⟩∧G.lb b o=ja (jd,s,p)∧yS w b o=ja (G.hd s p)
def vG(G:Gh)(w:World)(s:Nat):List T→List Nat→Nat→Nat→Nat→Prop
 | [],_,_,_,_=>True
 |x::xs,p,j,b,o=>Loc G w s x (j::p) b o∧vG G w s xs p (j+1) b (o+x.size)
end
def zBg(v:Value)(k lo hi:Nat):Value:=
 match v with
 |.slice a _ c=>.slice (if c=lo then a else a.map (·.add (lo*k))) (hi-lo) (c-lo)
 |v=>v
mutual
def R(St:Stb)(G:Gh)(w:World)(s:Nat):T→List Nat→Prop
 |.any,_=>True
 |.lit v,p=>G.hd s p=v
 |.ro t,p=>RoC St t #[G.hd s p] 0
 |.same r q,p=>G.hd s p=G.hd r q
 |.addr r q,p=>G.hd s p=.pointer (ja (G.ad r q))
 |.sub r q k lo hi,p=>G.hd s p=zBg (G.hd r q) k lo hi
 |.sl k xs,p=>(xs=[]∧ ∃a,G.hd s p=.slice a 0 0)∨ ∃b cap cs e,G.hd s p=.slice (ja ⟨b,0,jb⟩) xs.length cap∧
   w.heap[b]? =ja (.cells cs e (0,0))∧xs.length≤cap∧cap≤maxLen∧cap*k≤cs.size∧G.ow b=ja (s,p)∧
   (∀o,xs.length*k≤o→o<cap*k→G.lb b o=ja (jc,s,p))∧RL St G w s xs p 0 b 0 k
 |.agg xs,p=>RF St G w s xs p 0
 |.ptr t,p=> ∃b cs e,G.hd s p=.pointer (ja ⟨b,0,jb⟩)∧w.heap[b]? =ja (.cells cs e (0,0))∧cs.size=t.size∧G.ow b=ja (s,p)∧
   Loc G w s t (0::p) b 0∧R St G w s t (0::p)
 |.tup xs,p=>RF St G w s xs p 0
def RL(St:Stb)(G:Gh)(w:World)(s:Nat):List T→List Nat→Nat→Nat→Nat→Nat→Prop
 | [],_,_,_,_,_=>True
 |x::xs,p,i,b,o,k=>(Loc G w s x (i::p) b o∧x.size=k)∧R St G w s x (i::p)∧RL St G w s xs p (i+1) b (o+k) k
def RF(St:Stb)(G:Gh)(w:World)(s:Nat):List T→List Nat→Nat→Prop
 | [],_,_=>True
 |x::xs,p,j=>R St G w s x (j::p)∧RF St G w s xs p (j+1)
end
mutual
def xE(φ:Nat→List Nat→Prop):T→Prop
 |.same r p|.addr r p|.sub r p _ _ _=>φ r p
 |.sl _ xs|.agg xs|.tup xs=>wB φ xs
 |.ptr t=>xE φ t
 |.any|.lit _|.ro _=>True
def wB(φ:Nat→List Nat→Prop):List T→Prop
 | []=>True
 |x::xs=>xE φ x∧wB φ xs
end
mutual
theorem xE.mono{φ ψ:Nat→List Nat→Prop}(h:∀r p,φ r p→ψ r p):(t:T)→xE φ t→xE ψ t
 |.same _ _,ht|.addr _ _,ht|.sub _ _ _ _ _,ht=>h _ _ ht
 |.sl _ xs,ht|.agg xs,ht|.tup xs,ht=>by simp only[xE]at ht ⊢;exact wB.mono h xs ht
 |.ptr t,ht=>by simp only[xE]at ht ⊢;exact xE.mono h t ht
 |.any,_|.lit _,_|.ro _,_=>by simp[xE]
theorem wB.mono{φ ψ:Nat→List Nat→Prop}(h:∀r p,φ r p→ψ r p):(xs:List T)→wB φ xs→wB ψ xs
 | [],_=>trivial
 |x::xs,hx=>⟨xE.mono h x hx.1,wB.mono h xs hx.2⟩
end
mutual
theorem xE.triv{φ:Nat→List Nat→Prop}(h:∀r p,φ r p):(t:T)→xE φ t
 |.same _ _|.addr _ _|.sub _ _ _ _ _=>by simp only[xE];exact h _ _
 |.sl _ xs|.agg xs|.tup xs=>by simp only[xE];exact wB.triv h xs
 |.ptr t=>by simp only[xE];exact xE.triv h t
 |.any|.lit _|.ro _=>by simp only[xE]
theorem wB.triv{φ:Nat→List Nat→Prop}(h:∀r p,φ r p):(xs:List T)→wB φ xs
 | []=>by simp only[wB]
 |x::xs=>by simp only[wB];exact⟨xE.triv h x,wB.triv h xs⟩
end
abbrev yD(t:T):Prop:=xE (fun _ _=>False) t
abbrev xJ(xs:List T):Prop:=wB (fun _ _=>False) xs
def Blk(w w':World):Prop:=∀(b:Nat) cs e,w.heap[b]? =ja (.cells cs e (0,0))→ ∃cs',w'.heap[b]? =ja (.cells cs' e (0,0))∧cs'.size=cs.size
structure MovesE (G:Gh) (w:World) (G':Gh) (w':World) (s:Nat) (p:List Nat) (s':Nat) (p':List Nat):Prop where
 hd:∀z,G'.hd s' (z++p')=G.hd s (z++p)
 ad:∀z,z≠[]→G'.ad s' (z++p')=G.ad s (z++p)
 lb:∀b o f z,z≠[]→(∃y,G.ow b=ja (s,y))→G.lb b o=ja (f,s,z++p)→G'.lb b o=ja (f,s',z++p')∧yS w' b o=yS w b o
 ow:∀b z,z≠[]→G.ow b=ja (s,z++p)→G'.ow b=ja (s',z++p')
 blk:Blk w w'
structure zII (G:Gh) (w:World) (G':Gh) (w':World) (s:Nat) (p:List Nat) (s':Nat) (p':List Nat):Prop extends MovesE G w G' w' s p s' p' where
 sp:∀b o,(∃y,G.ow b=ja (s,y))→G.lb b o=ja (jc,s,p)→G'.lb b o=ja (jc,s',p')∧yS w' b o=yS w b o
 ow0:∀b,G.ow b=ja (s,p)→G'.ow b=ja (s',p')
def zAa(G G':Gh)(r:Nat)(p:List Nat):Prop:=G'.hd r p=G.hd r p∧G'.ad r p=G.ad r p
section
variable {St:Stb}{G:Gh}{w:World}{G':Gh}{w':World}{s:Nat}{p:List Nat}{s':Nat}{p':List Nat}
mutual
theorem zEq(hm:MovesE G w G' w' s p s' p'):(t:T)→ ∀(z:List Nat)(b o:Nat),z≠[]→(∃y,G.ow b=ja (s,y))→Loc G w s t (z++p) b o→Loc G' w' s' t (z++p') b o
 |.agg xs,z,b,o,hz,ei,h=>by
  simp only[Loc]at h ⊢
  exact⟨(hm.ad z hz).trans h.1,zIJ hm xs z 0 b o ei h.2⟩
 |.any,z,b,o,hz,ei,h|.lit _,z,b,o,hz,ei,h|.ro _,z,b,o,hz,ei,h|.same _ _,z,b,o,hz,ei,h|.addr _ _,z,b,o,hz,ei,h|.sub _ _ _ _ _,z,b,o,hz,ei,h|.sl _ _,z,b,o,hz,ei,h|.ptr _,z,b,o,hz,ei,h=>by
  simp only[Loc]at h ⊢
  obtain⟨h1,h2,h3⟩:=h;have hl:=hm.lb b o jd z hz ei h2;exact⟨(hm.ad z hz).trans h1,hl.1,by rw[hl.2,h3,hm.hd]⟩
 |.tup _,_,_,_,_,_,h=>by simp only[Loc]at h
theorem zIJ(hm:MovesE G w G' w' s p s' p'):(xs:List T)→ ∀(z:List Nat)(j b o:Nat),(∃y,G.ow b=ja (s,y))→vG G w s xs (z++p) j b o→vG G' w' s' xs (z++p') j b o
 | [],_,_,_,_,_,_=>by simp only[vG]
 |x::xs,z,j,b,o,ei,h=>by
  simp only[vG]at h ⊢
  exact⟨zEq hm x (j::z) b o (by simp) ei h.1,zIJ hm xs z (j+1) b _ ei h.2⟩
end
mutual
theorem zEr(hm:MovesE G w G' w' s p s' p'):(t:T)→ ∀(z:List Nat),z≠[]→xE (zAa G G') t→R St G w s t (z++p)→R St G' w' s' t (z++p')
 |.any,_,_,_,_=>by simp only[R]
 |.lit _,z,_,_,h=>by simp only[R]at h ⊢;rw[hm.hd];exact h
 |.ro _,z,_,_,h=>by simp only[R]at h ⊢;rw[hm.hd];exact h
 |.same r q,z,_,hk,h=>by simp only[R]at h ⊢;rw[hm.hd,hk.1];exact h
 |.addr r q,z,_,hk,h=>by simp only[R]at h ⊢;rw[hm.hd,hk.2];exact h
 |.sub r q k lo hi,z,_,hk,h=>by simp only[R]at h ⊢;rw[hm.hd,hk.1];exact h
 |.agg xs,z,_,hk,h=>by simp only[R,xE]at h hk ⊢;exact zEs hm xs z 0 hk h
 |.tup xs,z,_,hk,h=>by simp only[R,xE]at h hk ⊢;exact zEs hm xs z 0 hk h
 |.sl k xs,z,hz,hk,h=>by
  simp only[R,xE]at h hk ⊢
  rw[hm.hd];rcases h with h|⟨b,cap,cs,e,h1,h2,h3,h4,h5,h6,h7,h8⟩
  ·exact .inl h
  ·obtain⟨cs',fY,gv⟩:=hm.blk b cs e h2
   exact .inr ⟨b,cap,cs',e,h1,fY,h3,h4,by omega,hm.ow b z hz h6,fun o ho pN=>(hm.lb b o jc z hz ⟨_,h6⟩ (h7 o ho (by omega))).1,zJx hm xs z 0 b 0 k ⟨_,h6⟩ hk h8⟩
 |.ptr t,z,hz,hk,h=>by
  simp only[R,xE]at h hk ⊢
  rw[hm.hd];obtain⟨b,cs,e,h1,h2,h3,h6,h4,h5⟩:=h;obtain⟨cs',fY,gv⟩:=hm.blk b cs e h2;exact⟨b,cs',e,h1,fY,by omega,hm.ow b z hz h6,zEq hm t (0::z) b 0 (by simp) ⟨_,h6⟩ h4,zEr hm t (0::z) (by simp) hk h5⟩
theorem zJx(hm:MovesE G w G' w' s p s' p'):(xs:List T)→ ∀(z:List Nat)(i b o k:Nat),(∃y,G.ow b=ja (s,y))→wB (zAa G G') xs→RL St G w s xs (z++p) i b o k→RL St G' w' s' xs (z++p') i b o k
 | [],_,_,_,_,_,_,_,_=>by simp only[RL]
 |x::xs,z,i,b,o,k,ei,hk,h=>by
  simp only[RL,wB]at h hk ⊢
  exact⟨⟨zEq hm x (i::z) b o (by simp) ei h.1.1,h.1.2⟩,zEr hm x (i::z) (by simp) hk.1 h.2.1,zJx hm xs z (i+1) b _ k ei hk.2 h.2.2⟩
theorem zEs(hm:MovesE G w G' w' s p s' p'):(xs:List T)→ ∀(z:List Nat)(j:Nat),wB (zAa G G') xs→RF St G w s xs (z++p) j→RF St G' w' s' xs (z++p') j
 | [],_,_,_,_=>by simp only[RF]
 |x::xs,z,j,hk,h=>by
  simp only[RF,wB]at h hk ⊢
  exact⟨zEr hm x (j::z) (by simp) hk.1 h.1,zEs hm xs z (j+1) hk.2 h.2⟩
end
theorem zAf(hm:zII G w G' w' s p s' p')(t:T)(hk:xE (zAa G G') t)(h:R St G w s t p):R St G' w' s' t p':=by
 have hd0:G'.hd s' p'=G.hd s p:=by simpa using hm.hd []
 cases t with
 |any=>simp only[R]
 |lit _=>simp only[R]at h ⊢;rw[hd0];exact h
 |ro _=>simp only[R]at h ⊢;rw[hd0];exact h
 |same r q=>simp only[R]at h ⊢;rw[hd0,hk.1];exact h
 |addr r q=>simp only[R]at h ⊢;rw[hd0,hk.2];exact h
 |sub r q k lo hi=>simp only[R]at h ⊢;rw[hd0,hk.1];exact h
 |agg xs=>simp only[R,xE]at h hk ⊢;simpa using zEs hm.toMovesE xs [] 0 hk (by simpa using h)
 |tup xs=>simp only[R,xE]at h hk ⊢;simpa using zEs hm.toMovesE xs [] 0 hk (by simpa using h)
 |sl k xs=>
  simp only[R,xE]at h hk ⊢
  rw[hd0];rcases h with h|⟨b,cap,cs,e,h1,h2,h3,h4,h5,h6,h7,h8⟩
  ·exact .inl h
  ·obtain⟨cs',fY,gv⟩:=hm.blk b cs e h2
   exact .inr ⟨b,cap,cs',e,h1,fY,h3,h4,by omega,hm.ow0 b h6,fun o ho pN=>(hm.sp b o ⟨_,h6⟩ (h7 o ho (by omega))).1,by simpa using zJx hm.toMovesE xs [] 0 b 0 k ⟨_,h6⟩ hk (by simpa using h8)⟩
 |ptr t=>
  simp only[R,xE]at h hk ⊢
  rw[hd0];obtain⟨b,cs,e,h1,h2,h3,h6,h4,h5⟩:=h;obtain⟨cs',fY,gv⟩:=hm.blk b cs e h2;exact⟨b,cs',e,h1,fY,by omega,hm.ow0 b h6,zEq hm.toMovesE t [0] b 0 (by simp) ⟨_,h6⟩ h4,zEr hm.toMovesE t [0] (by simp) hk h5⟩
theorem zRh(hm:zII G w G' w' s p s' p')(t:T)(z:List Nat)(hk:xE (zAa G G') t)(h:R St G w s t (z++p)):R St G' w' s' t (z++p'):=by
 cases z with
 |nil=>exact zAf hm t hk h
 |cons i z=>exact zEr hm.toMovesE t (i::z) (by simp) hk h
end
end Go.Ab

namespace Go.Ab
open Go
def T.get:T→List Nat→Option T
 |t,[]=>ja t
 |.sl _ xs,i::f|.agg xs,i::f|.tup xs,i::f=>match xs[i]? with
  |some x=>x.get f
  |none=>jb
 |.ptr t,i::f=>if i=0 then t.get f else jb
 |.any,_::_|.lit _,_::_|.ro _,_::_|.same _ _,_::_|.addr _ _,_::_|.sub _ _ _ _ _,_::_=>jb
termination_by structural _ f=>f
def T.set:T→List Nat→T→T
 |_,[],u=>u
 |.sl k xs,i::f,u=>match xs[i]? with
  |some x=>.sl k (xs.set i (x.set f u))
  |none=>.sl k xs
 |.agg xs,i::f,u=>match xs[i]? with
  |some x=>.agg (xs.set i (x.set f u))
  |none=>.agg xs
 |.tup xs,i::f,u=>match xs[i]? with
  |some x=>.tup (xs.set i (x.set f u))
  |none=>.tup xs
 |.ptr t,i::f,u=>if i=0 then .ptr (t.set f u)else .ptr t
 |.any,_::_,_=>.any
 |.lit v,_::_,_=>.lit v
 |.ro t,_::_,_=>.ro t
 |.same r q,_::_,_=>.same r q
 |.addr r q,_::_,_=>.addr r q
 |.sub r q k lo hi,_::_,_=>.sub r q k lo hi
termination_by structural _ f _=>f
def T.locd:T→List Nat→Bool
 |_,[]=>jd
 |.sl _ _,_::_|.ptr _,_::_=>jc
 |.agg xs,i::f|.tup xs,i::f=>match xs[i]? with
  |some x=>x.locd f
  |none=>jd
 |.any,_::_|.lit _,_::_|.ro _,_::_|.same _ _,_::_|.addr _ _,_::_|.sub _ _ _ _ _,_::_=>jd
termination_by structural _ f=>f
abbrev rp(f p:List Nat):List Nat:=f.reverse++p
theorem zAG(i:Nat)(f p:List Nat):rp (i::f) p=rp f (i::p):=by simp[rp]
section
variable {St:Stb}{G:Gh}{w:World}{s:Nat}
theorem jM:(xs:List T)→ ∀(p:List Nat)(i0 b o k i:Nat)(x:T),RL St G w s xs p i0 b o k→xs[i]? =ja x→
  Loc G w s x ((i0+i)::p) b (o+i*k)∧x.size=k∧R St G w s x ((i0+i)::p)
 | [],_,_,_,_,_,_,_,_,h=>by simp at h
 |y::ys,p,i0,b,o,k,i,x,hr,h=>by
  simp only[RL]at hr;cases i with
  |zero=>
   simp at h;subst h;simpa using⟨hr.1.1,hr.1.2,hr.2.1⟩
  |succ i=>
   have:=jM ys p (i0+1) b (o+k) k i x hr.2.2 (by simpa using h);rw[show i0+(i+1)=i0+1+i from by omega,show o+(i+1)*k=o+k+i*k from by rw[Jy];omega];exact this
theorem zAV:(xs:List T)→ ∀(p:List Nat)(j i:Nat)(x:T),RF St G w s xs p j→xs[i]? =ja x→R St G w s x ((j+i)::p)
 | [],_,_,_,_,_,h=>by simp at h
 |y::ys,p,j,i,x,hr,h=>by
  simp only[RF]at hr;cases i with
  |zero=>simp at h;subst h;simpa using hr.1
  |succ i=>
   have:=zAV ys p (j+1) i x hr.2 (by simpa using h)
   rwa [show j+(i+1)=j+1+i from by omega]
theorem zKA:(xs:List T)→ ∀(p:List Nat)(j b o i:Nat)(x:T),vG G w s xs p j b o→xs[i]? =ja x→
  ∃o',Loc G w s x ((j+i)::p) b o'∧o≤o'∧o'+x.size≤o+T.sizes xs
 | [],_,_,_,_,_,_,_,h=>by simp at h
 |y::ys,p,j,b,o,i,x,hr,h=>by
  simp only[vG]at hr;cases i with
  |zero=>simp at h;subst h;exact⟨o,by simpa using hr.1,by omega,by simp[T.sizes]⟩
  |succ i=>
   obtain⟨o',h1,h2,h3⟩:=zKA ys p (j+1) b (o+y.size) i x hr.2 (by simpa using h);refine⟨o',?_,by omega,by simp only[T.sizes];omega⟩
   rwa [show j+(i+1)=j+1+i from by omega]
def At(G:Gh)(w:World)(s:Nat)(t:T)(p:List Nat):Prop:=
 ∃b o cs e,Loc G w s t p b o∧w.heap[b]? =ja (.cells cs e (0,0))∧o+t.size≤cs.size
theorem At.field{xs:List T}{p:List Nat}(h:At G w s (.agg xs) p){i:Nat}{x:T}(hx:xs[i]? =ja x):At G w s x (i::p):=by obtain⟨b,o,cs,e,hl,hh,hs⟩:=h;simp only[Loc]at hl;obtain⟨o',h1,h2,h3⟩:=zKA xs p 0 b o i x hl.2 hx;simp only[T.size]at hs;exact⟨b,o',cs,e,by simpa using h1,hh,by omega⟩
theorem zCU{k:Nat}{xs:List T}{p:List Nat}(h:R St G w s (.sl k xs) p){i:Nat}{x:T}(hx:xs[i]? =ja x):
  At G w s x (i::p)∧R St G w s x (i::p):=by
 simp only[R]at h;have hi:=(Jb.1 hx).1;rcases h with⟨rfl,_⟩|⟨b,cap,cs,e,h1,h2,h3,h4,h5,h6,h7,h8⟩
 ·simp at hx
 ·obtain⟨a1,a2,a3⟩:=jM xs p 0 b 0 k i x h8 hx
  simp only[Jg]at a1 a3;refine⟨⟨b,i*k,cs,e,a1,h2,?_⟩,a3⟩;rw[a2,←Jy];exact L9 (Kl _ (by omega)) h5
theorem zBh{t:T}{p:List Nat}(h:R St G w s (.ptr t) p):At G w s t (0::p)∧R St G w s t (0::p):=by simp only[R]at h;obtain⟨b,cs,e,h1,h2,h3,h6,h4,h5⟩:=h;exact⟨⟨b,0,cs,e,h4,h2,by omega⟩,h5⟩
theorem zAw:(f:List Nat)→ ∀(t u:T)(p:List Nat),At G w s t p→R St G w s t p→t.get f=ja u→At G w s u (rp f p)∧R St G w s u (rp f p)
 | [],t,u,p,ha,h,hg=>by simp[T.get]at hg;subst hg;simpa[rp]using⟨ha,h⟩
 |i::f,t,u,p,ha,h,hg=>by
  rw[zAG];cases t with
  |sl k xs=>
   simp only[T.get]at hg;cases hx:xs[i]? with
   |none=>simp[hx]at hg
   |some x=>rw[hx]at hg;exact zAw f x u _ (zCU h hx).1 (zCU h hx).2 hg
  |ptr t=>
   simp only[T.get]at hg;split at hg
   ·rename_i hi;subst hi;exact zAw f t u _ (zBh h).1 (zBh h).2 hg
   ·cases hg
  |agg xs=>
   simp only[T.get]at hg;cases hx:xs[i]? with
   |none=>simp[hx]at hg
   |some x=>rw[hx]at hg;exact zAw f x u _ (ha.field hx) (by simp only[R]at h;simpa using zAV xs p 0 i x h hx) hg
  |tup xs=>obtain⟨b,o,cs,e,hl,_⟩:=ha;simp only[Loc]at hl
  |_=>simp[T.get]at hg
theorem zAx:(f:List Nat)→ ∀(t u:T)(p:List Nat),R St G w s t p→t.get f=ja u→R St G w s u (rp f p)∧(t.locd f=jc→At G w s u (rp f p))
 | [],t,u,p,h,hg=>by simp[T.get]at hg;subst hg;simpa[rp,T.locd]using h
 |i::f,t,u,p,h,hg=>by
  rw[zAG];cases t with
  |sl k xs=>
   simp only[T.get]at hg;cases hx:xs[i]? with
   |none=>simp[hx]at hg
   |some x=>rw[hx]at hg;exact⟨(zAw f x u _ (zCU h hx).1 (zCU h hx).2 hg).2,fun _=>(zAw f x u _ (zCU h hx).1 (zCU h hx).2 hg).1⟩
  |ptr t=>
   simp only[T.get]at hg;split at hg
   ·rename_i hi;subst hi;exact⟨(zAw f t u _ (zBh h).1 (zBh h).2 hg).2,fun _=>(zAw f t u _ (zBh h).1 (zBh h).2 hg).1⟩
   ·cases hg
  |agg xs=>
   simp only[T.get,T.locd]at hg ⊢
   cases hx:xs[i]? with
   |none=>simp[hx]at hg
   |some x=>rw[hx]at hg;exact zAx f x u _ (by simp only[R]at h;simpa using zAV xs p 0 i x h hx) hg
  |tup xs=>
   simp only[T.get,T.locd]at hg ⊢
   cases hx:xs[i]? with
   |none=>simp[hx]at hg
   |some x=>rw[hx]at hg;exact zAx f x u _ (by simp only[R]at h;simpa using zAV xs p 0 i x h hx) hg
  |_=>simp[T.get]at hg
end
structure Upd (G:Gh) (w:World) (G':Gh) (w':World) (s:Nat) (tgt:List Nat):Prop where
 hd:∀p,¬tgt<:+p→G'.hd s p=G.hd s p
 ad:∀p,¬tgt<:+p→G'.ad s p=G.ad s p
 lb:∀b o f p,G.lb b o=ja (f,s,p)→ ¬tgt<:+p→G'.lb b o=ja (f,s,p)∧yS w' b o=yS w b o
 ow:∀b p,G.ow b=ja (s,p)→ ¬tgt<:+p→G'.ow b=ja (s,p)
 blk:Blk w w'
section
variable {St:Stb}{G:Gh}{w:World}{G':Gh}{w':World}{s:Nat}{tgt:List Nat}
theorem Upd.moves(h:Upd G w G' w' s tgt){p:List Nat}(hp:∀z,¬tgt<:+z++p):zII G w G' w' s p s p where
 hd z:=h.hd _ (hp z)
 ad z _:=h.ad _ (hp z)
 lb b o f z _ _ hl:=h.lb b o f _ hl (hp z)
 ow b z _ hl:=h.ow b _ hl (hp z)
 sp b o _ hl:=h.lb b o jc p hl (hp [])
 ow0 b hl:=h.ow b p hl (hp [])
 blk:=h.blk
mutual
theorem zEt(hm:Upd G w G' w' s tgt):(t:T)→ ∀(p:List Nat)(b o:Nat),(∀z,¬tgt<:+z++p)→Loc G w s t p b o→Loc G' w' s t p b o
 |.agg xs,p,b,o,hz,h=>by
  simp only[Loc]at h ⊢
  exact⟨(hm.ad p (hz [])).trans h.1,zKB hm xs p 0 b o hz h.2⟩
 |.any,p,b,o,hz,h|.lit _,p,b,o,hz,h|.ro _,p,b,o,hz,h|.same _ _,p,b,o,hz,h|.addr _ _,p,b,o,hz,h|.sub _ _ _ _ _,p,b,o,hz,h|.sl _ _,p,b,o,hz,h|.ptr _,p,b,o,hz,h=>by
  simp only[Loc]at h ⊢
  obtain⟨h1,h2,h3⟩:=h;have hl:=hm.lb b o jd p h2 (hz []);exact⟨(hm.ad p (hz [])).trans h1,hl.1,by rw[hl.2,h3,hm.hd p (hz [])]⟩
 |.tup _,_,_,_,_,h=>by simp only[Loc]at h
theorem zKB(hm:Upd G w G' w' s tgt):(xs:List T)→ ∀(p:List Nat)(j b o:Nat),(∀z,¬tgt<:+z++p)→vG G w s xs p j b o→vG G' w' s xs p j b o
 | [],_,_,_,_,_,_=>by simp only[vG]
 |x::xs,p,j,b,o,hz,h=>by
  simp only[vG]at h ⊢
  exact⟨zEt hm x (j::p) b o (fun z=>by have:=hz (z++[j]);simpa using this) h.1,zKB hm xs p (j+1) b _ hz h.2⟩
end
theorem zKC(hm:Upd G w G' w' s tgt)(t u:T)(p:List Nat)(b o:Nat)(ht:∀xs,t≠.agg xs)(hu:∀xs,u≠.agg xs)(b8:∀xs,u≠.tup xs)(hz:¬tgt<:+p)(h:Loc G w s t p b o):Loc G' w' s u p b o:=by
 have h3:G.ad s p=⟨b,o,jb⟩∧G.lb b o=ja (jd,s,p)∧yS w b o=ja (G.hd s p):=by
  cases t with
  |agg xs=>exact absurd rfl (ht xs)
  |tup xs=>simp only[Loc]at h
  |_=>simpa only[Loc]using h
 obtain⟨h1,h2,h3⟩:=h3;have hl:=hm.lb b o jd p h2 hz;have h4:G'.ad s p=⟨b,o,jb⟩∧G'.lb b o=ja (jd,s,p)∧yS w' b o=ja (G'.hd s p):=⟨(hm.ad p hz).trans h1,hl.1,by rw[hl.2,h3,hm.hd p hz]⟩;cases u with
 |agg xs=>exact absurd rfl (hu xs)
 |tup xs=>exact absurd rfl (b8 xs)
 |_=>simpa only[Loc]using h4
theorem jN{f p:List Nat}{i i':Nat}(hi:i'≠i)(z:List Nat):¬f.reverse++(i::p)<:+z++(i'::p):=by
 rintro⟨y,hy⟩
 rw[←Ja]at hy;have:=List.append_inj_right' hy rfl;simp at this;exact hi this.symm
theorem jZ{f p:List Nat}{i:Nat}:¬f.reverse++(i::p)<:+p:=by intro h;have:=h.length_le;simp at this;omega
theorem zIK:(xs:List T)→ ∀(i:Nat)(x y:T),xs[i]? =ja x→y.size=x.size→T.sizes (xs.set i y)=T.sizes xs
 | [],_,_,_,h,_=>by simp at h
 |z::zs,i,x,y,h,hs=>by
  cases i with
  |zero=>simp at h;subst h;simp[T.sizes,hs]
  |succ i=>simp only[Lm,T.sizes,zIK zs i x y (by simpa using h) hs]
theorem zEu:(f:List Nat)→ ∀(t u u0:T),t.get f=ja u0→u.size=u0.size→(t.set f u).size=t.size
 | [],t,u,u0,h,hs=>by simp[T.get]at h;subst h;simpa[T.set]using hs
 |i::f,t,u,u0,h,hs=>by
  cases t with
  |sl k xs=>simp only[T.get]at h;cases hx:xs[i]? <;>simp[hx,T.set,T.size]at h ⊢
  |tup xs=>simp only[T.get]at h;cases hx:xs[i]? <;>simp[hx,T.set,T.size]at h ⊢
  |agg xs=>
   simp only[T.get]at h;cases hx:xs[i]? with
   |none=>simp[hx]at h
   |some x=>
    rw[hx]at h;simp only[T.set,hx,T.size];exact zIK xs i x _ hx (zEu f x u u0 h hs)
  |ptr t=>simp only[T.get]at h;split at h<;>simp_all [T.set,T.size]
  |_=>simp[T.get]at h
theorem zKD(hm:Upd G w G' w' s tgt):(xs:List T)→ ∀(p:List Nat)(j b o i:Nat)(x y:T),vG G w s xs p j b o→xs[i]? =ja x→y.size=x.size→
  (∀i',i'≠j+i→ ∀z,¬tgt<:+z++(i'::p))→(∀o',Loc G w s x ((j+i)::p) b o'→Loc G' w' s y ((j+i)::p) b o')→vG G' w' s (xs.set i y) p j b o
 | [],_,_,_,_,_,_,_,_,h,_,_,_=>by simp at h
 |z::zs,p,j,b,o,i,x,y,hl,h,hs,hz,hy=>by
  simp only[vG]at hl;cases i with
  |zero=>
   simp at h;subst h;simp only[Ku,vG,hs];exact⟨by simpa using hy o (by simpa using hl.1),LocF_upd' hm zs p (j+1) b _ (fun i' fq=>hz i' (by omega)) hl.2⟩
  |succ i=>
   simp only[Lm,vG];refine⟨zEt hm z _ b o (hz j (by omega)) hl.1,zKD hm zs p (j+1) b _ i x y hl.2 (by simpa using h) hs (fun i' fq=>hz i' (by omega)) ?_⟩;rw[show j+1+i=j+(i+1)from by omega];exact hy
where LocF_upd' (hm:Upd G w G' w' s tgt):(xs:List T)→ ∀(p:List Nat)(j b o:Nat),(∀i',j≤i'→ ∀z,¬tgt<:+z++(i'::p))→vG G w s xs p j b o→vG G' w' s xs p j b o
 | [],_,_,_,_,_,_=>by simp only[vG]
 |x::xs,p,j,b,o,hz,h=>by
  simp only[vG]at h ⊢
  exact⟨zEt hm x (j::p) b o (hz j (Jo _)) h.1,LocF_upd' hm xs p (j+1) b _ (fun i' fq=>hz i' (by omega)) h.2⟩
theorem zJy:(f:List Nat)→ ∀(t u u0:T)(p:List Nat)(b o:Nat),Upd G w G' w' s (rp f p)→Loc G w s t p b o→t.get f=ja u0→u.size=u0.size→
  (∀o',Loc G w s u0 (rp f p) b o'→Loc G' w' s u (rp f p) b o')→Loc G' w' s (t.set f u) p b o
 | [],t,u,u0,p,b,o,hm,hl,hg,hs,hu=>by simp[T.get]at hg;subst hg;simpa[T.set,rp]using hu o (by simpa[rp]using hl)
 |i::f,t,u,u0,p,b,o,hm,hl,hg,hs,hu=>by
  have gT:=hm;rw[zAG]at gT;cases t with
  |sl k xs=>
   have:∃ys,(T.sl k xs).set (i::f) u=.sl k ys:=by simp only[T.set];split<;>exact⟨_,rfl⟩
   obtain⟨ys,hy⟩:=this;rw[hy];exact zKC gT (.sl k xs) (.sl k ys) p b o (by simp) (by simp) (by simp) jZ hl
  |ptr t=>
   have:∃ys,(T.ptr t).set (i::f) u=.ptr ys:=by simp only[T.set];split<;>exact⟨_,rfl⟩
   obtain⟨ys,hy⟩:=this;rw[hy];exact zKC gT (.ptr t) (.ptr ys) p b o (by simp) (by simp) (by simp) jZ hl
  |agg xs=>
   simp only[T.get]at hg;cases hx:xs[i]? with
   |none=>simp[hx]at hg
   |some x=>
    rw[hx]at hg;simp only[T.set,hx];simp only[Loc]at hl ⊢
    refine⟨(gT.ad p jZ).trans hl.1,zKD gT xs p 0 b o i x _ hl.2 hx (zEu f x u u0 hg hs) (fun i' fq z=>jN (by omega) z) ?_⟩;intro o' ho';simp only[Jg]at ho' ⊢
    exact zJy f x u u0 (i::p) b o' gT ho' hg hs (by simpa only[zAG]using hu)
  |tup xs=>simp only[Loc]at hl
  |_=>simp[T.get]at hg
end
end Go.Ab

namespace Go.Ab
open Go
section
variable {St:Stb}{G:Gh}{w:World}{G':Gh}{w':World}{s:Nat}{tgt:List Nat}
theorem zOp(hm:Upd G w G' w' s tgt)(t:T)(p:List Nat)(hz:∀z,¬tgt<:+z++p)(hk:xE (zAa G G') t)(h:R St G w s t p):R St G' w' s t p:=by simpa using zRh (hm.moves hz) t [] hk (by simpa using h)
theorem zRi(hm:Upd G w G' w' s tgt):(xs:List T)→ ∀(p:List Nat)(i b o k:Nat),(∀i',i≤i'→ ∀z,¬tgt<:+z++(i'::p))→wB (zAa G G') xs→RL St G w s xs p i b o k→RL St G' w' s xs p i b o k
 | [],_,_,_,_,_,_,_,_=>by simp only[RL]
 |x::xs,p,i,b,o,k,hz,hk,h=>by
  simp only[RL,wB]at h hk ⊢
  exact⟨⟨zEt hm x (i::p) b o (hz i (Jo _)) h.1.1,h.1.2⟩,zOp hm x (i::p) (hz i (Jo _)) hk.1 h.2.1,
   zRi hm xs p (i+1) b _ k (fun i' fq=>hz i' (by omega)) hk.2 h.2.2⟩
theorem zRj(hm:Upd G w G' w' s tgt):(xs:List T)→ ∀(p:List Nat)(i0 b o k i:Nat)(x y:T),RL St G w s xs p i0 b o k→xs[i]? =ja x→y.size=x.size→wB (zAa G G') xs→
  (∀i',i'≠i0+i→ ∀z,¬tgt<:+z++(i'::p))→(∀o',Loc G w s x ((i0+i)::p) b o'→Loc G' w' s y ((i0+i)::p) b o')→R St G' w' s y ((i0+i)::p)→
  RL St G' w' s (xs.set i y) p i0 b o k
 | [],_,_,_,_,_,_,_,_,_,h,_,_,_,_,_=>by simp at h
 |z::zs,p,i0,b,o,k,i,x,y,hr,h,hs,hk,hz,hl,hy=>by
  simp only[RL,wB]at hr hk;cases i with
  |zero=>
   simp at h;subst h;simp only[Ku,RL];exact⟨⟨by simpa using hl o (by simpa using hr.1.1),by omega⟩,by simpa using hy,zRi hm zs p (i0+1) b _ k (fun i' fq=>hz i' (by omega)) hk.2 hr.2.2⟩
  |succ i=>
   simp only[Lm,RL];rw[show i0+(i+1)=i0+1+i from by omega]at hl hy hz;exact⟨⟨zEt hm z _ b o (hz i0 (by omega)) hr.1.1,hr.1.2⟩,zOp hm z _ (hz i0 (by omega)) hk.1 hr.2.1,zRj hm zs p (i0+1) b _ k i x y hr.2.2 (by simpa using h) hs hk.2 hz hl hy⟩
theorem zRk(hm:Upd G w G' w' s tgt):(xs:List T)→ ∀(p:List Nat)(i:Nat),(∀i',i≤i'→ ∀z,¬tgt<:+z++(i'::p))→wB (zAa G G') xs→RF St G w s xs p i→RF St G' w' s xs p i
 | [],_,_,_,_,_=>by simp only[RF]
 |x::xs,p,i,hz,hk,h=>by
  simp only[RF,wB]at h hk ⊢
  exact⟨zOp hm x (i::p) (hz i (Jo _)) hk.1 h.1,zRk hm xs p (i+1) (fun i' fq=>hz i' (by omega)) hk.2 h.2⟩
theorem zMT(hm:Upd G w G' w' s tgt):(xs:List T)→ ∀(p:List Nat)(i0 i:Nat)(x y:T),RF St G w s xs p i0→xs[i]? =ja x→wB (zAa G G') xs→
  (∀i',i'≠i0+i→ ∀z,¬tgt<:+z++(i'::p))→R St G' w' s y ((i0+i)::p)→
  RF St G' w' s (xs.set i y) p i0
 | [],_,_,_,_,_,_,h,_,_,_=>by simp at h
 |z::zs,p,i0,i,x,y,hr,h,hk,hz,hy=>by
  simp only[RF,wB]at hr hk;cases i with
  |zero=>
   simp at h;subst h;simp only[Ku,RF];exact⟨by simpa using hy,zRk hm zs p (i0+1) (fun i' fq=>hz i' (by omega)) hk.2 hr.2⟩
  |succ i=>
   simp only[Lm,RF];rw[show i0+(i+1)=i0+1+i from by omega]at hy hz;exact⟨zOp hm z _ (hz i0 (by omega)) hk.1 hr.1,zMT hm zs p (i0+1) i x y hr.2 (by simpa using h) hk.2 hz hy⟩
theorem uN{φ:Nat→List Nat→Prop}:(xs:List T)→wB φ xs→ ∀(i:Nat)(x:T),xs[i]? =ja x→xE φ x
 | [],_,_,_,h=>by simp at h
 |y::ys,hk,i,x,h=>by
  simp only[wB]at hk;cases i with
  |zero=>simp at h;subst h;exact hk.1
  |succ i=>exact uN ys hk.2 i x (by simpa using h)
theorem zGc:(f:List Nat)→ ∀(t u u0:T)(p:List Nat),Upd G w G' w' s (rp f p)→R St G w s t p→t.get f=ja u0→u.size=u0.size→xE (zAa G G') t→
  (∀b o,Loc G w s u0 (rp f p) b o→Loc G' w' s u (rp f p) b o)→R St G' w' s u (rp f p)→R St G' w' s (t.set f u) p
 | [],t,u,u0,p,hm,hr,hg,hs,hk,hl,hu=>by simpa[T.set,rp]using hu
 |i::f,t,u,u0,p,hm,hr,hg,hs,hk,hl,hu=>by
  have gT:=hm;rw[zAG]at gT hl hu;cases t with
  |sl k xs=>
   simp only[T.get]at hg;cases hx:xs[i]? with
   |none=>simp[hx]at hg
   |some x=>
    rw[hx]at hg;simp only[T.set,hx];simp only[R,xE]at hr hk ⊢
    rcases hr with⟨rfl,_⟩|⟨b,cap,cs,e,h1,h2,h3,h4,h5,h6,h7,h8⟩
    ·simp at hx
    ·obtain⟨cs',fY,gv⟩:=gT.blk b cs e h2
     refine .inr ⟨b,cap,cs',e,by rw[gT.hd p jZ,Qq];exact h1,fY,by rw[Qq];exact h3,h4,by omega,gT.ow b p h6 jZ,?_,?_⟩
     ·intro o ho pN
      rw[Qq]at ho;exact(gT.lb b o jc p (h7 o ho (by omega)) jZ).1
     ·have am:=jM xs p 0 b 0 k i x h8 hx
      simp only[Jg]at am;refine zRj gT xs p 0 b 0 k i x _ h8 hx (zEu f x u u0 hg hs) hk (fun i' fq z=>jN (by omega) z) ?_ ?_
      ·intro o' ho'
       simp only[Jg]at ho' ⊢
       exact zJy f x u u0 (i::p) b o' gT ho' hg hs (fun o''=>hl b o'')
      ·simp only[Jg]
       exact zGc f x u u0 (i::p) gT am.2.2 hg hs (uN xs hk i x hx) hl hu
  |ptr t=>
   simp only[T.get]at hg;split at hg
   ·rename_i hi;subst hi
    simp only[T.set,if_true];simp only[R,xE]at hr hk ⊢
    obtain⟨b,cs,e,h1,h2,h3,h6,h4,h5⟩:=hr;obtain⟨cs',fY,gv⟩:=gT.blk b cs e h2;refine⟨b,cs',e,by rw[gT.hd p jZ];exact h1,fY,by rw[zEu f t u u0 hg hs];omega,gT.ow b p h6 jZ,zJy f t u u0 (0::p) b 0 gT h4 hg hs (fun o''=>hl b o''),zGc f t u u0 (0::p) gT h5 hg hs hk hl hu⟩
   ·cases hg
  |agg xs=>
   simp only[T.get]at hg;cases hx:xs[i]? with
   |none=>simp[hx]at hg
   |some x=>
    rw[hx]at hg;simp only[T.set,hx];simp only[R,xE]at hr hk ⊢
    refine zMT gT xs p 0 i x _ hr hx hk (fun i' fq z=>jN (by omega) z) ?_;simp only[Jg];exact zGc f x u u0 (i::p) gT (by simpa using zAV xs p 0 i x hr hx) hg hs (uN xs hk i x hx) hl hu
  |tup xs=>
   simp only[T.get]at hg;cases hx:xs[i]? with
   |none=>simp[hx]at hg
   |some x=>
    rw[hx]at hg;simp only[T.set,hx];simp only[R,xE]at hr hk ⊢
    refine zMT gT xs p 0 i x _ hr hx hk (fun i' fq z=>jN (by omega) z) ?_;simp only[Jg];exact zGc f x u u0 (i::p) gT (by simpa using zAV xs p 0 i x hr hx) hg hs (uN xs hk i x hx) hl hu
  |_=>simp[T.get]at hg
end
end Go.Ab

namespace Go.Ab
open Go
mutual
def vals(G:Gh)(s:Nat):T→List Nat→List Value
 |.agg xs,p=>yF G s xs p 0
 |.any,p|.lit _,p|.ro _,p|.same _ _,p|.addr _ _,p|.sub _ _ _ _ _,p|.sl _ _,p|.ptr _,p|.tup _,p=>[G.hd s p]
def yF(G:Gh)(s:Nat):List T→List Nat→Nat→List Value
 | [],_,_=>[]
 |x::xs,p,j=>vals G s x (j::p)++yF G s xs p (j+1)
end
def sC(G:Gh)(s:Nat)(t:T)(p:List Nat):Value:=
 match t with
 |.agg xs=>.agg (yF G s xs p 0).toArray
 |_=>G.hd s p
def qZ(G:Gh)(s:Nat):List T→List Nat→Nat→List Value
 | [],_,_=>[]
 |x::xs,p,j=>sC G s x (j::p)::qZ G s xs p (j+1)
def mkV(G:Gh)(s:Nat)(t:T)(p:List Nat):Value:=
 match t with
 |.agg xs=>.agg (yF G s xs p 0).toArray
 |.tup xs=>.tuple (qZ G s xs p 0).toArray
 |_=>G.hd s p
mutual
def Top:T→Prop
 |.sl _ xs=>xJ xs
 |.ptr t=>yD t
 |.agg xs|.tup xs=>vP xs
 |.any|.lit _|.ro _|.same _ _|.addr _ _|.sub _ _ _ _ _=>True
def vP:List T→Prop
 | []=>True
 |x::xs=>Top x∧vP xs
end
mutual
theorem Top.of_clean:(t:T)→yD t→Top t
 |.sl _ xs,h=>by simpa only[Top,yD,xE]using h
 |.ptr t,h=>by simpa only[Top,yD,xE]using h
 |.agg xs,h|.tup xs,h=>by simp only[Top];exact vP.of_clean xs (by simpa only[yD,xE]using h)
 |.any,_|.lit _,_|.ro _,_|.same _ _,_|.addr _ _,_|.sub _ _ _ _ _,_=>by simp only[Top]
theorem vP.of_clean:(xs:List T)→xJ xs→vP xs
 | [],_=>by simp only[vP]
 |x::xs,h=>by simp only[vP];exact⟨Top.of_clean x h.1,vP.of_clean xs h.2⟩
end
abbrev Chg:=List (Nat×Nat)
def Off(chg:Chg)(s:Nat)(p:List Nat):Prop:=∀n,(s,n)∈chg→p.length<n
def kG(chg:Chg)(r:Nat)(p:List Nat):Bool:=chg.all fun c=>c.1 != r||decide (p.length<c.2)
theorem zPL{chg:Chg}{r:Nat}{p:List Nat}(h:kG chg r p=jc):Off chg r p:=by intro n hn;have:=Ki.1 h _ hn;simpa using this
mutual
def T.okB(chg:Chg):T→Bool
 |.same r p|.addr r p|.sub r p _ _ _=>kG chg r p
 |.agg xs|.tup xs=>zJz chg xs
 |.any|.lit _|.ro _|.sl _ _|.ptr _=>jc
def zJz(chg:Chg):List T→Bool
 | []=>jc
 |x::xs=>x.okB chg&&zJz chg xs
end
mutual
theorem zAg{chg:Chg}:(t:T)→Top t→t.okB chg=jc→xE (Off chg) t
 |.same r p,_,h|.addr r p,_,h|.sub r p _ _ _,_,h=>by simp only[T.okB]at h;simp only[xE];exact zPL h
 |.agg xs,ht,h|.tup xs,ht,h=>by simp only[T.okB,Top]at h ht;simp only[xE];exact zGO xs ht h
 |.sl _ xs,ht,_=>by simp only[Top]at ht;simp only[xE];exact wB.mono (fun _ _=>False.elim) xs ht
 |.ptr t,ht,_=>by simp only[Top]at ht;simp only[xE];exact xE.mono (fun _ _=>False.elim) t ht
 |.any,_,_|.lit _,_,_|.ro _,_,_=>by simp only[xE]
theorem zGO{chg:Chg}:(xs:List T)→vP xs→zJz chg xs=jc→wB (Off chg) xs
 | [],_,_=>by simp only[wB]
 |x::xs,ht,h=>by simp only[zJz,vP,J4]at h ht;simp only[wB];exact⟨zAg x ht.1 h.1,zGO xs ht.2 h.2⟩
end
abbrev Env:=Nat→Option T
abbrev Wr:=List (Nat×Option T)
def Wr.find(wr:Wr)(s:Nat):Option (Option T):=
 match wr with
 | []=>jb
 |(k,x)::r=>if k=s then ja x else Wr.find r s
def Env.app(E:Env)(wr:Wr)(chg:Chg):Env:=fun s=>
 match wr.find s with
 |some x=>x
 |none=>match E s with
  |some t=>if t.okB chg then ja t else jb
  |none=>jb
structure Ctx where
 St:Stb
 W:Nat→Prop
 w0:World
 N:Nat
def zCm(Γ:Ctx)(w:World)(b:Nat):Prop:=b<w.heap.size∧(Γ.w0.heap.size≤b∨Γ.W b)∧Γ.St b=jb
structure zU8 (w w':World):Prop where
 blk:Blk w w'
 os:w'.os=w.os
 out:w'.output=w.output
structure Mem (Γ:Ctx) (G:Gh) (w:World):Prop where
 one:∀s p,(G.hd s p).oneCell'=jc
 lb:∀b o l,G.lb b o=ja l→zCm Γ w b
 ow:∀b l,G.ow b=ja l→zCm Γ w b
 st:∀b x,Γ.St b=ja x→w.heap[b]? =ja x
 fr:∀b,b<Γ.w0.heap.size→ ¬Γ.W b→w.heap[b]? =Γ.w0.heap[b]?
 sz:Γ.w0.heap.size≤w.heap.size
 bk:zU8 Γ.w0 w
theorem Blk.trans{w w' w'':World}(h:Blk w w')(h':Blk w' w''):Blk w w'':=fun b cs e hb=>by obtain⟨cs',h1,h2⟩:=h b cs e hb;obtain⟨cs'',h3,h4⟩:=h' b cs' e h1;exact⟨cs'',h3,by omega⟩
theorem zU8.trans{w w' w'':World}(h:zU8 w w')(h':Blk w' w'')(ho:w''.os=w'.os)(hq:w''.output=w'.output):zU8 w w'':=⟨h.blk.trans h',ho.trans h.os,hq.trans h.out⟩
def Ent(Γ:Ctx)(G:Gh)(w:World)(v:Option Value)(s:Nat)(t:T):Prop:=v=ja (mkV G s t [])∧R Γ.St G w s t []∧Top t
structure Rep (Γ:Ctx) (E:Env) (G:Gh) (tmps:Array Value) (w:World):Prop where
 size:tmps.size=Γ.N
 ent:∀s t,E s=ja t→Ent Γ G w tmps[s]? s t
 mem:Mem Γ G w
def Sim(Γ:Ctx)(E:Env)(a:Act)(w:World):Prop:=a.defers=[]∧ ∃G,Rep Γ E G a.tmps w
structure zDu (S S':Stb) (W:Nat→Prop) (n:Nat):Prop where
 le:∀b x,S b=ja x→S' b=ja x
 nw:∀b,S b=jb→S' b≠jb→n≤b∨W b
theorem zDu.refl{S:Stb}{W:Nat→Prop}{n:Nat}:zDu S S W n:=⟨fun _ _ h=>h,fun _ h h'=>absurd h h'⟩
theorem zDu.trans{S S' S'':Stb}{W:Nat→Prop}{n:Nat}(h:zDu S S' W n)(h':zDu S' S'' W n):zDu S S'' W n:=
 ⟨fun b x hb=>h'.le b x (h.le b x hb),fun b hb eI=>by
  cases hs:S' b with
  |none=>exact h'.nw b hs eI
  |some x=>exact h.nw b hb (by rw[hs];simp)⟩
abbrev Ctx.at(Γ:Ctx)(S:Stb):Ctx:={ Γ with St:=S }
def jA(Γ:Ctx)(E:Env)(a:Act)(w:World):Prop:=∃S,zDu Γ.St S Γ.W Γ.w0.heap.size∧Sim (Γ.at S) E a w
theorem jA.of{Γ:Ctx}{E:Env}{a:Act}{w:World}(h:Sim Γ E a w):jA Γ E a w:=⟨Γ.St,.refl,h⟩
theorem jA.up{Γ:Ctx}{E:Env}{a:Act}{w:World}{S:Stb}(hS:zDu Γ.St S Γ.W Γ.w0.heap.size)(h:jA (Γ.at S) E a w):jA Γ E a w:=by obtain⟨S',h1,h2⟩:=h;exact⟨S',hS.trans h1,h2⟩
structure qU (chg:Chg) (G:Gh) (w:World) (G':Gh) (w':World):Prop where
 hd:∀s p,Off chg s p→G'.hd s p=G.hd s p
 ad:∀s p,Off chg s p→G'.ad s p=G.ad s p
 lb:∀b o f s p,(∃y,G.ow b=ja (s,y))→G.lb b o=ja (f,s,p)→(∀n,(s,n)∉chg)→G'.lb b o=ja (f,s,p)∧yS w' b o=yS w b o
 ow:∀b s p,G.ow b=ja (s,p)→(∀n,(s,n)∉chg)→G'.ow b=ja (s,p)
 blk:Blk w w'
theorem Off.of_not{chg:Chg}{s:Nat}(h:∀n,(s,n)∉chg)(p:List Nat):Off chg s p:=fun n hn=>absurd hn (h n)
section
variable {Γ:Ctx}{G G':Gh}{w w':World}{s:Nat}{chg:Chg}
mutual
theorem zAH{s':Nat}:(t:T)→ ∀(p p':List Nat),(∀z,G'.hd s' (z++p')=G.hd s (z++p))→vals G' s' t p'=vals G s t p
 |.agg xs,p,p',h=>by simp only[vals];exact zEv xs p p' 0 h
 |.any,p,p',h|.lit _,p,p',h|.ro _,p,p',h|.same _ _,p,p',h|.addr _ _,p,p',h|.sub _ _ _ _ _,p,p',h|.sl _ _,p,p',h|.ptr _,p,p',h|.tup _,p,p',h=>by simp only[vals];rw[show G'.hd s' p'=G.hd s p from by simpa using h []]
theorem zEv{s':Nat}:(xs:List T)→ ∀(p p':List Nat)(j:Nat),(∀z,G'.hd s' (z++p')=G.hd s (z++p))→yF G' s' xs p' j=yF G s xs p j
 | [],_,_,_,_=>by simp only[yF]
 |x::xs,p,p',j,h=>by simp only[yF];rw[zAH x (j::p) (j::p') (fun z=>by have:=h (z++[j]);simpa using this),zEv xs p p' (j+1) h]
end
theorem zBC{s':Nat}(t:T)(p p':List Nat)(h:∀z,G'.hd s' (z++p')=G.hd s (z++p)):sC G' s' t p'=sC G s t p:=by
 unfold sC;split
 ·rw[zEv _ p p' 0 h]
 ·simpa using h []
theorem zOq{s':Nat}:(xs:List T)→ ∀(p p':List Nat)(j:Nat),(∀z,G'.hd s' (z++p')=G.hd s (z++p))→qZ G' s' xs p' j=qZ G s xs p j
 | [],_,_,_,_=>by simp only[qZ]
 |x::xs,p,p',j,h=>by simp only[qZ];rw[zBC x (j::p) (j::p') (fun z=>by have:=h (z++[j]);simpa using this),zOq xs p p' (j+1) h]
theorem zFi{s':Nat}(t:T)(p p':List Nat)(h:∀z,G'.hd s' (z++p')=G.hd s (z++p)):mkV G' s' t p'=mkV G s t p:=by
 unfold mkV;split
 ·rw[zEv _ p p' 0 h]
 ·rw[zOq _ p p' 0 h]
 ·simpa using h []
theorem qU.moves(hk:qU chg G w G' w')(hs:∀n,(s,n)∉chg)(p:List Nat):zII G w G' w' s p s p where
 hd _:=hk.hd _ _ (.of_not hs _)
 ad _ _:=hk.ad _ _ (.of_not hs _)
 lb b o f _ _ ei hl:=hk.lb b o f s _ ei hl hs
 ow b _ _ hl:=hk.ow b s _ hl hs
 sp b o ei hl:=hk.lb b o jc s _ ei hl hs
 ow0 b hl:=hk.ow b s _ hl hs
 blk:=hk.blk
theorem qU.keepR(hk:qU chg G w G' w'){t:T}(h:xE (Off chg) t):xE (zAa G G') t:=
 xE.mono (fun r p hr=>⟨hk.hd r p hr,hk.ad r p hr⟩) t h
theorem Ent.keep(hk:qU chg G w G' w')(hs:∀n,(s,n)∉chg){v:Option Value}{t:T}(ht:t.okB chg=jc)(h:Ent Γ G w v s t):Ent Γ G' w' v s t:=by
 obtain⟨h1,h2,h3⟩:=h;refine⟨?_,?_,h3⟩
 ·rw[h1,zFi t [] [] (fun z=>hk.hd _ _ (.of_not hs _))]
 ·simpa using zRh (hk.moves hs []) t [] (hk.keepR (zAg t h3 ht)) (by simpa using h2)
end
theorem vH{Γ:Ctx}{E:Env}{G G':Gh}{tmps tmps':Array Value}{w w':World}{wr:Wr}{chg:Chg}(h:Rep Γ E G tmps w)
  (gS:tmps'.size=tmps.size)(hk:qU chg G w G' w')(gx:Mem Γ G' w')
  (gH:∀s,wr.find s=jb→(∀n,(s,n)∉chg)∧tmps'[s]? =tmps[s]?)
  (eB:∀s t,wr.find s=ja (ja t)→Ent Γ G' w' tmps'[s]? s t):Rep Γ (E.app wr chg) G' tmps' w' where
 size:=by rw[gS,h.size]
 mem:=gx
 ent s t hs:=by
  unfold Env.app at hs;cases hf:wr.find s with
  |some x=>
   rw[hf]at hs;simp at hs;subst hs;exact eB s t hf
  |none=>
   rw[hf]at hs;simp at hs;cases he:E s with
   |none=>simp[he]at hs
   |some u=>
    simp[he]at hs;obtain⟨gE,rfl⟩:=hs;rw[(gH s hf).2];exact Ent.keep hk (gH s hf).1 gE (h.ent s u he)
end Go.Ab

namespace Go.Ab
open Go
mutual
def cpT(s:Nat):T→List Nat→T
 |.lit v,_=>.lit v
 |.ro t,_=>.ro t
 |.same r q,_=>.same r q
 |.addr r q,_=>.addr r q
 |.sub r q k lo hi,_=>.sub r q k lo hi
 |.agg xs,p=>.agg (cpF s xs p 0)
 |.any,p|.sl _ _,p|.ptr _,p|.tup _,p=>.same s p
def cpF(s:Nat):List T→List Nat→Nat→List T
 | [],_,_=>[]
 |x::xs,p,j=>cpT s x (j::p)::cpF s xs p (j+1)
end
mutual
theorem qQ(s:Nat):(t:T)→ ∀p,Top (cpT s t p)
 |.agg xs,p=>by simp only[cpT,Top];exact zOr s xs p 0
 |.lit _,_|.ro _,_|.same _ _,_|.addr _ _,_|.sub _ _ _ _ _,_|.any,_|.sl _ _,_|.ptr _,_|.tup _,_=>by simp only[cpT,Top]
theorem zOr(s:Nat):(xs:List T)→ ∀p j,vP (cpF s xs p j)
 | [],_,_=>by simp only[cpF,vP]
 |x::xs,p,j=>by simp only[cpF,vP];exact⟨qQ s x _,zOr s xs p _⟩
end
section
variable {St:Stb}{G G':Gh}{w w':World}{s d:Nat}
mutual
theorem zDJ(hs:∀p,G'.hd s p=G.hd s p):(t:T)→ ∀(p p':List Nat),(∀z,G'.hd d (z++p')=G.hd s (z++p))→(∀xs,t≠.tup xs)→xE (zAa G G') (cpT s t p)→R St G w s t p→R St G' w' d (cpT s t p) p'
 |.lit _,p,p',hd,_,_,h=>by simp only[cpT,R]at h ⊢;rw[show G'.hd d p'=_ from by simpa using hd []];exact h
 |.ro _,p,p',hd,_,_,h=>by simp only[cpT,R]at h ⊢;rw[show G'.hd d p'=_ from by simpa using hd []];exact h
 |.same r q,p,p',hd,_,hk,h=>by simp only[cpT,R,xE]at h hk ⊢;rw[show G'.hd d p'=_ from by simpa using hd [],hk.1];exact h
 |.addr r q,p,p',hd,_,hk,h=>by simp only[cpT,R,xE]at h hk ⊢;rw[show G'.hd d p'=_ from by simpa using hd [],hk.2];exact h
 |.sub r q k lo hi,p,p',hd,_,hk,h=>by simp only[cpT,R,xE]at h hk ⊢;rw[show G'.hd d p'=_ from by simpa using hd [],hk.1];exact h
 |.any,p,p',hd,_,_,_|.sl _ _,p,p',hd,_,_,_|.ptr _,p,p',hd,_,_,_=>by simp only[cpT,R];rw[show G'.hd d p'=_ from by simpa using hd [],hs]
 |.tup xs,_,_,_,h,_,_=>absurd rfl (h xs)
 |.agg xs,p,p',hd,_,hk,h=>by simp only[cpT,R,xE]at h hk ⊢;exact zJ0 hs xs p p' 0 hd hk h
theorem zJ0(hs:∀p,G'.hd s p=G.hd s p):(xs:List T)→ ∀(p p':List Nat)(j:Nat),(∀z,G'.hd d (z++p')=G.hd s (z++p))→wB (zAa G G') (cpF s xs p j)→RF St G w s xs p j→RF St G' w' d (cpF s xs p j) p' j
 | [],_,_,_,_,_,_=>by simp only[cpF,RF]
 |x::xs,p,p',j,hd,hk,h=>by
  simp only[cpF,RF,wB]at h hk ⊢
  refine⟨?_,zJ0 hs xs p p' (j+1) hd hk.2 h.2⟩
  by_cases hx:∃ys,x=.tup ys
  ·obtain⟨ys,rfl⟩:=hx
   simp only[cpT,R];rw[show G'.hd d (j::p')=_ from by simpa using hd [j],hs]
  ·exact zDJ hs x (j::p) (j::p') (fun z=>by have:=hd (z++[j]);simpa using this) (fun ys e=>hx ⟨ys,e⟩) hk.1 h.1
end
mutual
theorem zPM:(t:T)→ ∀(p p':List Nat),(∀z,G'.hd d (z++p')=G.hd s (z++p))→vals G' d (cpT s t p) p'=vals G s t p
 |.agg xs,p,p',h=>by simp only[cpT,vals];exact zDK xs p p' 0 h
 |.any,p,p',h|.lit _,p,p',h|.ro _,p,p',h|.same _ _,p,p',h|.addr _ _,p,p',h|.sub _ _ _ _ _,p,p',h|.sl _ _,p,p',h|.ptr _,p,p',h|.tup _,p,p',h=>by simp only[cpT,vals];rw[show G'.hd d p'=G.hd s p from by simpa using h []]
theorem zDK:(xs:List T)→ ∀(p p':List Nat)(j:Nat),(∀z,G'.hd d (z++p')=G.hd s (z++p))→yF G' d (cpF s xs p j) p' j=yF G s xs p j
 | [],_,_,_,_=>by simp only[cpF,yF]
 |x::xs,p,p',j,h=>by simp only[cpF,yF];rw[zPM x (j::p) (j::p') (fun z=>by have:=h (z++[j]);simpa using this),zDK xs p p' (j+1) h]
end
theorem zAy(t:T)(p p':List Nat)(ht:∀xs,t≠.tup xs)(h:∀z,G'.hd d (z++p')=G.hd s (z++p)):mkV G' d (cpT s t p) p'=sC G s t p:=by
 cases t with
 |agg xs=>simp only[cpT,mkV,sC,zDK xs p p' 0 h]
 |tup xs=>exact absurd rfl (ht xs)
 |_=>simpa[cpT,mkV,sC]using h []
end
theorem kH(G:Gh)(s:Nat)(t:T)(p:List Nat)(ht:∀xs,t≠.tup xs):mkV G s t p=sC G s t p:=by
 cases t with
 |tup xs=>exact absurd rfl (ht xs)
 |_=>rfl
def Gh.put(G:Gh)(d:Nat)(f:List Nat→Value):Gh:={ G with hd:=fun s z=>if s=d then f z else G.hd s z }
theorem Gh.put_other(G:Gh){d s:Nat}(f:List Nat→Value)(p:List Nat)(h:s≠d):(G.put d f).hd s p=G.hd s p:=by simp[Gh.put,h]
theorem Gh.put_self(G:Gh)(d:Nat)(f:List Nat→Value)(p:List Nat):(G.put d f).hd d p=f p:=by simp[Gh.put]
theorem zXb{d s:Nat}{p:List Nat}(h:Off [(d,0)] s p):s≠d:=by
 rintro rfl
 exact absurd (h 0 (by simp)) (by simp)
theorem Gh.put_keep(G:Gh){w w':World}(hw:w'.heap=w.heap)(d:Nat)(f:List Nat→Value):qU [(d,0)] G w (G.put d f) w' where
 hd s p h:=G.put_other f p (zXb h)
 ad _ _ _:=rfl
 lb b o f' s p _ h _:=⟨h,by simp[yS,World.cell?,hw]⟩
 ow b s p h _:=h
 blk b cs e h:=⟨cs,by rw[hw];exact h,rfl⟩
theorem Mem.put{Γ:Ctx}{G:Gh}{w w':World}(h:Mem Γ G w)(hw:w'.heap=w.heap)(d:Nat)(f:List Nat→Value)(hf:∀z,(f z).oneCell'=jc)(ho:w'.os=w.os:=by rfl)(hq:w'.output=w.output:=by rfl):Mem Γ (G.put d f) w' where
 one s p:=by unfold Gh.put;dsimp only;split;exact hf p;exact h.one s p
 lb b o l hl:=by have:=h.lb b o l hl;exact⟨by rw[hw];exact this.1,this.2⟩
 ow b l hl:=by have:=h.ow b l hl;exact⟨by rw[hw];exact this.1,this.2⟩
 st b x hx:=by rw[hw];exact h.st b x hx
 fr b h1 h2:=by rw[hw];exact h.fr b h1 h2
 sz:=by rw[hw];exact h.sz
 bk:=h.bk.trans (fun b cs e hb=>⟨cs,by rw[hw];exact hb,rfl⟩) ho hq
theorem tV(d:Nat)(x:Option T)(s:Nat):Wr.find [(d,x)] s=if d=s then ja x else jb:=by simp[Wr.find]
theorem vN{Γ:Ctx}{E:Env}{G:Gh}{tmps:Array Value}{w w':World}(h:Rep Γ E G tmps w)(hw:w'.heap=w.heap){d:Nat}(hd:d<Γ.N)
  (f:List Nat→Value)(hf:∀z,(f z).oneCell'=jc)(t:T)(v:Value)(hv:v=mkV (G.put d f) d t [])(hr:R Γ.St (G.put d f) w' d t [])(ht:Top t)(ho:w'.os=w.os:=by rfl)(hq:w'.output=w.output:=by rfl):
  Rep Γ (E.app [(d,ja t)] [(d,0)]) (G.put d f) (tmps.setIfInBounds d v) w':=by
 refine vH h (by simp) (G.put_keep hw d f) (h.mem.put hw d f hf ho hq) ?_ ?_
 ·intro s hs
  rw[tV]at hs;split at hs
  ·cases hs
  ·rename_i gf
   refine⟨fun n hn=>gf (by simp at hn;exact hn.1.symm),?_⟩;rw[Jf];simp[gf]
 ·intro s t' hs
  rw[tV]at hs;split at hs
  ·rename_i he
   subst he;simp at hs;subst hs;refine⟨?_,hr,ht⟩;rw[Jf];simp[h.size,hd,hv]
  ·cases hs
def wN(P:Program)(Γ:Ctx)(o:Oper)(E E':Env):Prop:=
 ∀(a:Act)(w:World)(K:Act→World→Prop)(Q:Exit→Act→World→Prop),Sim Γ E a w→(∀a' w',jA Γ E' a' w'→K a' w')→o.wp P a w K Q
def opT(E:Env):Operand→Option T
 |.tmp s=>E s
 |.const v=>if v.oneCell' then ja (.lit v)else jb
 |.func f=>ja (.lit (.func (.func f) #[] #[]))
 |.global _=>jb
def tJ(x:Operand)(t:T):T:=match x with
 |.tmp s=>cpT s t []
 |_=>t
section
variable {P:Program}{Γ:Ctx}{E E':Env}{o:Oper}{d:Nat}
theorem wK{a:Act}{s:Nat}{v:Value}(h:a.tmps[s]? =ja v):a.eval (.tmp s)=v:=by simp[Act.eval,K8,h]
theorem wN.value(ho:o.dst=ja d)
  (h:∀(a:Act)(w:World)(G:Gh),Rep Γ E G a.tmps w→ ∃v w',(execOp a.eval o).run P w=.ok (.value v) w'∧ ∃G',Rep Γ E' G' (a.tmps.setIfInBounds d v) w'):wN P Γ o E E':=by
 intro a w K Q ⟨gQ,G,g9⟩ hK;obtain⟨v,w',gy,G',fR⟩:=h a w G g9;unfold Oper.wp;rw[gy,Oper.upon_value];refine hK _ _ ?_;rw[ho];exact .of ⟨gQ,G',fR⟩
theorem wN.skip(ho:o.dst=jb)
  (h:∀(a:Act)(w:World)(G:Gh),Rep Γ E G a.tmps w→ ∃w',(execOp a.eval o).run P w=.ok .skip w'∧ ∃G',Rep Γ E' G' a.tmps w'):wN P Γ o E E':=by
 intro a w K Q ⟨gQ,G,g9⟩ hK;obtain⟨w',gy,G',fR⟩:=h a w G g9;unfold Oper.wp;rw[gy,Oper.upon_skip];refine hK _ _ ?_;rw[ho];exact .of ⟨gQ,G',fR⟩
theorem opd{G:Gh}{a:Act}{w:World}(g9:Rep Γ E G a.tmps w){x:Operand}{t:T}(hx:opT E x=ja t)(ht:∀xs,t≠.tup xs):
  ∃f:List Nat→Value,(∀z,(f z).oneCell'=jc)∧(∀d,(∀s,x=.tmp s→s≠d)→T.okB [(d,0)] (tJ x t)=jc→
   a.eval x=mkV (G.put d f) d (tJ x t) []∧R Γ.St (G.put d f) w d (tJ x t) [])∧Top (tJ x t):=by
 cases x with
 |tmp s=>
  obtain⟨h1,h2,h3⟩:=g9.ent s t hx;refine⟨fun z=>G.hd s z,fun z=>g9.mem.one s z,?_,qQ s t []⟩;intro d gf gE;have f9:=gf s rfl;have hk:=G.put_keep (w:=w) (w':=w) rfl d (fun z=>G.hd s z);have hz:∀z,(G.put d (fun z=>G.hd s z)).hd d (z++[])=G.hd s (z++[]):=fun z=>by rw[Gh.put_self]
  refine⟨?_,?_⟩
  ·rw[wK h1,tJ,zAy t [] [] ht hz]
   exact kH G s t [] ht
  ·exact zDJ (fun p=>G.put_other _ p f9) t [] [] hz ht (hk.keepR (zAg _ (qQ s t []) gE)) h2
 |const v=>
  simp only[opT]at hx;split at hx
  ·rename_i gp
   simp at hx;subst hx;exact⟨fun _=>v,fun _=>gp,fun d _ _=>⟨by simp[Act.eval,tJ,mkV,Gh.put],by simp[tJ,R,Gh.put]⟩,by simp[tJ,Top]⟩
  ·cases hx
 |func f=>
  simp only[opT]at hx;simp at hx;subst hx;exact⟨fun _=>.func (.func f) #[] #[],fun _=>rfl,fun d _ _=>⟨by simp[Act.eval,tJ,mkV,Gh.put],by simp[tJ,R,Gh.put]⟩,by simp[tJ,Top]⟩
 |global g=>cases hx
theorem zOs(x:Operand)(t:T)(ho:o.op=.move x∨o.op=.assign x)(gk:o.dst=ja d)(hd:d<Γ.N)(hx:opT E x=ja t)(ht:∀xs,t≠.tup xs)
  (gf:∀s,x=.tmp s→s≠d)(gE:T.okB [(d,0)] (tJ x t)=jc):wN P Γ o E (E.app [(d,ja (tJ x t))] [(d,0)]):=by
 refine wN.value gk fun a w G g9=>?_
 obtain⟨f,hf,h1,h2⟩:=opd g9 hx ht;obtain⟨h3,h4⟩:=h1 d gf gE;refine⟨a.eval x,w,?_,_,vN g9 rfl hd f hf _ _ h3 h4 h2⟩;rcases ho with ho|ho<;>simp[execOp,ho]
theorem wO{G:Gh}{a:Act}{w:World}(g9:Rep Γ E G a.tmps w){x:Operand}{v:Value}(hx:opT E x=ja (.lit v)):a.eval x=v∧v.oneCell'=jc:=by
 cases x with
 |tmp s=>
  obtain⟨h1,h2,_⟩:=g9.ent s _ hx;simp only[R]at h2;refine⟨?_,by rw[←h2];exact g9.mem.one s []⟩;rw[wK h1,mkV,h2]
  all_goals simp
 |const u=>
  simp only[opT]at hx;split at hx
  ·simp at hx;subst hx;exact⟨rfl,by assumption⟩
  ·cases hx
 |func f=>simp only[opT]at hx;simp at hx;subst hx;exact⟨rfl,rfl⟩
 |global g=>cases hx
theorem zAW(v:Value)(hv:v.oneCell'=jc)(gk:o.dst=ja d)(hd:d<Γ.N)
  (h:∀(a:Act)(w:World)(G:Gh),Rep Γ E G a.tmps w→(execOp a.eval o).run P w=.ok (.value v) w):wN P Γ o E (E.app [(d,ja (.lit v))] [(d,0)]):=by
 refine wN.value gk fun a w G g9=>?_
 exact⟨v,w,h a w G g9,_,vN g9 rfl hd (fun _=>v) (fun _=>hv) (.lit v) v (by simp[mkV,Gh.put]) (by simp[R,Gh.put]) (by simp[Top])⟩
def zJ1(op:BinOp)(k:IntKind)(a b:Int):Option Value:=
 match op with
 |.add=>ja (.int k (k.wrap (a+b)))
 |.sub=>ja (.int k (k.wrap (a-b)))
 |.mul=>ja (.int k (k.wrap (a*b)))
 |.quo=>if b=0 then jb else ja (.int k (k.wrap (a.tdiv b)))
 |.rem=>if b=0 then jb else ja (.int k (a.tmod b))
 |.eql=>ja (.bool (a==b))
 |.neq=>ja (.bool (a != b))
 |.lss=>ja (.bool (decide (a<b)))
 |.leq=>ja (.bool (decide (a≤b)))
 |.gtr=>ja (.bool (decide (a> b)))
 |.geq=>ja (.bool (decide (a≥b)))
 |_=>jb
theorem zRl{op:BinOp}{k:IntKind}{a b:Int}{v:Value}(h:zJ1 op k a b=ja v):v.oneCell'=jc:=by cases op<;>simp[zJ1]at h<;>first|(subst h;rfl)|(obtain⟨_,rfl⟩:=h;rfl)
theorem sE(op:BinOp)(xt yt:TypeId)(x y:Operand)(k:IntKind)(m n:Int)(v:Value)(ho:o.op=.binOp op xt x y yt)(gk:o.dst=ja d)(hd:d<Γ.N)
  (hx:opT E x=ja (.lit (.int k m)))(hy:opT E y=ja (.lit (.int k n)))(hv:zJ1 op k m n=ja v):wN P Γ o E (E.app [(d,ja (.lit v))] [(d,0)]):=by
 refine zAW v (zRl hv) gk hd fun a w G g9=>?_
 have h1:=(wO g9 hx).1;have h2:=(wO g9 hy).1;cases op<;>simp[zJ1]at hv<;>
  first
   |(subst hv;simp[execOp,ho,h1,h2,eqGuard,binOp,Op.intArith,Op.intCmp];done)
   |(obtain⟨h0,rfl⟩:=hv;simp[execOp,ho,h1,h2,eqGuard,binOp,Op.intDiv,h0])
theorem zXc(xt:TypeId)(x:Operand)(b:Bool)(ho:o.op=.unOp .not xt x)(gk:o.dst=ja d)(hd:d<Γ.N)
  (hx:opT E x=ja (.lit (.bool b))):wN P Γ o E (E.app [(d,ja (.lit (.bool !b)))] [(d,0)]):=by
 refine zAW _ rfl gk hd fun a w G g9=>?_
 have h1:=(wO g9 hx).1;simp[execOp,ho,h1,Op.unary]
theorem zXd(xt:TypeId)(x:Operand)(k:IntKind)(n:Int)(ho:o.op=.unOp .neg xt x)(gk:o.dst=ja d)(hd:d<Γ.N)
  (hx:opT E x=ja (.lit (.int k n))):wN P Γ o E (E.app [(d,ja (.lit (.int k (k.wrap (0-n)))))] [(d,0)]):=by
 refine zAW _ rfl gk hd fun a w G g9=>?_
 have h1:=(wO g9 hx).1;simp[execOp,ho,h1,Op.unary,Op.intArith]
theorem zU9(src dst:TypeId)(ds:TypeDesc)(x:Operand)(k k':IntKind)(n:Int)(ho:o.op=.convert src dst x)(gk:o.dst=ja d)(hd:d<Γ.N)
  (hs:P.underlying src=ja ds)(ht:P.underlying dst=ja (.int k'))(hx:opT E x=ja (.lit (.int k n))):
  wN P Γ o E (E.app [(d,ja (.lit (.int k' (k'.wrap n))))] [(d,0)]):=by
 refine zAW _ rfl gk hd fun a w G g9=>?_
 have h1:=(wO g9 hx).1;simp[execOp,ho,h1,convert,run_underlying hs,run_underlying ht,Conv.intToInt]
theorem zUA(c x y:Operand)(b:Bool)(t:T)(ho:o.op=.pick c x y)(gk:o.dst=ja d)(hd:d<Γ.N)
  (hc:opT E c=ja (.lit (.bool b)))(hx:opT E (if b then x else y)=ja t)(ht:∀xs,t≠.tup xs)
  (gf:∀s,(if b then x else y)=.tmp s→s≠d)(gE:T.okB [(d,0)] (tJ (if b then x else y) t)=jc):wN P Γ o E (E.app [(d,ja (tJ (if b then x else y) t))] [(d,0)]):=by
 refine wN.value gk fun a w G g9=>?_
 obtain⟨f,hf,h1,h2⟩:=opd g9 hx ht;obtain⟨h3,h4⟩:=h1 d gf gE;refine⟨a.eval (if b then x else y),w,?_,_,vN g9 rfl hd f hf _ _ h3 h4 h2⟩;have h5:=(wO g9 hc).1;cases b<;>simp[execOp,ho,h5,asBool]
end
end Go.Ab

namespace Go.Ab
open Go
def qF(E:Env):Nat→Nat→List Nat→Option (Nat×List Nat×T)
 |0,_,_=>jb
 |n+1,r,q=>match E r with
  |some t=>match t.get q.reverse with
   |some (.same r' q')=>qF E n r' q'
   |some u=>ja (r,q,u)
   |none=>jb
  |none=>jb
def tK(E:Env):Operand→Option (Nat×List Nat×T)
 |.tmp s=>qF E 4 s []
 |_=>jb
def T.single:T→Bool
 |.agg _|.tup _=>jd
 |_=>jc
theorem xV{G:Gh}{s:Nat}{t:T}{p:List Nat}(h:t.single=jc):mkV G s t p=G.hd s p:=by cases t<;>simp[T.single]at h<;>rfl
section
variable {P:Program}{Γ:Ctx}{E:Env}{o:Oper}{d:Nat}
theorem zCV{G:Gh}{a:Act}{w:World}(g9:Rep Γ E G a.tmps w):∀(n s:Nat)(p:List Nat)(r:Nat)(q:List Nat)(u:T),qF E n s p=ja (r,q,u)→
  R Γ.St G w r u q∧G.hd s p=G.hd r q∧(∃t,E r=ja t∧t.get q.reverse=ja u)
 |0,_,_,_,_,_,h=>by simp[qF]at h
 |n+1,s,p,r,q,u,h=>by
  simp only[qF]at h;split at h
  ·rename_i t ht
   obtain⟨_,h4,_⟩:=g9.ent _ _ ht;split at h
   ·rename_i r' q' hg
    obtain⟨h1,h2,h3⟩:=zCV g9 n r' q' r q u h;have h5:=(zAx p.reverse t _ [] h4 hg).1;simp only[rp,Ks,J9,R]at h5;exact⟨h1,h5.trans h2,h3⟩
   ·rename_i u' dM hg
    simp at h;obtain⟨rfl,rfl,rfl⟩:=h;have h5:=(zAx p.reverse t _ [] h4 hg).1;simp only[rp,Ks,J9]at h5;exact⟨h5,rfl,t,ht,hg⟩
   ·cases h
  ·cases h
theorem jB{G:Gh}{a:Act}{w:World}(g9:Rep Γ E G a.tmps w){x:Operand}{r:Nat}{q:List Nat}{u:T}(h:tK E x=ja (r,q,u))(hu:u.single=jc):
  R Γ.St G w r u q∧a.eval x=G.hd r q:=by
 cases x with
 |tmp s=>
  obtain⟨h1,h2,_⟩:=zCV g9 4 s [] r q u h;refine⟨h1,?_⟩;rw[←h2];simp only[tK,qF]at h;split at h
  ·rename_i t ht
   obtain⟨h3,_,_⟩:=g9.ent s _ ht;rw[wK h3];simp only[Lg,T.get]at h;have:t.single=jc:=by cases t<;>first|rfl|(simp at h;obtain⟨_,_,rfl⟩:=h;simp[T.single]at hu)
   exact xV this
  ·cases h
 |_=>simp[tK]at h
theorem zJ2{St:Stb}{G:Gh}{w:World}{s:Nat}{k:Nat}{xs:List T}{p:List Nat}(h:R St G w s (.sl k xs) p):∃a c,G.hd s p=.slice a xs.length c:=by
 simp only[R]at h;rcases h with⟨rfl,a,h⟩|⟨b,cap,_,_,h,_⟩
 ·exact⟨a,0,h⟩
 ·exact⟨_,_,h⟩
theorem zCW{St:Stb}{G:Gh}{w:World}{s:Nat}{k:Nat}{xs:List T}{p:List Nat}(h:R St G w s (.ro (.sl k xs)) p):∃a c,G.hd s p=.slice a xs.length c∧xs.length≤c∧c≤maxLen∧
   (xs≠[]→ ∃b o' cs' e fr,a=ja ⟨b,o',jb⟩∧St b=ja (.cells cs' e fr)∧RoL St xs cs' o' k):=by
 simp only[R,RoC]at h;obtain⟨a,c,h1,h2,h3,h4⟩:=h;exact⟨a,c,by simpa using h1,h2,h3,h4⟩
def zKE:T→Option Nat
 |.sl _ xs|.ro (.sl _ xs)=>ja xs.length
 |.lit (.slice _ n _)=>ja n
 |.lit (.string s)=>ja s.size
 |_=>jb
def zUB:T→TypeDesc→Bool
 |.lit (.string _),.string=>jc
 |.sl _ _,.slice _|.ro (.sl _ _),.slice _|.lit (.slice _ _ _),.slice _=>jc
 |_,_=>jd
theorem zRm(x:Operand)(t:TypeId)(ds:TypeDesc)(r:Nat)(q:List Nat)(u:T)(n:Nat)(ho:o.op=.call { callee:=.builtin .len,args:=#[x],argTypes:=#[t] })(gk:o.dst=ja d)(hd:d<Γ.N)
  (ht:P.underlying t=ja ds)(hx:tK E x=ja (r,q,u))(hl:zKE u=ja n)(md:zUB u ds=jc):
  wN P Γ o E (E.app [(d,ja (.lit (.int .i64 n)))] [(d,0)]):=by
 refine zAW (.int .i64 n) rfl gk hd fun a w G g9=>?_
 have hu:u.single=jc:=by cases u<;>simp[zKE]at hl<;>rfl
 obtain⟨h1,h2⟩:=jB g9 hx hu;have h3:(Builtin.len_ #[t] o.type #[G.hd r q]).run P w=.ok (.int .i64 n) w:=by
  cases u with
  |sl k xs=>
   obtain⟨a',c,h4⟩:=zJ2 h1;simp[zKE]at hl;subst hl;cases ds<;>simp[zUB]at md
   simp[Builtin.len_,run_underlying ht,h4,goInt]
  |ro t'=>
   cases t'<;>simp[zKE]at hl
   obtain⟨a',c,h4,_⟩:=zCW h1;subst hl;cases ds<;>simp[zUB]at md
   simp[Builtin.len_,run_underlying ht,h4,goInt]
  |lit v=>
   simp only[R]at h1;cases v<;>simp[zKE]at hl<;>(subst hl;cases ds<;>simp[zUB]at md;simp[Builtin.len_,run_underlying ht,h1,goInt])
  |_=>simp[zKE]at hl
 simp[execOp,ho,resolve,invoke,builtin,h2,h3]
theorem zBD{G:Gh}{w:World}{s:Nat}{t:T}{p:List Nat}{b o:Nat}(h:Loc G w s t p b o):G.ad s p=⟨b,o,jb⟩:=by cases t<;>simp only[Loc]at h<;>first|exact h.1|exact h.elim
theorem uO(b o n:Nat):(⟨b,o,jb⟩:Addr).add n=⟨b,o+n,jb⟩:=by
 unfold Addr.add;split
 ·rename_i h;subst h;rfl
 ·rfl
theorem zUC{St:Stb}{G:Gh}{w:World}{s:Nat}{k:Nat}{xs:List T}{p:List Nat}(h:R St G w s (.sl k xs) p){i:Nat}(hi:i<xs.length):
  ∃b cap,G.hd s p=.slice (ja ⟨b,0,jb⟩) xs.length cap∧G.ad s (i::p)=⟨b,i*k,jb⟩:=by
 simp only[R]at h;rcases h with⟨rfl,_⟩|⟨b,cap,cs,e,h1,h2,h3,h4,h5,h6,h7,h8⟩
 ·simp at hi
 ·have:=(jM xs p 0 b 0 k i xs[i] h8 (by simp[hi])).1
  simp only[Jg]at this;exact⟨b,cap,h1,zBD this⟩
theorem zRn(x y:Operand)(t e:TypeId)(ti:TypeInfo)(r:Nat)(q:List Nat)(k:Nat)(xs:List T)(kd:IntKind)(i:Int)(ho:o.op=.indexAddr t x y)(gk:o.dst=ja d)(hd:d<Γ.N)
  (ht:P.underlying t=ja (.slice e))(he:P.info? e=ja ti)(hk:ti.size=k)(hx:tK E x=ja (r,q,.sl k xs))(hy:opT E y=ja (.lit (.int kd i)))(h0:0≤i)(h1:i.toNat<xs.length):
  wN P Γ o E (E.app [(d,ja (.addr r (i.toNat::q)))] [(d,0)]):=by
 refine wN.value gk fun a w G g9=>?_
 obtain⟨g1,g2⟩:=jB g9 hx rfl;have g3:=(wO g9 hy).1;obtain⟨b,cap,g4,g5⟩:=zUC g1 h1;refine⟨.pointer (ja (G.ad r (i.toNat::q))),w,?_,_,vN g9 rfl hd (fun _=>.pointer (ja (G.ad r (i.toNat::q)))) (fun _=>rfl) _ _ (by simp[mkV,Gh.put]) (by simp[R,Gh.put]) (by simp[Top])⟩;have gz:i<(xs.length:Int):=by omega
 simp[execOp,ho,Instr.indexAt,g3,g2,g4,asIntOf,run_underlying ht,h0,gz,sizeOf,typeInfo,he,hk,uO,g5]
theorem zG4{St:Stb}:(xs:List T)→ ∀(cs:Array Value)(o k i:Nat)(x:T),RoL St xs cs o k→xs[i]? =ja x→RoC St x cs (o+i*k)
 | [],_,_,_,_,_,_,h=>by simp at h
 |y::ys,cs,o,k,i,x,hr,h=>by
  simp only[RoL]at hr;cases i with
  |zero=>simp at h;subst h;simpa using hr.1
  |succ i=>
   have:=zG4 ys cs (o+k) k i x hr.2 (by simpa using h)
   rwa [show o+(i+1)*k=o+k+i*k from by rw[Jy];omega]
theorem zOt{St:Stb}:(xs:List T)→ ∀(cs:Array Value)(o i:Nat)(x:T),RoF St xs cs o→xs[i]? =ja x→RoC St x cs (o+T.sizes (xs.take i))
 | [],_,_,_,_,_,h=>by simp at h
 |y::ys,cs,o,i,x,hr,h=>by
  simp only[RoF]at hr;cases i with
  |zero=>simp at h;subst h;simpa[T.sizes]using hr.1
  |succ i=>
   have:=zOt ys cs (o+y.size) i x hr.2 (by simpa using h)
   rwa [Kb,T.sizes,←Lt]
theorem zRo(x y:Operand)(t e:TypeId)(ti:TypeInfo)(r:Nat)(q:List Nat)(k:Nat)(xs:List T)(kd:IntKind)(i:Int)(u:T)(ho:o.op=.indexAddr t x y)(gk:o.dst=ja d)(hd:d<Γ.N)
  (ht:P.underlying t=ja (.slice e))(he:P.info? e=ja ti)(hk:ti.size=k)(hx:tK E x=ja (r,q,.ro (.sl k xs)))(hy:opT E y=ja (.lit (.int kd i)))(h0:0≤i)(h1:xs[i.toNat]? =ja u):
  wN P Γ o E (E.app [(d,ja (.ro (.ptr u)))] [(d,0)]):=by
 refine wN.value gk fun a w G g9=>?_
 obtain⟨g1,g2⟩:=jB g9 hx rfl;have g3:=(wO g9 hy).1;have mm:i.toNat<xs.length:=(Jb.1 h1).1;obtain⟨a',c,g4,_,_,g5⟩:=zCW g1;obtain⟨b,o',cs',e',fr,rfl,g6,g7⟩:=g5 (by rintro rfl;simp at mm);have g8:=zG4 xs cs' o' k i.toNat u g7 h1;refine⟨.pointer (ja ⟨b,o'+i.toNat*k,jb⟩),w,?_,_,vN g9 rfl hd (fun _=>.pointer (ja ⟨b,o'+i.toNat*k,jb⟩)) (fun _=>rfl) _ _ (by simp[mkV,Gh.put]) ?_ (by simp[Top])⟩
 ·have gz:i<(xs.length:Int):=by omega
  simp[execOp,ho,Instr.indexAt,g3,g2,g4,asIntOf,run_underlying ht,h0,gz,sizeOf,typeInfo,he,hk,uO]
 ·simp only[R,Gh.put_self,RoC]
  exact⟨b,_,cs',e',fr,by simp,g6,g8⟩
theorem zCn:(xs:List T)→ ∀{G:Gh}{w:World}{s:Nat}(p:List Nat)(j b o i:Nat)(x:T),vG G w s xs p j b o→xs[i]? =ja x→
  Loc G w s x ((j+i)::p) b (o+T.sizes (xs.take i))
 | [],_,_,_,_,_,_,_,_,_,_,h=>by simp at h
 |y::ys,G,w,s,p,j,b,o,i,x,hr,h=>by
  simp only[vG]at hr;cases i with
  |zero=>simp at h;subst h;simpa[T.sizes]using hr.1
  |succ i=>
   have:=zCn ys p (j+1) b (o+y.size) i x hr.2 (by simpa using h)
   rwa [show j+(i+1)=j+1+i from by omega,Kb,T.sizes,←Lt]
theorem tY{P:Program}{w:World}(a:Addr):(Instr.sureAddr (.pointer (ja a))).run P w=.ok a w:=rfl
theorem zCo{P:Program}{w:World}{S:TypeId}{fs:Array Field}{f:Field}{fi:TypeInfo}{j:Nat}{b o':Nat}(hS:P.underlying S=ja (.struct fs))(hf:fs[j]? =ja f)(hi:P.info? f.type=ja fi)(hz:fi.size≠0):
  (Instr.fieldAt S (.pointer (ja ⟨b,o',jb⟩)) j).run P w=.ok (.pointer (ja ⟨b,o'+f.offset,jb⟩)) w:=by
 simp[Instr.fieldAt,run_underlying hS,hf,tY,fieldPlace,sizeOf,typeInfo,hi,hz,uO]
theorem zYH(x:Operand)(S:TypeId)(fs:Array Field)(f:Field)(fi:TypeInfo)(j:Nat)(r:Nat)(q:List Nat)(xs:List T)(u:T)(ho:o.op=.fieldAddr S x j)(gk:o.dst=ja d)(hd:d<Γ.N)
  (hS:P.underlying S=ja (.struct fs))(hf:fs[j]? =ja f)(hi:P.info? f.type=ja fi)(hz:fi.size≠0)(hx:tK E x=ja (r,q,.ptr (.agg xs)))(hu:xs[j]? =ja u)(gF:T.sizes (xs.take j)=f.offset):
  wN P Γ o E (E.app [(d,ja (.addr r (j::0::q)))] [(d,0)]):=by
 refine wN.value gk fun a w G g9=>?_
 obtain⟨g1,g2⟩:=jB g9 hx rfl;simp only[R]at g1;obtain⟨b,cs,e,g4,_,_,_,g5,_⟩:=g1;simp only[Loc]at g5;have g6:=zCn xs (0::q) 0 b 0 j u g5.2 hu;simp only[Jg]at g6;refine⟨.pointer (ja (G.ad r (j::0::q))),w,?_,_,vN g9 rfl hd (fun _=>.pointer (ja (G.ad r (j::0::q)))) (fun _=>rfl) _ _ (by simp[mkV,Gh.put]) (by simp[R,Gh.put]) (by simp[Top])⟩;have g7:=zCo (w:=w) (b:=b) (o':=0) hS hf hi hz;simp[execOp,ho,g2,g4,g7,zBD g6,gF]
theorem zMU(x:Operand)(S:TypeId)(fs:Array Field)(f:Field)(fi:TypeInfo)(j:Nat)(r:Nat)(q:List Nat)(t:T)(xs:List T)(u:T)(ho:o.op=.fieldAddr S x j)(gk:o.dst=ja d)(hd:d<Γ.N)
  (hS:P.underlying S=ja (.struct fs))(hf:fs[j]? =ja f)(hi:P.info? f.type=ja fi)(hz:fi.size≠0)(hx:opT E x=ja (.addr r q))(hr:E r=ja t)(hg:t.get q.reverse=ja (.agg xs))(hl:t.locd q.reverse=jc)
  (hu:xs[j]? =ja u)(gF:T.sizes (xs.take j)=f.offset):
  wN P Γ o E (E.app [(d,ja (.addr r (j::q)))] [(d,0)]):=by
 refine wN.value gk fun a w G g9=>?_
 cases x with
 |tmp s=>
  obtain⟨h1,h2,_⟩:=g9.ent s _ hx;obtain⟨_,h4,_⟩:=g9.ent r _ hr;simp only[R]at h2;obtain⟨b,o',cs,e,h6,_,_⟩:=(zAx q.reverse t _ [] h4 hg).2 hl;simp only[rp,Ks,J9]at h6;have h7:=zBD h6;simp only[Loc]at h6;have g6:=zCn xs q 0 b o' j u h6.2 hu;simp only[Jg]at g6;refine⟨.pointer (ja (G.ad r (j::q))),w,?_,_,vN g9 rfl hd (fun _=>.pointer (ja (G.ad r (j::q)))) (fun _=>rfl) _ _ (by simp[mkV,Gh.put]) (by simp[R,Gh.put]) (by simp[Top])⟩;have g7:=zCo (w:=w) (b:=b) (o':=o') hS hf hi hz;simp[execOp,ho,wK h1,mkV,h2,h7,g7,zBD g6,gF]
 |const v=>simp only[opT]at hx;split at hx<;>simp at hx
 |func f=>simp[opT]at hx
 |global g=>simp[opT]at hx
theorem zMV{G:Gh}{a:Act}{w:World}(g9:Rep Γ E G a.tmps w){x:Operand}{u:T}(hx:opT E x=ja (.ro u)):RoC Γ.St u #[a.eval x] 0:=by
 cases x with
 |tmp s=>
  obtain⟨h1,h2,_⟩:=g9.ent s _ hx;simp only[R]at h2;rw[wK h1,xV rfl];exact h2
 |const v=>simp only[opT]at hx;split at hx<;>simp at hx
 |func f=>simp[opT]at hx
 |global g=>simp[opT]at hx
theorem zRp(x:Operand)(S:TypeId)(fs:Array Field)(f:Field)(fi:TypeInfo)(j:Nat)(xs:List T)(u:T)(ho:o.op=.fieldAddr S x j)(gk:o.dst=ja d)(hd:d<Γ.N)
  (hS:P.underlying S=ja (.struct fs))(hf:fs[j]? =ja f)(hi:P.info? f.type=ja fi)(hz:fi.size≠0)(hx:opT E x=ja (.ro (.ptr (.agg xs))))(hu:xs[j]? =ja u)(gF:T.sizes (xs.take j)=f.offset):
  wN P Γ o E (E.app [(d,ja (.ro (.ptr u)))] [(d,0)]):=by
 refine wN.value gk fun a w G g9=>?_
 have h1:=zMV g9 hx;simp only[RoC]at h1;obtain⟨b,o',cs',e,fr,h2,h3,h4⟩:=h1;have h5:=zOt xs cs' o' j u h4 hu;refine⟨.pointer (ja ⟨b,o'+f.offset,jb⟩),w,?_,_,vN g9 rfl hd (fun _=>.pointer (ja ⟨b,o'+f.offset,jb⟩)) (fun _=>rfl) _ _ (by simp[mkV,Gh.put]) ?_ (by simp[Top])⟩
 ·have g7:=zCo (w:=w) (b:=b) (o':=o') hS hf hi hz
  have h6:a.eval x=.pointer (ja ⟨b,o',jb⟩):=by simpa using h2
  simp[execOp,ho,h6,g7]
 ·simp only[R,Gh.put_self,RoC]
  exact⟨b,o'+f.offset,cs',e,fr,by simp,h3,by rw[←gF];exact h5⟩
def zFj:TypeDesc→Bool
 |.struct _|.array _ _=>jc
 |_=>jd
theorem jO{P:Program}{w:World}{t:TypeId}{ds:TypeDesc}(ht:P.underlying t=ja ds):(isAgg t).run P w=.ok (zFj ds) w:=by cases ds<;>simp[isAgg,run_underlying ht,zFj]
theorem vA{G:Gh}{w:World}{s:Nat}{t:T}{p:List Nat}{b o:Nat}(ht:t.single=jc)(h:Loc G w s t p b o):G.ad s p=⟨b,o,jb⟩∧G.lb b o=ja (jd,s,p)∧yS w b o=ja (G.hd s p):=by cases t<;>simp[T.single]at ht<;>simpa only[Loc]using h
mutual
theorem zRq{G:Gh}{w:World}{s:Nat}:(t:T)→ ∀(p:List Nat)(b o:Nat),Loc G w s t p b o→ ∀(i:Nat)(v:Value),(vals G s t p)[i]? =ja v→yS w b (o+i)=ja v
 |.agg xs,p,b,o,h,i,v,hv=>by simp only[Loc,vals]at h hv;exact zBi xs p 0 b o h.2 i v hv
 |.any,p,b,o,h,i,v,hv|.lit _,p,b,o,h,i,v,hv|.ro _,p,b,o,h,i,v,hv|.same _ _,p,b,o,h,i,v,hv|.addr _ _,p,b,o,h,i,v,hv|.sub _ _ _ _ _,p,b,o,h,i,v,hv|.sl _ _,p,b,o,h,i,v,hv|.ptr _,p,b,o,h,i,v,hv=>by
  simp only[Loc,vals]at h hv;cases i with
  |zero=>simp at hv;rw[←hv];exact h.2.2
  |succ i=>simp at hv
 |.tup _,_,_,_,h,_,_,_=>by simp only[Loc]at h
theorem zBi{G:Gh}{w:World}{s:Nat}:(xs:List T)→ ∀(p:List Nat)(j b o:Nat),vG G w s xs p j b o→ ∀(i:Nat)(v:Value),(yF G s xs p j)[i]? =ja v→yS w b (o+i)=ja v
 | [],_,_,_,_,_,i,v,hv=>by simp[yF]at hv
 |x::xs,p,j,b,o,h,i,v,hv=>by
  simp only[vG,yF]at h hv;rw[L5]at hv;split at hv
  ·exact zRq x (j::p) b o h.1 i v hv
  ·rename_i hge
   have gj:=wT (G:=G) (s:=s) x (j::p) (fun ys e=>by subst e;simp only[Loc]at h;exact h.1);have:=zBi xs p (j+1) b (o+x.size) h.2 _ v hv
   rwa [show o+x.size+(i-(vals G s x (j::p)).length)=o+i from by omega]at this
theorem wT{G:Gh}{s:Nat}:(t:T)→ ∀(p:List Nat),(∀xs,t≠.tup xs)→(vals G s t p).length=t.size
 |.agg xs,p,_=>by simp only[vals,T.size];exact wS xs p 0
 |.any,_,_|.lit _,_,_|.ro _,_,_|.same _ _,_,_|.addr _ _,_,_|.sub _ _ _ _ _,_,_|.sl _ _,_,_|.ptr _,_,_|.tup _,_,_=>by simp[vals,T.size]
theorem wS{G:Gh}{s:Nat}:(xs:List T)→ ∀(p:List Nat)(j:Nat),(yF G s xs p j).length=T.sizes xs
 | [],_,_=>by simp[yF,T.sizes]
 |x::xs,p,j=>by
  simp only[yF,J5,T.sizes,wS xs p (j+1)]
  by_cases hx:∃ys,x=.tup ys
  ·obtain⟨ys,rfl⟩:=hx;simp[vals,T.size]
  ·rw[wT x (j::p) (fun ys e=>hx ⟨ys,e⟩)]
end
theorem zGd{P:Program}{G:Gh}{w:World}{s:Nat}{t:T}{p:List Nat}{b o':Nat}{T':TypeId}{ds:TypeDesc}{ti:TypeInfo}(hT:P.underlying T'=ja ds)(hi:P.info? T'=ja ti)(hl:Loc G w s t p b o')
  (fJ:zFj ds= !t.single)(gv:ti.size=t.size):(loadVar T' ⟨b,o',jb⟩).run P w=.ok (sC G s t p) w:=by
 cases t with
 |agg xs=>
  have h1:=run_loadCells_list (P:=P) (w:=w) ⟨b,o',jb⟩ (yF G s xs p 0) (fun j v hv=>by rw[uO];simp only[Loc]at hl;exact zBi xs p 0 b o' hl.2 j v hv)
  rw[wS]at h1;simp only[T.size]at gv;simp[T.single]at fJ;simp[loadVar,jO hT,fJ,sizeOf,typeInfo,hi,gv,h1,sC]
 |tup xs=>simp only[Loc]at hl
 |_=>
  have h1:=(vA rfl hl).2.2;simp[T.single]at fJ;simp only[yS]at h1;simp[loadVar,jO hT,fJ,load,Sem.run,h1,sC]
def zAI(Γ:Ctx)(E:Env)(x:Operand)(r:Nat)(q:List Nat):Prop:=∀(a:Act)(w:World)(G:Gh),Rep Γ E G a.tmps w→a.eval x=.pointer (ja (G.ad r q))
theorem zAI.addr{x:Operand}{r:Nat}{q:List Nat}(hx:opT E x=ja (.addr r q)):zAI Γ E x r q:=fun a w G g9=>by
 cases x with
 |tmp s=>
  obtain⟨h1,h2,_⟩:=g9.ent s _ hx;simp only[R]at h2;rw[wK h1];exact h2
 |const v=>simp only[opT]at hx;split at hx<;>simp at hx
 |func f=>simp[opT]at hx
 |global g=>simp[opT]at hx
theorem zAI.ptr{x:Operand}{r:Nat}{q:List Nat}{t:T}(hx:tK E x=ja (r,q,.ptr t)):zAI Γ E x r (0::q):=fun a w G g9=>by obtain⟨g1,g2⟩:=jB g9 hx rfl;simp only[R]at g1;obtain⟨b,cs,e,g4,_,_,_,g5,_⟩:=g1;rw[g2,g4,zBD g5]
theorem zKF(x:Operand)(T':TypeId)(ds:TypeDesc)(ti:TypeInfo)(r:Nat)(q:List Nat)(t u:T)(ho:o.op=.load T' x)(gk:o.dst=ja d)(hd:d<Γ.N)
  (hT:P.underlying T'=ja ds)(hi:P.info? T'=ja ti)(fJ:zFj ds= !u.single)(gv:ti.size=u.size)
  (hx:zAI Γ E x r q)(hr:E r=ja t)(hg:t.get q.reverse=ja u)(hl:t.locd q.reverse=jc)(gD:r≠d)(gE:T.okB [(d,0)] (cpT r u q)=jc):
  wN P Γ o E (E.app [(d,ja (cpT r u q))] [(d,0)]):=by
 refine wN.value gk fun a w G g9=>?_
 have t6:=hx a w G g9;obtain⟨_,h4,_⟩:=g9.ent r _ hr;obtain⟨h5,h6⟩:=zAx q.reverse t u [] h4 hg;obtain⟨b,o',cs,e,h6,_,_⟩:=h6 hl;simp only[rp,Ks,J9]at h5 h6;have gR:∀xs,u≠.tup xs:=by rintro xs rfl;simp only[Loc]at h6
 have h7:=zBD h6;have hz:∀z,(G.put d (fun z=>G.hd r (z++q))).hd d (z++[])=G.hd r (z++q):=fun z=>by rw[Gh.put_self,J9]
 have hk:=G.put_keep (w:=w) (w':=w) rfl d (fun z=>G.hd r (z++q));refine⟨sC G r u q,w,?_,_,vN g9 rfl hd (fun z=>G.hd r (z++q)) (fun z=>g9.mem.one _ _) _ _ (zAy u q [] gR hz).symm
  (zDJ (fun p=>G.put_other _ p gD) u q [] hz gR (hk.keepR (zAg _ (qQ r u q) gE)) h5) (qQ r u q)⟩
 have h8:=zGd (T':=T') hT hi h6 fJ gv;simp[execOp,ho,t6,h7,Instr.loadAt,tY,h8]
theorem zUD(x:Operand)(T':TypeId)(ds:TypeDesc)(ti:TypeInfo)(r:Nat)(q:List Nat)(t u:T)(ho:o.op=.load T' x)(gk:o.dst=ja d)(hd:d<Γ.N)
  (hT:P.underlying T'=ja ds)(hi:P.info? T'=ja ti)(fJ:zFj ds= !u.single)(gv:ti.size=u.size)
  (hx:opT E x=ja (.addr r q))(hr:E r=ja t)(hg:t.get q.reverse=ja u)(hl:t.locd q.reverse=jc)(gD:r≠d)(gE:T.okB [(d,0)] (cpT r u q)=jc):
  wN P Γ o E (E.app [(d,ja (cpT r u q))] [(d,0)]):=zKF x T' ds ti r q t u ho gk hd hT hi fJ gv (zAI.addr hx) hr hg hl gD gE
def roT:T→T
 |.lit v=>.lit v
 |.agg xs=>.agg (roTs xs)
 |.ro t=>.ro t
 |.any=>.any
 |.same r q=>.ro (.same r q)
 |.addr r q=>.ro (.addr r q)
 |.sub r q k lo hi=>.ro (.sub r q k lo hi)
 |.sl k xs=>.ro (.sl k xs)
 |.ptr t=>.ro (.ptr t)
 |.tup xs=>.ro (.tup xs)
where roTs:List T→List T
 | []=>[]
 |x::xs=>roT x::roTs xs
end
end Go.Ab

namespace Go.Ab
open Go
def jP(v:Value):Value:=if v.oneCell' then v else .bool jd
theorem zBj(v:Value):(jP v).oneCell'=jc:=by
 unfold jP;split
 ·assumption
 ·rfl
theorem zAh{v:Value}(h:v.oneCell'=jc):jP v=v:=by simp[jP,h]
def zDL:T→Array Value→Nat→List Nat→Value
 |.agg xs,cs,o,i::f=>match xs[i]? with
  |some x=>zDL x cs (o+T.sizes (xs.take i)) f
  |none=>.bool jd
 |_,cs,o,_=>cs.getD o (.bool jd)
termination_by structural _ _ _ f=>f
theorem zAJ{t:T}(h:t.single=jc)(cs:Array Value)(o:Nat)(f:List Nat):zDL t cs o f=cs.getD o (.bool jd):=by cases t<;>simp[T.single]at h<;>cases f<;>rfl
mutual
theorem zEw:(u:T)→(∀xs,u≠.tup xs)→(roT u).size=u.size
 |.agg xs,_=>by simp only[roT,T.size];exact zFk xs
 |.lit _,_|.any,_|.sl _ _,_|.ptr _,_|.ro _,_|.same _ _,_|.addr _ _,_|.sub _ _ _ _ _,_|.tup _,_=>by simp[roT,T.size]
theorem zFk:(xs:List T)→T.sizes (roT.roTs xs)=T.sizes xs
 | []=>by simp only[roT.roTs]
 |x::xs=>by
  simp only[roT.roTs,T.sizes,zFk xs]
  by_cases hx:∃ys,x=.tup ys
  ·obtain⟨ys,rfl⟩:=hx;simp[roT,T.size]
  ·rw[zEw x (fun ys e=>hx ⟨ys,e⟩)]
end
section
variable {St:Stb}{G:Gh}{w:World}{d:Nat}
theorem zGP{u:T}{cs:Array Value}{o:Nat}(hu:u.single=jc)(h:RoC St u cs o):∃v,cs[o]? =ja v∧v.oneCell'=jc∧RoC St u #[v] 0:=by
 cases u<;>simp[T.single]at hu<;>simp only[RoC]at h ⊢
 ·obtain⟨v,h1,h2⟩:=h;exact⟨v,h1,h2,v,by simp,h2⟩
 ·exact⟨_,h.1,h.2,by simp,h.2⟩
 ·obtain⟨a,c,h1,h2⟩:=h;exact⟨_,h1,rfl,a,c,by simp,h2⟩
 ·obtain⟨b,o',cs',e,fr,h1,h2⟩:=h;exact⟨_,h1,rfl,b,o',cs',e,fr,by simp,h2⟩
mutual
theorem zRr:(u:T)→ ∀(cs:Array Value)(o:Nat)(p:List Nat),(∀z,G.hd d (z++p)=jP (zDL u cs o z.reverse))→RoC St u cs o→R St G w d (roT u) p
 |.agg xs,cs,o,p,hd,h=>by
  simp only[roT,R,RoC]at h ⊢
  exact zRs xs cs o p 0 o (by simp) (fun z j x hx=>by have:=hd (z++[j]);simp only[Ja,Jp,Ji,Hs,H2,Lg,zDL]at this;rw[Jg,this];simp[hx]) h
 |.lit v,cs,o,p,hd,h=>by
  simp only[roT,R,RoC]at h ⊢
  have:=hd [];rw[Ji,zAJ rfl]at this;rw[this];simp[K8,h.1,zAh h.2]
 |.any,_,_,_,_,_=>by simp only[roT,R]
 |.sl k xs,cs,o,p,hd,h|.ptr t,cs,o,p,hd,h=>by obtain⟨v,h1,h2,h3⟩:=zGP rfl h;have:=hd [];rw[Ji,zAJ rfl]at this;simp only[roT,R];rw[this];simpa[K8,h1,zAh h2]using h3
 |.ro _,_,_,_,_,h|.same _ _,_,_,_,_,h|.addr _ _,_,_,_,_,h|.sub _ _ _ _ _,_,_,_,_,h|.tup _,_,_,_,_,h=>by simp only[RoC]at h
theorem zRs:(xs:List T)→ ∀(cs:Array Value)(o0:Nat)(p:List Nat)(j o:Nat),o0≤o→(∀z i x,xs[i]? =ja x→G.hd d (z++((j+i)::p))=jP (zDL x cs (o+T.sizes (xs.take i)) z.reverse))→RoF St xs cs o→RF St G w d (roT.roTs xs) p j
 | [],_,_,_,_,_,_,_,_=>by simp only[roT.roTs,RF]
 |x::xs,cs,o0,p,j,o,ho,hd,h=>by
  simp only[roT.roTs,RF,RoF]at h ⊢
  refine⟨zRr x cs o (j::p) (fun z=>by simpa[T.sizes]using hd z 0 x (by simp)) h.1,zRs xs cs o0 p (j+1) (o+x.size) (by omega) (fun z i y hy=>?_) h.2⟩;have:=hd z (i+1) y (by simpa using hy);simp only[Kb,T.sizes]at this;rw[show j+1+i=j+(i+1)from by omega,show o+x.size+T.sizes (xs.take i)=o+(x.size+T.sizes (xs.take i))from Lt ..];exact this
end
mutual
theorem zGQ:(u:T)→ ∀(cs:Array Value)(o:Nat)(p:List Nat),(∀z,G.hd d (z++p)=jP (zDL u cs o z.reverse))→RoC St u cs o→ ∀(i:Nat)(v:Value),(vals G d (roT u) p)[i]? =ja v→cs[o+i]? =ja v
 |.agg xs,cs,o,p,hd,h,i,v,hv=>by
  simp only[roT,vals,RoC]at h hv;exact zIL xs cs p 0 o (fun z j x hx=>by have:=hd (z++[j]);simp only[Ja,Jp,Ji,Hs,H2,Lg,zDL]at this;rw[Jg,this];simp[hx]) h i v hv
 |.lit _,cs,o,p,hd,h,i,v,hv|.any,cs,o,p,hd,h,i,v,hv|.sl _ _,cs,o,p,hd,h,i,v,hv|.ptr _,cs,o,p,hd,h,i,v,hv=>by
  obtain⟨v',h1,h2,h3⟩:=zGP rfl h;have:=hd [];rw[Ji,zAJ rfl]at this;simp only[roT,vals]at hv;cases i with
  |zero=>
   simp at hv;rw[←hv,this];simp[K8,h1,zAh h2]
  |succ i=>simp at hv
 |.ro _,_,_,_,_,h,_,_,_|.same _ _,_,_,_,_,h,_,_,_|.addr _ _,_,_,_,_,h,_,_,_|.sub _ _ _ _ _,_,_,_,_,h,_,_,_|.tup _,_,_,_,_,h,_,_,_=>by simp only[RoC]at h
theorem zIL:(xs:List T)→ ∀(cs:Array Value)(p:List Nat)(j o:Nat),(∀z i x,xs[i]? =ja x→G.hd d (z++((j+i)::p))=jP (zDL x cs (o+T.sizes (xs.take i)) z.reverse))→RoF St xs cs o→ ∀(i:Nat)(v:Value),(yF G d (roT.roTs xs) p j)[i]? =ja v→cs[o+i]? =ja v
 | [],_,_,_,_,_,_,i,v,hv=>by simp[roT.roTs,yF]at hv
 |x::xs,cs,p,j,o,hd,h,i,v,hv=>by
  simp only[roT.roTs,yF,RoF]at h hv;have hx:∀z,G.hd d (z++(j::p))=jP (zDL x cs o z.reverse):=fun z=>by simpa[T.sizes]using hd z 0 x (by simp)
  have gj:(vals G d (roT x) (j::p)).length=x.size:=by have hs:(roT x).size=x.size:=zEw x (fun ys e=>by subst e;simp only[RoC]at h;exact h.1);rw[wT (roT x) (j::p) (fun ys e=>by cases x<;>simp[roT]at e),hs]
  rw[L5]at hv;split at hv
  ·exact zGQ x cs o (j::p) hx h.1 i v hv
  ·have:=zIL xs cs p (j+1) (o+x.size) (fun z i y hy=>by
    have:=hd z (i+1) y (by simpa using hy);simp only[Kb,T.sizes]at this;rw[show j+1+i=j+(i+1)from by omega,show o+x.size+T.sizes (xs.take i)=o+(x.size+T.sizes (xs.take i))from Lt ..];exact this) h.2 _ v hv
   rwa [gj,show o+x.size+(i-x.size)=o+i from by omega]at this
end
mutual
theorem zOu:(u:T)→Top (roT u)
 |.agg xs=>by simp only[roT,Top];exact zKG xs
 |.lit _|.any|.sl _ _|.ptr _|.ro _|.same _ _|.addr _ _|.sub _ _ _ _ _|.tup _=>by simp[roT,Top]
theorem zKG:(xs:List T)→vP (roT.roTs xs)
 | []=>by simp only[roT.roTs,vP]
 |x::xs=>by simp only[roT.roTs,vP];exact⟨zOu x,zKG xs⟩
end
end
section
variable {P:Program}{Γ:Ctx}{E:Env}{o:Oper}{d:Nat}
theorem zOv{G:Gh}{w:World}(hm:Mem Γ G w){b:Nat}{cs:Array Value}{e:TypeId}{fr:Nat×Nat}(h:Γ.St b=ja (.cells cs e fr))(i:Nat):w.cell? ⟨b,i,jb⟩=cs[i]?:=by simp[World.cell?,hm.st b _ h]
theorem zMW(x:Operand)(T':TypeId)(ds:TypeDesc)(ti:TypeInfo)(u:T)(ho:o.op=.load T' x)(gk:o.dst=ja d)(hd:d<Γ.N)
  (hT:P.underlying T'=ja ds)(hi:P.info? T'=ja ti)(fJ:zFj ds= !u.single)(gv:ti.size=u.size)
  (hx:opT E x=ja (.ro (.ptr u))):wN P Γ o E (E.app [(d,ja (roT u))] [(d,0)]):=by
 refine wN.value gk fun a w G g9=>?_
 have h1:=zMV g9 hx;simp only[RoC]at h1;obtain⟨b,o',cs',e,fr,h2,h3,h4⟩:=h1;have fY:a.eval x=.pointer (ja ⟨b,o',jb⟩):=by simpa using h2
 have gR:∀xs,u≠.tup xs:=by rintro xs rfl;simp only[RoC]at h4
 let f:List Nat→Value:=fun z=>jP (zDL u cs' o' z.reverse)
 have hz:∀z,(G.put d f).hd d (z++[])=jP (zDL u cs' o' z.reverse):=fun z=>by rw[Gh.put_self,J9]
 refine⟨mkV (G.put d f) d (roT u) [],w,?_,_,vN g9 rfl hd f (fun z=>zBj _) _ _ rfl (zRr u cs' o' [] hz h4) (zOu u)⟩;cases u with
 |agg xs=>
  have h5:∀j v,(yF (G.put d f) d (roT.roTs xs) [] 0)[j]? =ja v→w.cell? ((⟨b,o',jb⟩:Addr).add j)=ja v:=by intro j v hv;rw[uO,zOv g9.mem h3];exact zGQ (.agg xs) cs' o' [] hz h4 j v (by simpa only[roT,vals]using hv)
  have h6:=run_loadCells_list (P:=P) (w:=w) ⟨b,o',jb⟩ _ h5;rw[wS,zFk]at h6;simp only[T.size]at gv;simp[T.single]at fJ;simp[execOp,ho,fY,Instr.loadAt,tY,loadVar,jO hT,fJ,sizeOf,typeInfo,hi,gv,h6,mkV,roT]
 |tup xs=>exact absurd rfl (gR xs)
 |_=>
  obtain⟨v,h5,h6,h7⟩:=zGP rfl h4;have h8:w.cell? ⟨b,o',jb⟩=ja v:=by rw[zOv g9.mem h3];exact h5
  simp[T.single]at fJ;have h9:f []=v:=by show jP (zDL _ cs' o' _)=v;rw[zAJ rfl];simp[K8,h5,zAh h6]
  simp[execOp,ho,fY,Instr.loadAt,tY,loadVar,jO hT,fJ,load,Sem.run,h8,mkV,roT,Gh.put_self,h9]
def zGe(E:Env)(x:Operand):Bool:=
 match opT E x with
 |some (.addr _ _)|some (.ro (.ptr _))=>jc
 |_=>match tK E x with
  |some (_,_,.ptr _)=>jc
  |some (_,_,.ro (.ptr _))=>jc
  |_=>jd
theorem zRt{G:Gh}{a:Act}{w:World}(g9:Rep Γ E G a.tmps w){x:Operand}(h:zGe E x=jc):∃ad,a.eval x=.pointer (ja ad):=by
 unfold zGe at h;split at h
 ·rename_i r q hx
  cases x with
  |tmp s=>
   obtain⟨h1,h2,_⟩:=g9.ent s _ hx;simp only[R]at h2;exact⟨_,by rw[wK h1,xV rfl,h2]⟩
  |const v=>simp only[opT]at hx;split at hx<;>simp at hx
  |func f=>simp[opT]at hx
  |global g=>simp[opT]at hx
 ·rename_i u hx
  have:=zMV g9 hx;simp only[RoC]at this;obtain⟨b,o',_,_,_,h1,_⟩:=this;exact⟨_,by simpa using h1⟩
 ·split at h
  ·rename_i hl
   obtain⟨h1,h2⟩:=jB g9 hl rfl;simp only[R]at h1;obtain⟨b,cs,e,h3,_⟩:=h1;exact⟨_,by rw[h2,h3]⟩
  ·rename_i hl
   obtain⟨h1,h2⟩:=jB g9 hl rfl;simp only[R,RoC]at h1;obtain⟨b,o',_,_,_,h3,_⟩:=h1;exact⟨_,by rw[h2];simpa using h3⟩
  ·cases h
theorem zXe(x:Operand)(t:T)(ho:o.op=.nilCheck x)(gk:o.dst=ja d)(hd:d<Γ.N)(hx:opT E x=ja t)(hp:zGe E x=jc)(ht:∀xs,t≠.tup xs)
  (gf:∀s,x=.tmp s→s≠d)(gE:T.okB [(d,0)] (tJ x t)=jc):wN P Γ o E (E.app [(d,ja (tJ x t))] [(d,0)]):=by
 refine wN.value gk fun a w G g9=>?_
 obtain⟨f,hf,h1,h2⟩:=opd g9 hx ht;obtain⟨h3,h4⟩:=h1 d gf gE;obtain⟨ad,h5⟩:=zRt g9 hp;refine⟨a.eval x,w,?_,_,vN g9 rfl hd f hf _ _ h3 h4 h2⟩;simp[execOp,ho,h5]
theorem zKH{G:Gh}{s:Nat}:(xs:List T)→ ∀(p:List Nat)(j i:Nat)(x:T),xs[i]? =ja x→(qZ G s xs p j)[i]? =ja (sC G s x ((j+i)::p))
 | [],_,_,_,_,h=>by simp at h
 |y::ys,p,j,i,x,h=>by
  cases i with
  |zero=>simp at h;subst h;simp[qZ]
  |succ i=>
   have:=zKH (G:=G) (s:=s) ys p (j+1) i x (by simpa using h);rw[show j+(i+1)=j+1+i from by omega];simpa[qZ]using this
theorem zMX(s i:Nat)(ts:List T)(t:T)(ho:o.op=.extract (.tmp s) i)(gk:o.dst=ja d)(hd:d<Γ.N)(hs:E s=ja (.tup ts))(hi:ts[i]? =ja t)(ht:∀xs,t≠.tup xs)
  (gf:s≠d)(gE:T.okB [(d,0)] (cpT s t [i])=jc):wN P Γ o E (E.app [(d,ja (cpT s t [i]))] [(d,0)]):=by
 refine wN.value gk fun a w G g9=>?_
 obtain⟨h1,h2,_⟩:=g9.ent s _ hs;simp only[R]at h2;have h3:=zAV ts [] 0 i t h2 hi;simp only[Jg]at h3;have h4:=zKH (G:=G) (s:=s) ts [] 0 i t hi;simp only[Jg]at h4;have hk:=G.put_keep (w:=w) (w':=w) rfl d (fun z=>G.hd s (z++[i]));have hz:∀z,(G.put d (fun z=>G.hd s (z++[i]))).hd d (z++[])=G.hd s (z++[i]):=fun z=>by rw[Gh.put_self,J9]
 refine⟨sC G s t [i],w,?_,_,vN g9 rfl hd (fun z=>G.hd s (z++[i])) (fun z=>g9.mem.one _ _) _ _ (zAy t [i] [] ht hz).symm
  (zDJ (fun p=>G.put_other _ p gf) t [i] [] hz ht (hk.keepR (zAg _ (qQ s t [i]) gE)) h3) (qQ s t [i])⟩
 simp[execOp,ho,wK h1,mkV,Instr.extract,h4]
def zBE(E:Env)(x:Option Operand)(dflt n:Nat):Prop:=
 match x with
 |none=>n=dflt
 |some y=> ∃kd,opT E y=ja (.lit (.int kd n))
theorem zGR{St:Stb}:(xs:List T)→ ∀(cs:Array Value)(o k l:Nat),RoL St xs cs o k→RoL St (xs.drop l) cs (o+l*k) k
 | [],_,_,_,_,_=>by simp[RoL]
 |x::xs,cs,o,k,l,h=>by
  cases l with
  |zero=>simpa using h
  |succ l=>
   simp only[RoL]at h;have:=zGR xs cs (o+k) k l h.2
   rwa [List.drop_succ_cons,show o+(l+1)*k=o+k+l*k from by rw[Jy];omega]
theorem zGS{St:Stb}:(xs:List T)→ ∀(cs:Array Value)(o k l:Nat),RoL St xs cs o k→RoL St (xs.take l) cs o k
 | [],_,_,_,_,_=>by simp[RoL]
 |x::xs,cs,o,k,l,h=>by
  cases l with
  |zero=>simp[RoL]
  |succ l=>simp only[RoL,Kb]at h ⊢;exact⟨h.1,zGS xs cs _ k l h.2⟩
theorem zCX{P:Program}{G:Gh}{a:Act}{w:World}(g9:Rep Γ E G a.tmps w){x:Operand}{kd:IntKind}{n y:Nat}{c:BoundsCode}(hx:opT E x=ja (.lit (.int kd n)))(h:n≤y):
  (Instr.sliceBound (a.eval x) y c).run P w=.ok n w:=by
 rw[(wO g9 hx).1];have:(n:Int)≤(y:Int):=by omega
 simp[Instr.sliceBound,asIntOf,this]
theorem zGT{P:Program}{G:Gh}{a:Act}{w:World}(g9:Rep Γ E G a.tmps w){lo hi:Option Operand}{l h n c:Nat}(eG:zBE E lo 0 l)(ft:zBE E hi n h)(h1:l≤h)(h2:h≤c):
  (Instr.sliceBounds jc n c (lo.map a.eval) (hi.map a.eval) jb).run P w=.ok (l,h,c) w:=by
 cases lo with
 |none=>
  cases hi with
  |none=>simp only[zBE]at eG ft;subst eG;subst ft;simp[Instr.sliceBounds]
  |some y=>simp only[zBE]at eG ft;obtain⟨kd,hy⟩:=ft;subst eG;simp[Instr.sliceBounds,zCX g9 hy h2]
 |some x=>
  obtain⟨kd,hx⟩:=eG;cases hi with
  |none=>simp only[zBE]at ft;subst ft;simp[Instr.sliceBounds,zCX g9 hx h1]
  |some y=>obtain⟨kd',hy⟩:=ft;simp[Instr.sliceBounds,zCX g9 hy h2,zCX g9 hx h1]
theorem zKI(x:Operand)(lo hi:Option Operand)(t e:TypeId)(ti:TypeInfo)(r:Nat)(q:List Nat)(k:Nat)(xs:List T)(l h:Nat)(ho:o.op=.slice t x lo hi jb)(gk:o.dst=ja d)(hd:d<Γ.N)
  (ht:P.underlying t=ja (.slice e))(he:P.info? e=ja ti)(hk:ti.size=k)(hx:tK E x=ja (r,q,.ro (.sl k xs)))(eG:zBE E lo 0 l)(ft:zBE E hi xs.length h)(h1:l≤h)(h2:h≤xs.length):
  wN P Γ o E (E.app [(d,ja (.ro (.sl k ((xs.drop l).take (h-l)))))] [(d,0)]):=by
 refine wN.value gk fun a w G g9=>?_
 obtain⟨g1,g2⟩:=jB g9 hx rfl;obtain⟨a',c,g4,g5,g6,g7⟩:=zCW g1;have g8:=zGT (P:=P) g9 eG ft h1 (L9 h2 g5);have gj:((xs.drop l).take (h-l)).length=h-l:=by simp;omega
 refine⟨.slice (if c=l then a' else a'.map (·.add (l*k))) (h-l) (c-l),w,?_,_,vN g9 rfl hd (fun _=>.slice (if c=l then a' else a'.map (·.add (l*k))) (h-l) (c-l)) (fun _=>rfl) _ _ (by simp[mkV,Gh.put]) ?_ (by simp[Top])⟩
 ·simp only[execOp,ho,Jbe]
  simp[Instr.sliceAt,Instr.slice,run_underlying ht,g2,g4,g8,sizeOf,typeInfo,he,hk]
 ·simp only[R,Gh.put_self,RoC]
  refine⟨_,_,by rw[gj];rfl,by omega,by omega,?_⟩;intro gf;have eO:xs≠[]:=by rintro rfl;simp at gf
  obtain⟨b,o',cs',e',fr,rfl,h3,h4⟩:=g7 eO;have gG:c≠l:=by rintro rfl;apply gf;apply Kd;omega
  exact⟨b,o'+l*k,cs',e',fr,by simp[gG,uO],h3,zGS _ _ _ _ _ (zGR _ _ _ _ _ h4)⟩
theorem zJ3(x:Operand)(lo hi:Option Operand)(t e:TypeId)(ti:TypeInfo)(r:Nat)(q:List Nat)(k:Nat)(xs:List T)(l h:Nat)(ho:o.op=.slice t x lo hi jb)(gk:o.dst=ja d)(hd:d<Γ.N)
  (ht:P.underlying t=ja (.slice e))(he:P.info? e=ja ti)(hk:ti.size=k)(hx:tK E x=ja (r,q,.sl k xs))(eG:zBE E lo 0 l)(ft:zBE E hi xs.length h)(h1:l≤h)(h2:h≤xs.length)(gD:r≠d):
  wN P Γ o E (E.app [(d,ja (.sub r q k l h))] [(d,0)]):=by
 refine wN.value gk fun a w G g9=>?_
 obtain⟨g1,g2⟩:=jB g9 hx rfl;obtain⟨a',c,g4⟩:=zJ2 g1;have g5:xs.length≤c:=by
  simp only[R]at g1;rcases g1 with⟨rfl,_⟩|⟨b,cap,cs,e,g,_,g',_⟩
  ·simp
  ·rw[g4]at g;simp at g;omega
 have g8:=zGT (P:=P) g9 eG ft h1 (L9 h2 g5);refine⟨zBg (G.hd r q) k l h,w,?_,_,vN g9 rfl hd (fun _=>zBg (G.hd r q) k l h) (fun _=>by rw[g4];rfl) _ _ (by simp[mkV,Gh.put]) ?_ (by simp[Top])⟩
 ·simp only[execOp,ho,Jbe]
  simp[Instr.sliceAt,Instr.slice,run_underlying ht,g2,g4,g8,sizeOf,typeInfo,he,hk,zBg]
 ·simp only[R,Gh.put_self]
  rw[Gh.put_other _ _ _ gD]
end
end Go.Ab

namespace Go.Ab
open Go
def T.inT:T→List Nat→Bool
 |_,[]=>jc
 |.agg xs,i::f=>match xs[i]? with
  |some x=>x.inT f
  |none=>jd
 |.any,_::_|.lit _,_::_|.ro _,_::_|.same _ _,_::_|.addr _ _,_::_|.sub _ _ _ _ _,_::_|.sl _ _,_::_|.ptr _,_::_|.tup _,_::_=>jd
termination_by structural _ f=>f
def T.offT:T→List Nat→Nat
 |_,[]=>0
 |.agg xs,i::f=>match xs[i]? with
  |some x=>T.sizes (xs.take i)+x.offT f
  |none=>0
 |.any,_::_|.lit _,_::_|.ro _,_::_|.same _ _,_::_|.addr _ _,_::_|.sub _ _ _ _ _,_::_|.sl _ _,_::_|.ptr _,_::_|.tup _,_::_=>0
termination_by structural _ f=>f
theorem zGU{t:T}(h:t.single=jc){f:List Nat}(hf:f≠[]):t.inT f=jd:=by
 cases f with
 |nil=>exact absurd rfl hf
 |cons i f=>cases t<;>simp[T.single]at h<;>rfl
mutual
def zOw:T→List Nat→Nat→Option (List Nat)
 |.agg xs,p,o=>zCd xs p 0 o
 |.any,p,o|.lit _,p,o|.ro _,p,o|.same _ _,p,o|.addr _ _,p,o|.sub _ _ _ _ _,p,o|.sl _ _,p,o|.ptr _,p,o|.tup _,p,o=>if o=0 then ja p else jb
def zCd:List T→List Nat→Nat→Nat→Option (List Nat)
 | [],_,_,_=>jb
 |x::xs,p,j,o=>if o<x.size then zOw x (j::p) o else zCd xs p (j+1) (o-x.size)
end
mutual
def T.okTup:T→Bool
 |.tup _=>jd
 |.agg xs=>yU xs
 |.any|.lit _|.ro _|.same _ _|.addr _ _|.sub _ _ _ _ _|.sl _ _|.ptr _=>jc
def yU:List T→Bool
 | []=>jc
 |x::xs=>x.okTup&&yU xs
end
theorem zDM:(xs:List T)→ ∀(p:List Nat)(j o:Nat),T.sizes xs≤o→zCd xs p j o=jb
 | [],_,_,_,_=>by simp only[zCd]
 |x::xs,p,j,o,h=>by simp only[T.sizes]at h;simp only[zCd];rw[if_neg (by omega)];exact zDM xs p (j+1) _ (by omega)
section
variable {G:Gh}{w:World}{d:Nat}
mutual
theorem zXf:(x:T)→ ∀(p:List Nat)(B o:Nat),(∀xs,x≠.tup xs)→x.okTup=jc→
  (∀f,x.inT f=jc→G.ad d (f.reverse++p)=⟨B,o+x.offT f,jb⟩)→(∀j p',j<x.size→zOw x p j=ja p'→G.lb B (o+j)=ja (jd,d,p'))→
  (∀j v,(vals G d x p)[j]? =ja v→yS w B (o+j)=ja v)→Loc G w d x p B o
 |.agg xs,p,B,o,_,hn,ha,hl,hc=>by
  simp only[Loc];refine⟨by simpa[T.offT]using ha [] rfl,zG5 xs p 0 B o (by simpa only[T.okTup]using hn) (fun i x hx f hf=>?_) (fun j p' hj hp=>?_) (fun j v hv=>hc j v (by simpa only[vals]using hv))⟩
  ·have:=ha (i::f) (by simp only[T.inT,hx];exact hf)
   simp only[T.offT,hx,H2,Ja,Jp,Ji]at this;simpa[Lt]using this
  ·exact hl j p' (by simpa only[T.size]using hj) (by simpa only[zOw]using hp)
 |.any,p,B,o,_,_,ha,hl,hc|.lit _,p,B,o,_,_,ha,hl,hc|.ro _,p,B,o,_,_,ha,hl,hc|.same _ _,p,B,o,_,_,ha,hl,hc|.addr _ _,p,B,o,_,_,ha,hl,hc|.sub _ _ _ _ _,p,B,o,_,_,ha,hl,hc|.sl _ _,p,B,o,_,_,ha,hl,hc|.ptr _,p,B,o,_,_,ha,hl,hc=>by simp only[Loc];exact⟨by simpa[T.offT]using ha [] rfl,by simpa using hl 0 p (by simp[T.size]) (by simp[zOw]),by simpa using hc 0 (G.hd d p) (by simp[vals])⟩
 |.tup xs,_,_,_,h,_,_,_,_=>absurd rfl (h xs)
theorem zG5:(xs:List T)→ ∀(p:List Nat)(j B o:Nat),yU xs=jc→
  (∀i x,xs[i]? =ja x→ ∀f,x.inT f=jc→G.ad d (f.reverse++((j+i)::p))=⟨B,o+(T.sizes (xs.take i)+x.offT f),jb⟩)→
  (∀i p',i<T.sizes xs→zCd xs p j i=ja p'→G.lb B (o+i)=ja (jd,d,p'))→
  (∀i v,(yF G d xs p j)[i]? =ja v→yS w B (o+i)=ja v)→vG G w d xs p j B o
 | [],_,_,_,_,_,_,_,_=>by simp only[vG]
 |x::xs,p,j,B,o,hn,ha,hl,hc=>by
  simp only[yU,J4]at hn;have gR:∀ys,x≠.tup ys:=by rintro ys rfl;simp[T.okTup]at hn
  simp only[vG];refine⟨zXf x (j::p) B o gR hn.1 (fun f hf=>by simpa[T.sizes]using ha 0 x (by simp) f hf) (fun i p' hi hp=>hl i p' (by simp only[T.sizes];omega) (by simp only[zCd,hi,if_true];exact hp)) (fun i v hv=>hc i v ?_),
   zG5 xs p (j+1) B (o+x.size) hn.2 (fun i y hy f hf=>?_) (fun i p' hi hp=>?_) (fun i v hv=>?_)⟩
  ·simp only[yF]
   rw[Jm (Jb.1 hv).1];exact hv
  ·have:=ha (i+1) y (by simpa using hy) f hf
   simp only[Kb,T.sizes]at this;rw[show j+1+i=j+(i+1)from by omega,this]
   congr 1
   omega
  ·have:=hl (x.size+i) p' (by simp only[T.sizes];omega) (by simp only[zCd];rw[if_neg (by omega),show x.size+i-x.size=i from by omega];exact hp)
   rwa [←Lt]at this
  ·have:=hc (x.size+i) v (by
    simp only[yF];rw[J8 (by rw[wT x _ gR];omega),wT x _ gR,show x.size+i-x.size=i from by omega];exact hv)
   rwa [←Lt]at this
end
end
structure MvC (G:Gh) (w:World) (G':Gh) (w':World) (s:Nat) (p:List Nat) (s':Nat) (p':List Nat) (t:T):Prop where
 hd:∀z,G'.hd s' (z++p')=G.hd s (z++p)
 ad:∀z,t.inT z.reverse=jd→G'.ad s' (z++p')=G.ad s (z++p)
 lb:∀b o f z,(f=jc∨t.inT z.reverse=jd)→G.lb b o=ja (f,s,z++p)→G'.lb b o=ja (f,s',z++p')∧yS w' b o=yS w b o
 ow:∀b z,G.ow b=ja (s,z++p)→G'.ow b=ja (s',z++p')
 blk:Blk w w'
section
variable {St:Stb}{G:Gh}{w:World}{G':Gh}{w':World}{s:Nat}{s':Nat}
theorem MvC.moves{p p':List Nat}{t:T}(h:MvC G w G' w' s p s' p' t)(ht:t.single=jc):zII G w G' w' s p s' p' where
 hd:=h.hd
 ad z hz:=h.ad z (zGU ht (by simpa using hz))
 lb b o f z hz _ hl:=h.lb b o f z (.inr (zGU ht (by simpa using hz))) hl
 ow b z _ hl:=h.ow b z hl
 blk:=h.blk
 sp b o _ hl:=by simpa using h.lb b o jc [] (.inl rfl) (by simpa using hl)
 ow0 b hl:=by simpa using h.ow b [] (by simpa using hl)
theorem MvC.field{p p':List Nat}{xs:List T}(h:MvC G w G' w' s p s' p' (.agg xs)){j:Nat}{x:T}(hx:xs[j]? =ja x):MvC G w G' w' s (j::p) s' (j::p') x where
 hd z:=by have:=h.hd (z++[j]);simpa using this
 ad z hz:=by have:=h.ad (z++[j]) (by simp[T.inT,hx,hz]);simpa using this
 lb b o f z hf hl:=by have:=h.lb b o f (z++[j]) (hf.imp id fun hz=>by simp[T.inT,hx,hz]) (by simpa using hl);simpa using this
 ow b z hl:=by have:=h.ow b (z++[j]) (by simpa using hl);simpa using this
 blk:=h.blk
mutual
theorem zKJ:(t:T)→ ∀(p p':List Nat),t.okTup=jc→MvC G w G' w' s p s' p' t→xE (zAa G G') t→R St G w s t p→R St G' w' s' t p'
 |.agg xs,p,p',hn,h,hk,hr=>by
  simp only[R,xE,T.okTup]at hr hk hn ⊢
  exact zRu xs p p' 0 hn (fun j x hx=>by rw[Jg];exact h.field hx) hk hr
 |.any,p,p',_,h,hk,hr|.lit _,p,p',_,h,hk,hr|.ro _,p,p',_,h,hk,hr|.same _ _,p,p',_,h,hk,hr|.addr _ _,p,p',_,h,hk,hr|.sub _ _ _ _ _,p,p',_,h,hk,hr|.sl _ _,p,p',_,h,hk,hr|.ptr _,p,p',_,h,hk,hr=>
  zAf (h.moves rfl) _ hk hr
 |.tup _,_,_,hn,_,_,_=>by simp[T.okTup]at hn
theorem zRu:(xs:List T)→ ∀(p p':List Nat)(j:Nat),yU xs=jc→(∀i x,xs[i]? =ja x→MvC G w G' w' s ((j+i)::p) s' ((j+i)::p') x)→wB (zAa G G') xs→RF St G w s xs p j→RF St G' w' s' xs p' j
 | [],_,_,_,_,_,_,_=>by simp only[RF]
 |x::xs,p,p',j,hn,h,hk,hr=>by
  simp only[RF,wB,yU,J4]at hr hk hn ⊢
  exact⟨zKJ x (j::p) (j::p') hn.1 (by simpa using h 0 x (by simp)) hk.1 hr.1,zRu xs p p' (j+1) hn.2 (fun i y hy=>by
   have:=h (i+1) y (by simpa using hy)
   rwa [show j+1+i=j+(i+1)from by omega]) hk.2 hr.2⟩
end
end
theorem zOx{St:Stb}{G:Gh}{w:World}{s:Nat}:(xs:List T)→ ∀(p:List Nat)(j:Nat),(∀i x,xs[i]? =ja x→R St G w s x ((j+i)::p))→RF St G w s xs p j
 | [],_,_,_=>by simp only[RF]
 |x::xs,p,j,h=>by
  simp only[RF];exact⟨by simpa using h 0 x (by simp),zOx xs p (j+1) (fun i y hy=>by
   have:=h (i+1) y (by simpa using hy)
   rwa [show j+1+i=j+(i+1)from by omega])⟩
theorem zRv{St:Stb}{G:Gh}{w:World}{s:Nat}{k:Nat}:(xs:List T)→ ∀(p:List Nat)(j b o:Nat),(∀x∈xs,x.size=k)→vG G w s xs p j b o→RF St G w s xs p j→RL St G w s xs p j b o k
 | [],_,_,_,_,_,_,_=>by simp only[RL]
 |x::xs,p,j,b,o,hk,hl,hr=>by
  simp only[RL,vG,RF]at hl hr ⊢
  have h1:=hk x (by simp);exact⟨⟨hl.1,h1⟩,hr.1,zRv xs p (j+1) b (o+k) (fun y hy=>hk y (by simp[hy])) (by rw[←h1];exact hl.2) hr.2⟩
theorem wU{k:Nat}:(xs:List T)→(∀x∈xs,x.size=k)→T.sizes xs=xs.length*k
 | [],_=>by simp[T.sizes]
 |x::xs,h=>by simp[T.sizes,wU xs (fun y hy=>h y (by simp[hy])),h x (by simp),Jy];omega
def Gh.nb(G:Gh)(d B:Nat)(xs:List T)(src:Nat→Option (Nat×List Nat))(φ:Nat→List Nat→Option (List Nat))(f:Nat→List Nat→Value)(gX:Value):Gh where
 hd s z:=if s=d then(match z.getLast? with
  |some i=>f i z.dropLast
  |none=>gX)else G.hd s z
 ad s z:=if s=d then(if(T.agg xs).inT z.reverse then⟨B,(T.agg xs).offT z.reverse,jb⟩else match z.getLast? with
  |some i=>(match src i with
   |some (x,q)=>G.ad x (z.dropLast++q)
   |none=>default)
  |none=>default)else G.ad s z
 lb b o:=if b=B then ja (match zCd xs [] 0 o with
  |some p=>(jd,d,p)
  |none=>(jc,d,[]))else match G.lb b o with
  |some (fl,s,z)=>(match φ s z with
   |some z'=>ja (fl,d,z')
   |none=>ja (fl,s,z))
  |none=>jb
 ow b:=if b=B then ja (d,[])else match G.ow b with
  |some (s,z)=>(match φ s z with
   |some z'=>ja (d,z')
   |none=>ja (s,z))
  |none=>jb
theorem zCY{Γ:Ctx}{G:Gh}{w w':World}(hm:Mem Γ G w){cells:Array Value}{e:TypeId}(hw:w'.heap=w.heap.push (.cells cells e))(d:Nat)(xs:List T)
  (src:Nat→Option (Nat×List Nat))(φ:Nat→List Nat→Option (List Nat))(f:Nat→List Nat→Value)(gX:Value)(chg:Chg)
  (gE:yU xs=jc)(hf:∀(i:Nat)(z:List Nat),(f i z).oneCell'=jc)(hh:gX.oneCell'=jc)
  (hφ:∀(i:Nat) u x q(z:List Nat),xs[i]? =ja u→src i=ja (x,q)→φ x (z++q)=ja (z++[i]))
  (ug:∀(i:Nat) u x q,xs[i]? =ja u→src i=ja (x,q)→(∀z,f i z=G.hd x (z++q))∧R Γ.St G w x u q∧yD u∧x≠d)
  (aW:∀(i:Nat) u,xs[i]? =ja u→src i=jb→ ∀(G2:Gh)(w2:World),(∀z,G2.hd d (z++[i])=f i z)→R Γ.St G2 w2 d u [i])
  (cy:∀(G2:Gh),(∀i z,G2.hd d (z++[i])=f i z)→ ∀(o:Nat)(v:Value),(yF G2 d xs [] 0)[o]? =ja v→cells[o]? =ja v)
  (dp:∀s p,(∀n,(s,n)∉(d,0)::chg)→φ s p=jb)(ho:w'.os=w.os:=by rfl)(hq:w'.output=w.output:=by rfl):
  qU ((d,0)::chg) G w (G.nb d w.heap.size xs src φ f gX) w'∧Mem Γ (G.nb d w.heap.size xs src φ f gX) w'∧
  vG (G.nb d w.heap.size xs src φ f gX) w' d xs [] 0 w.heap.size 0∧RF Γ.St (G.nb d w.heap.size xs src φ f gX) w' d xs [] 0∧
  w'.heap[w.heap.size]? =ja (.cells cells e):=by
 have eB:w'.heap[w.heap.size]? =ja (.cells cells e):=by rw[hw];simp
 have gH:∀b,b<w.heap.size→w'.heap[b]? =w.heap[b]?:=fun b hb=>by rw[hw,Array.getElem?_push];rw[if_neg (by omega)]
 have gv:w'.heap.size=w.heap.size+1:=by rw[hw];simp
 have fu:∀b o,b<w.heap.size→yS w' b o=yS w b o:=fun b o hb=>by simp[yS,World.cell?,gH b hb]
 have gK:Blk w w':=fun b cs e' h=>⟨cs,by rw[gH b (Km.1 h).1];exact h,rfl⟩
 have gp:=hm.one
 generalize gn:G.nb d w.heap.size xs src φ f gX=G'
 have ghd:∀i z,G'.hd d (z++[i])=f i z:=fun i z=>by rw[←gn];simp[Gh.nb]
 have gad:∀g,(T.agg xs).inT g=jc→G'.ad d g.reverse=⟨w.heap.size,(T.agg xs).offT g,jb⟩:=fun g hg=>by rw[←gn];simp[Gh.nb,hg]
 have gadm:∀i x q z,src i=ja (x,q)→(T.agg xs).inT (i::z.reverse)=jd→G'.ad d (z++[i])=G.ad x (z++q):=fun i x q z hs gJ=>by rw[←gn];simp[Gh.nb,gJ,hs]
 have glb:∀o p,zCd xs [] 0 o=ja p→G'.lb w.heap.size o=ja (jd,d,p):=fun o p h=>by rw[←gn];simp[Gh.nb,h]
 have glbm:∀b o fl x z z',G.lb b o=ja (fl,x,z)→φ x z=ja z'→G'.lb b o=ja (fl,d,z'):=fun b o fl x z z' h1 h2=>by have:=(hm.lb b o _ h1).1;rw[←gn];simp[Gh.nb,h1,h2,show b≠w.heap.size from by omega]
 have gowm:∀b x z z',G.ow b=ja (x,z)→φ x z=ja z'→G'.ow b=ja (d,z'):=fun b x z z' h1 h2=>by have:=(hm.ow b _ h1).1;rw[←gn];simp[Gh.nb,h1,h2,show b≠w.heap.size from by omega]
 have gf:∀s p,Off ((d,0)::chg) s p→s≠d:=fun s p h e=>absurd (h 0 (by simp[e])) (by simp)
 have gA:qU ((d,0)::chg) G w G' w':=by
  refine⟨fun s p h=>?_,fun s p h=>?_,fun b o fl s p _ hl h=>⟨?_,fu b o (hm.lb b o _ hl).1⟩,fun b s p hl h=>?_,gK⟩
  ·rw[←gn];simp[Gh.nb,gf s p h]
  ·rw[←gn];simp[Gh.nb,gf s p h]
  ·have:=(hm.lb b o _ hl).1
   rw[←gn];simp[Gh.nb,hl,dp s p h,show b≠w.heap.size from by omega]
  ·have:=(hm.ow b _ hl).1
   rw[←gn];simp[Gh.nb,hl,dp s p h,show b≠w.heap.size from by omega]
 refine⟨gA,?_,?_,?_,eB⟩
 ·
  have hB:zCm Γ w' w.heap.size:=⟨by omega,.inl hm.sz,by
   cases gB:Γ.St w.heap.size with
   |none=>rfl
   |some x=>have:=hm.st _ x gB;simp at this⟩
  have fN:∀b,zCm Γ w b→zCm Γ w' b:=fun b h=>⟨by have:=h.1;omega,h.2⟩
  refine⟨fun s p=>?_,fun b o l hl=>?_,fun b l hl=>?_,fun b x hx=>?_,fun b h1 h2=>?_,by have:=hm.sz;omega,hm.bk.trans gK ho hq⟩
  ·rw[←gn]
   simp only[Gh.nb];split
   ·split
    ·exact hf _ _
    ·exact hh
   ·exact gp s p
  ·rw[←gn]at hl
   simp only[Gh.nb]at hl;split at hl
   ·rename_i hb;subst hb;exact hB
   ·split at hl
    ·rename_i hg;exact fN b (hm.lb b o _ hg)
    ·cases hl
  ·rw[←gn]at hl
   simp only[Gh.nb]at hl;split at hl
   ·rename_i hb;subst hb;exact hB
   ·split at hl
    ·rename_i hg;exact fN b (hm.ow b _ hg)
    ·cases hl
  ·have:=hm.st b x hx
   rw[gH b (Km.1 this).1];exact this
  ·rw[gH b (Jbf h1 hm.sz)]
   exact hm.fr b h1 h2
 ·
  refine zG5 xs [] 0 w.heap.size 0 gE (fun i x hx g hg=>?_) (fun i p' _ hp=>by simpa using glb i p' hp) (fun i v hv=>?_)
  ·have:=gad (i::g) (by simp only[T.inT,hx];exact hg)
   simpa[T.offT,hx]using this
  ·have:=cy G' ghd i v hv
   rw[Jg];simp[yS,World.cell?,eB,this]
 ·
  refine zOx xs [] 0 (fun i u hu=>?_);rw[Jg];cases hs:src i with
  |none=>exact aW i u hu hs G' w' (fun z=>ghd i z)
  |some xq=>
   obtain⟨x,q⟩:=xq;obtain⟨h1,h2,h3,h4⟩:=ug i u x q hu hs;have gJ:∀g,(T.agg xs).inT (i::g)=u.inT g:=fun g=>by simp only[T.inT,hu]
   refine zKJ u q [i] (okTups_get xs gE i u hu) ⟨fun z=>by rw[ghd,h1],fun z hz=>gadm i x q z hs (by rw[gJ];exact hz),fun b o fl z hz hl=>⟨glbm b o fl x _ _ hl (hφ i u x q z hu hs),fu b o (hm.lb b o _ hl).1⟩,
    fun b z hl=>gowm b x _ _ hl (hφ i u x q z hu hs),gK⟩ (xE.mono (fun _ _=>False.elim) u h3) h2
where okTups_get:(xs:List T)→yU xs=jc→ ∀(i:Nat)(x:T),xs[i]? =ja x→x.okTup=jc
 | [],_,_,_,h=>by simp at h
 |y::ys,hk,i,x,h=>by
  simp only[yU,J4]at hk;cases i with
  |zero=>simp at h;subst h;exact hk.1
  |succ i=>exact okTups_get ys hk.2 i x (by simpa using h)
end Go.Ab

namespace Go.Ab
open Go
inductive yV where
 |slot (s:Nat) (t:T)
 |zero (u:T)
def yV.tree:yV→T
 |.slot _ t=>t
 |.zero u=>u
def sO:T→Bool
 |.lit _|.ro _=>jd
 |_=>jc
mutual
def T.zOk:T→Bool
 |.lit v=>v.oneCell'
 |.sl _ xs=>xs.isEmpty
 |.agg xs=>zAi xs
 |.any|.ro _|.same _ _|.addr _ _|.sub _ _ _ _ _|.ptr _|.tup _=>jd
def zAi:List T→Bool
 | []=>jc
 |x::xs=>x.zOk&&zAi xs
end
def zhd:T→List Nat→Value
 |.agg xs,i::f=>match xs[i]? with
  |some x=>zhd x f
  |none=>.bool jd
 |.lit v,_=>v
 |.sl _ _,_=>.slice jb 0 0
 |.agg _,[] |.any,_|.ro _,_|.same _ _,_|.addr _ _,_|.sub _ _ _ _ _,_|.ptr _,_|.tup _,_=>.bool jd
termination_by structural _ f=>f
mutual
def tM:T→List Value
 |.lit v=>[v]
 |.sl _ _=>[.slice jb 0 0]
 |.agg xs=>sD xs
 |.any|.ro _|.same _ _|.addr _ _|.sub _ _ _ _ _|.ptr _|.tup _=>[]
def sD:List T→List Value
 | []=>[]
 |x::xs=>tM x++sD xs
end
section
variable {St:Stb}{G:Gh}{w:World}{d:Nat}
mutual
theorem zJ4:(u:T)→ ∀(p:List Nat),u.zOk=jc→(∀z,G.hd d (z++p)=jP (zhd u z.reverse))→R St G w d u p
 |.lit v,p,h,hd=>by
  simp only[T.zOk,R]at h ⊢
  have:=hd [];rw[Ji]at this;rw[this];exact zAh h
 |.sl k xs,p,h,hd=>by simp only[T.zOk,Jbu]at h;subst h;have:=hd [];rw[Ji]at this;simp only[R];exact .inl ⟨trivial,jb,by rw[this];rfl⟩
 |.agg xs,p,h,hd=>by
  simp only[T.zOk,R]at h ⊢
  exact zOy xs p 0 h (fun i x hx z=>by rw[Jg];have:=hd (z++[i]);simp only[Ja,Jp,Ji,Hs,H2,Lg,zhd,hx]at this;exact this)
 |.any,_,h,_|.ro _,_,h,_|.same _ _,_,h,_|.addr _ _,_,h,_|.sub _ _ _ _ _,_,h,_|.ptr _,_,h,_|.tup _,_,h,_=>by simp[T.zOk]at h
theorem zOy:(xs:List T)→ ∀(p:List Nat)(j:Nat),zAi xs=jc→(∀i x,xs[i]? =ja x→ ∀z,G.hd d (z++((j+i)::p))=jP (zhd x z.reverse))→RF St G w d xs p j
 | [],_,_,_,_=>by simp only[RF]
 |x::xs,p,j,h,hd=>by
  simp only[zAi,J4,RF]at h ⊢
  exact⟨zJ4 x (j::p) h.1 (by simpa using hd 0 x (by simp)),zOy xs p (j+1) h.2 (fun i y hy z=>by
   have:=hd (i+1) y (by simpa using hy) z
   rwa [show j+1+i=j+(i+1)from by omega])⟩
end
end
section
variable {G:Gh}{d:Nat}
mutual
theorem zFl:(u:T)→ ∀(p:List Nat),u.zOk=jc→(∀z,G.hd d (z++p)=jP (zhd u z.reverse))→vals G d u p=tM u
 |.lit v,p,h,hd=>by
  simp only[T.zOk,vals,tM]at h ⊢
  have:=hd [];rw[Ji]at this;rw[this];simp[zhd,zAh h]
 |.sl k xs,p,h,hd=>by have:=hd [];rw[Ji]at this;simp only[vals,tM];rw[this];simp[zhd,jP,Value.oneCell']
 |.agg xs,p,h,hd=>by
  simp only[T.zOk,vals,tM]at h ⊢
  exact zDN xs p 0 h (fun i x hx z=>by rw[Jg];have:=hd (z++[i]);simp only[Ja,Jp,Ji,Hs,H2,Lg,zhd,hx]at this;exact this)
 |.any,_,h,_|.ro _,_,h,_|.same _ _,_,h,_|.addr _ _,_,h,_|.sub _ _ _ _ _,_,h,_|.ptr _,_,h,_|.tup _,_,h,_=>by simp[T.zOk]at h
theorem zDN:(xs:List T)→ ∀(p:List Nat)(j:Nat),zAi xs=jc→(∀i x,xs[i]? =ja x→ ∀z,G.hd d (z++((j+i)::p))=jP (zhd x z.reverse))→yF G d xs p j=sD xs
 | [],_,_,_,_=>by simp only[yF,sD]
 |x::xs,p,j,h,hd=>by
  simp only[zAi,J4,yF,sD]at h ⊢
  rw[zFl x (j::p) h.1 (by simpa using hd 0 x (by simp)),zDN xs p (j+1) h.2 (fun i y hy z=>by
   have:=hd (i+1) y (by simpa using hy) z
   rwa [show j+1+i=j+(i+1)from by omega])]
end
end
mutual
theorem zBk:(u:T)→u.zOk=jc→yD u∧u.okTup=jc
 |.lit _,_=>by simp[yD,xE,T.okTup]
 |.sl _ xs,h=>by simp only[T.zOk,Jbu]at h;subst h;simp[yD,xE,wB,T.okTup]
 |.agg xs,h=>by simp only[T.zOk]at h;simpa only[yD,xE,T.okTup]using zBF xs h
 |.any,h|.ro _,h|.same _ _,h|.addr _ _,h|.sub _ _ _ _ _,h|.ptr _,h|.tup _,h=>by simp[T.zOk]at h
theorem zBF:(xs:List T)→zAi xs=jc→xJ xs∧yU xs=jc
 | [],_=>by simp[xJ,wB,yU]
 |x::xs,h=>by simp only[zAi,J4]at h;simp only[xJ,wB,yU,J4];exact⟨⟨(zBk x h.1).1,(zBF xs h.2).1⟩,(zBk x h.1).2,(zBF xs h.2).2⟩
end
mutual
theorem wW:(u:T)→u.zOk=jc→(tM u).length=u.size
 |.lit _,_|.sl _ _,_=>by simp[tM,T.size]
 |.agg xs,h=>by simp only[T.zOk]at h;simp only[tM,T.size];exact zAX xs h
 |.any,h|.ro _,h|.same _ _,h|.addr _ _,h|.sub _ _ _ _ _,h|.ptr _,h|.tup _,h=>by simp[T.zOk]at h
theorem zAX:(xs:List T)→zAi xs=jc→(sD xs).length=T.sizes xs
 | [],_=>by simp[sD,T.sizes]
 |x::xs,h=>by simp only[zAi,J4]at h;simp only[sD,J5,T.sizes,wW x h.1,zAX xs h.2]
end
def zGV(ps:List yV)(i:Nat):Option (Nat×List Nat):=
 match ps[i]? with
 |some (.slot s t)=>if sO t then ja (s,[])else jb
 |_=>jb
def zGW:List yV→Nat→Nat→Option Nat
 | [],_,_=>jb
 |.slot x t::r,i,s=>if sO t&&x==s then ja i else zGW r (i+1) s
 |.zero _::r,i,s=>zGW r (i+1) s
def zI2(ps:List yV)(s:Nat)(z:List Nat):Option (List Nat):=
 match zGW ps 0 s with
 |some i=>ja (z++[i])
 |none=>jb
def pWr(d:Nat):List yV→Nat→Wr
 | [],_=>[]
 |.slot s t::r,i=>if sO t then(s,ja (cpT d t [i]))::pWr d r (i+1)else pWr d r (i+1)
 |.zero _::r,i=>pWr d r (i+1)
def xZ:List yV→List Nat
 | []=>[]
 |.slot s t::r=>if sO t then s::xZ r else xZ r
 |.zero _::r=>xZ r
def sP(ps:List yV):Chg:=(xZ ps).map fun s=>(s,1)
def qD(G:Gh):yV→List Value
 |.slot s t=>vals G s t []
 |.zero u=>tM u
def pHd(G:Gh)(ps:List yV)(i:Nat)(z:List Nat):Value:=
 match ps[i]? with
 |some (.slot s _)=>G.hd s z
 |some (.zero u)=>jP (zhd u z.reverse)
 |none=>.bool jd
structure tP (E:Env) (d:Nat) (ps:List yV):Prop where
 slot:∀s t,yV.slot s t∈ps→E s=ja t∧yD t∧t.okTup=jc
 zero:∀u,yV.zero u∈ps→u.zOk=jc
 dist:(d::xZ ps).Nodup
theorem zBl:(ps:List yV)→ ∀(i0 i s:Nat)(t:T),ps[i]? =ja (.slot s t)→sO t=jc→(xZ ps).Nodup→zGW ps i0 s=ja (i0+i)
 | [],_,_,_,_,h,_,_=>by simp at h
 |.slot x u::r,i0,i,s,t,h,hm,hn=>by
  cases i with
  |zero=>simp at h;obtain⟨rfl,rfl⟩:=h;simp[zGW,hm]
  |succ i=>
   simp only[Uy]at h;have gJ:s∈xZ r:=pSlots_mem r i s t h hm;simp only[zGW]
   by_cases hu:sO u=jc
   ·simp only[xZ,hu,if_true,Lj]at hn
    have:x≠s:=fun e=>hn.1 (e▸gJ)
    simp only[hu,Bool.true_and,beq_iff_eq,this,if_false];rw[zBl r (i0+1) i s t h hm hn.2]
    congr 1;omega
   ·simp only[xZ,hu]at hn
    simp only[hu,Jcu,Gk,if_false];rw[zBl r (i0+1) i s t h hm (by simpa using hn)]
    congr 1;omega
 |.zero u::r,i0,i,s,t,h,hm,hn=>by
  cases i with
  |zero=>simp at h
  |succ i=>
   simp only[Uy]at h;simp only[zGW];rw[zBl r (i0+1) i s t h hm (by simpa only[xZ]using hn)]
   congr 1;omega
where pSlots_mem:(ps:List yV)→ ∀(i s:Nat)(t:T),ps[i]? =ja (.slot s t)→sO t=jc→s∈xZ ps
 | [],_,_,_,h,_=>by simp at h
 |.slot x u::r,i,s,t,h,hm=>by
  cases i with
  |zero=>simp at h;obtain⟨rfl,rfl⟩:=h;simp[xZ,hm]
  |succ i=>
   have:=pSlots_mem r i s t (by simpa using h) hm;simp only[xZ];split<;>simp[this]
 |.zero u::r,i,s,t,h,hm=>by
  cases i with
  |zero=>simp at h
  |succ i=>simpa only[xZ]using pSlots_mem r i s t (by simpa using h) hm
theorem zCZ:(ps:List yV)→ ∀(i0 s:Nat),s∉xZ ps→zGW ps i0 s=jb
 | [],_,_,_=>by simp only[zGW]
 |.slot x u::r,i0,s,h=>by
  simp only[zGW]
  by_cases hu:sO u=jc
  ·simp only[xZ,hu,if_true,Jc,not_or]at h
   simp only[hu,Bool.true_and,beq_iff_eq,Ne.symm h.1,if_false];exact zCZ r _ s h.2
  ·simp only[xZ,hu]at h
   simp only[hu,Jcu,Gk,if_false];exact zCZ r _ s (by simpa using h)
 |.zero u::r,i0,s,h=>by simp only[zGW];exact zCZ r _ s (by simpa only[xZ]using h)
theorem zCp:(ps:List yV)→ ∀(d i0 s:Nat)(x:Option T),(pWr d ps i0).find s=ja x→ ∃i t,ps[i]? =ja (.slot s t)∧sO t=jc∧x=ja (cpT d t [i0+i])
 | [],_,_,_,_,h=>by simp[pWr,Wr.find]at h
 |.slot y u::r,d,i0,s,x,h=>by
  simp only[pWr]at h;split at h
  ·rename_i hu
   simp only[Wr.find]at h;split at h
   ·rename_i he;subst he;simp at h;exact⟨0,u,by simp,hu,by simpa using h.symm⟩
   ·obtain⟨i,t,h1,h2,h3⟩:=zCp r d (i0+1) s x h
    exact⟨i+1,t,by simpa using h1,h2,by rw[h3];congr 3;omega⟩
  ·obtain⟨i,t,h1,h2,h3⟩:=zCp r d (i0+1) s x h
   exact⟨i+1,t,by simpa using h1,h2,by rw[h3];congr 3;omega⟩
 |.zero u::r,d,i0,s,x,h=>by simp only[pWr]at h;obtain⟨i,t,h1,h2,h3⟩:=zCp r d (i0+1) s x h;exact⟨i+1,t,by simpa using h1,h2,by rw[h3];congr 3;omega⟩
theorem zCq:(ps:List yV)→ ∀(d i0 s:Nat),(pWr d ps i0).find s=jb→s∉xZ ps
 | [],_,_,_,_=>by simp[xZ]
 |.slot y u::r,d,i0,s,h=>by
  simp only[pWr]at h;simp only[xZ];split at h
  ·rename_i hu
   simp only[Wr.find]at h;split at h
   ·cases h
   ·rename_i gf
    simp only[hu,if_true,Jc,not_or];exact⟨fun e=>gf e.symm,zCq r d _ s h⟩
  ·rename_i hu
   simp only[hu];simpa using zCq r d _ s h
 |.zero u::r,d,i0,s,h=>by simp only[pWr]at h;simpa only[xZ]using zCq r d _ s h
section
variable {Γ:Ctx}{E:Env}{G:Gh}{tmps:Array Value}{w:World}{d:Nat}{ps:List yV}
theorem zGf(g9:Rep Γ E G tmps w)(h:tP E d ps):
  yU (ps.map yV.tree)=jc∧xJ (ps.map yV.tree)∧(∀i z,(pHd G ps i z).oneCell'=jc)∧
  (∀(i:Nat) u x q(z:List Nat),(ps.map yV.tree)[i]? =ja u→zGV ps i=ja (x,q)→zI2 ps x (z++q)=ja (z++[i]))∧
  (∀(i:Nat) u x q,(ps.map yV.tree)[i]? =ja u→zGV ps i=ja (x,q)→(∀z,pHd G ps i z=G.hd x (z++q))∧R Γ.St G w x u q∧yD u∧x≠d)∧
  (∀(i:Nat) u,(ps.map yV.tree)[i]? =ja u→zGV ps i=jb→ ∀(G2:Gh)(w2:World),(∀z,G2.hd d (z++[i])=pHd G ps i z)→R Γ.St G2 w2 d u [i])∧
  (∀s p,(∀n,(s,n)∉(d,0)::sP ps)→zI2 ps s p=jb):=by
 have mR:=Lj.1 h.dist;refine⟨?_,?_,?_,?_,?_,?_,?_⟩
 ·have:∀qs:List yV,(∀p∈qs,p∈ps)→yU (qs.map yV.tree)=jc:=by
   intro qs
   induction qs with
   |nil=>intro _;rfl
   |cons q qs ih=>
    intro hq;simp only[Jv,yU,J4];refine⟨?_,ih fun p hp=>hq p (by simp[hp])⟩;cases q with
    |slot s t=>exact(h.slot s t (hq _ (by simp))).2.2
    |zero u=>exact(zBk u (h.zero u (hq _ (by simp)))).2
  exact this ps fun _ hp=>hp
 ·have:∀qs:List yV,(∀p∈qs,p∈ps)→xJ (qs.map yV.tree):=by
   intro qs
   induction qs with
   |nil=>intro _;trivial
   |cons q qs ih=>
    intro hq;simp only[Jv,xJ,wB];refine⟨?_,ih fun p hp=>hq p (by simp[hp])⟩;cases q with
    |slot s t=>exact(h.slot s t (hq _ (by simp))).2.1
    |zero u=>exact(zBk u (h.zero u (hq _ (by simp)))).1
  exact this ps fun _ hp=>hp
 ·intro i z
  unfold pHd;split
  ·exact g9.mem.one _ _
  ·exact zBj _
  ·rfl
 ·intro i u x q z hu hs
  rw[K1]at hu;unfold zGV at hs;cases hp:ps[i]? with
  |none=>simp[hp]at hu
  |some p=>
   cases p with
   |zero v=>simp[hp]at hs
   |slot s t=>
    simp only[hp]at hs;split at hs
    ·rename_i hm
     simp at hs;obtain⟨rfl,rfl⟩:=hs;simp[zI2,zBl ps 0 i s t hp hm mR.2]
    ·cases hs
 ·intro i u x q hu hs
  rw[K1]at hu;unfold zGV at hs;cases hp:ps[i]? with
  |none=>simp[hp]at hu
  |some p=>
   cases p with
   |zero v=>simp[hp]at hs
   |slot s t=>
    simp only[hp]at hs;split at hs
    ·rename_i hm
     simp at hs;obtain⟨rfl,rfl⟩:=hs;simp[hp,yV.tree]at hu;subst hu;obtain⟨h1,h2,h3⟩:=h.slot s t (Kh hp);refine⟨fun z=>by simp[pHd,hp],(g9.ent s t h1).2.1,h2,fun e=>mR.1 ?_⟩;subst e;exact zBl.pSlots_mem ps i s t hp hm
    ·cases hs
 ·intro i u hu hs G2 w2 eJ
  rw[K1]at hu;unfold zGV at hs;cases hp:ps[i]? with
  |none=>simp[hp]at hu
  |some p=>
   cases p with
   |zero v=>
    simp[hp,yV.tree]at hu;subst hu;exact zJ4 v [i] (h.zero v (Kh hp)) (fun z=>by rw[eJ z];simp[pHd,hp])
   |slot s t=>
    simp only[hp]at hs;split at hs
    ·cases hs
    ·rename_i hm
     simp[hp,yV.tree]at hu;subst hu;have h1:=(g9.ent s t (h.slot s t (Kh hp)).1).2.1;have h2:G2.hd d [i]=G.hd s []:=by have:=eJ [];simpa[pHd,hp]using this
     cases t<;>simp[sO]at hm<;>simp only[R]at h1 ⊢ <;>rw[h2]<;>exact h1
 ·intro s p gF
  have:s∉xZ ps:=fun gJ=>gF 1 (by simp[sP,gJ])
  simp[zI2,zCZ ps 0 s this]
theorem zDO(g9:Rep Γ E G tmps w)(h:tP E d ps)(G2:Gh):∀(qs:List yV)(i0:Nat),(∀i q,qs[i]? =ja q→ps[i0+i]? =ja q)→(∀i z,G2.hd d (z++[i])=pHd G ps i z)→
  yF G2 d (qs.map yV.tree) [] i0=qs.flatMap (qD G)
 | [],_,_,_=>by simp[yF]
 |q::qs,i0,hq,eJ=>by
  have h0:ps[i0]? =ja q:=by simpa using hq 0 q (by simp)
  have ih:=zDO g9 h G2 qs (i0+1) (fun i p hp=>by rw[show i0+1+i=i0+(i+1)from by omega];exact hq (i+1) p (by simpa using hp)) eJ;simp only[Jv,yF,Ln,ih]
  congr 1
  cases q with
  |slot s t=>exact zAH t [] [i0] (fun z=>by rw[eJ];simp[pHd,h0])
  |zero u=>exact zFl u [i0] (h.zero u (Kh h0)) (fun z=>by rw[eJ];simp[pHd,h0])
end
end Go.Ab

namespace Go.Ab
open Go
section
variable {P:Program}{Γ:Ctx}{E:Env}{o:Oper}{d:Nat}
theorem zIM{G G':Gh}{w':World}{s i:Nat}{t:T}{v:Option Value}(hv:v=ja (mkV G s t []))(gR:∀xs,t≠.tup xs)(hs:∀p,G'.hd s p=G.hd s p)(me:∀z,G'.hd d (z++[i])=G.hd s z)
  (hr:R Γ.St G' w' d t [i]):Ent Γ G' w' v s (cpT d t [i]):=by
 have hz:∀z,G'.hd s (z++[])=G'.hd d (z++[i]):=fun z=>by rw[J9,hs,me]
 refine⟨?_,?_,qQ d t [i]⟩
 ·rw[hv,zAy (G:=G') (G':=G') t [i] [] gR hz,kH G s t [] gR,zBC t [] [i] (fun z=>by rw[me,J9])]
 ·exact zDJ (G:=G') (G':=G') (fun _=>rfl) t [i] [] hz gR (xE.triv (fun _ _=>⟨rfl,rfl⟩) _) hr
theorem zBm{G:Gh}{a:Act}{w w':World}{ps:List yV}(g9:Rep Γ E G a.tmps w)(h:tP E d ps)(hd:d<Γ.N){cells:Array Value}{e:TypeId}(hw:w'.heap=w.heap.push (.cells cells e))
  (cy:∀(o:Nat)(v:Value),(ps.flatMap (qD G))[o]? =ja v→cells[o]? =ja v)
  (rt:T)(gX:Value)
  (fk:(∃k cap,rt=.sl k (ps.map yV.tree)∧(∀p∈ps,p.tree.size=k)∧gX=.slice (ja ⟨w.heap.size,0,jb⟩) ps.length cap∧ps.length≤cap∧cap≤maxLen∧cells.size=cap*k)∨
   ∃p,ps=[p]∧rt=.ptr p.tree∧gX=.pointer (ja ⟨w.heap.size,0,jb⟩)∧cells.size=p.tree.size)
  (ho:w'.os=w.os:=by rfl)(hq:w'.output=w.output:=by rfl):
  ∃G',Rep Γ (E.app ((d,ja rt)::pWr d ps 0) ((d,0)::sP ps)) G' (a.tmps.setIfInBounds d gX) w':=by
 obtain⟨f1,f0,f2,f3,f4,f5,f6⟩:=zGf g9 h;have hh:gX.oneCell'=jc:=by rcases fk with⟨k,cap,_,_,rfl,_⟩|⟨p,_,_,rfl,_⟩<;>rfl
 have mR:=Lj.1 h.dist;obtain⟨g1,g2,g3,g4,g5⟩:=zCY g9.mem hw d (ps.map yV.tree) (zGV ps) (zI2 ps) (pHd G ps) gX (sP ps) f1 f2 hh f3 f4 f5
  (fun G2 eJ o v hv=>cy o v (by rw[zDO g9 h G2 ps 0 (fun i q hq=>by simpa using hq) eJ]at hv;exact hv)) f6 (ho:=ho) (hq:=hq)
 refine⟨_,vH g9 (by simp) g1 g2 ?_ ?_⟩
 ·intro s hs
  simp only[Wr.find]at hs;split at hs
  ·cases hs
  ·rename_i gf
   have dM:=zCq ps d 0 s hs;refine⟨fun n hn=>?_,by rw[Jf];simp[gf]⟩;simp only[Jc,Jb2.injEq,sP,Js]at hn;rcases hn with⟨e1,_⟩|⟨y,hy,e1,_⟩
   ·exact gf e1.symm
   ·exact dM (e1▸hy)
 ·intro s t hs
  simp only[Wr.find]at hs;split at hs
  ·rename_i he
   subst he;simp at hs;subst hs;have px:(G.nb d w.heap.size (ps.map yV.tree) (zGV ps) (zI2 ps) (pHd G ps) gX).hd d []=gX:=by simp[Gh.nb]
   have how:(G.nb d w.heap.size (ps.map yV.tree) (zGV ps) (zI2 ps) (pHd G ps) gX).ow w.heap.size=ja (d,[]):=by simp[Gh.nb]
   refine⟨?_,?_,?_⟩
   ·rw[Jf]
    rcases fk with⟨k,cap,rfl,_⟩|⟨p,_,rfl,_⟩<;>simp[g9.size,hd,mkV,px]
   ·rcases fk with⟨k,cap,rfl,hk,h1,h2,h3,h4⟩|⟨p,rfl,rfl,h1,h4⟩
    ·simp only[R]
     rw[px];refine .inr ⟨w.heap.size,cap,cells,e,by simpa using h1,g5,by simpa using h2,h3,by omega,how,?_,zRv _ _ _ _ _ (fun x hx=>?_) g3 g4⟩
     ·intro o ho _
      have gv:T.sizes (ps.map yV.tree)=(ps.map yV.tree).length*k:=wU _ (fun x hx=>by obtain⟨p,hp,rfl⟩:=Js.1 hx;exact hk p hp)
      simp[Gh.nb,zDM (ps.map yV.tree) [] 0 o (by omega)]
     ·obtain⟨p,hp,rfl⟩:=Js.1 hx
      exact hk p hp
    ·simp only[R]
     rw[px];simp only[Jv,Ly,vG,RF]at g3 g4;exact⟨w.heap.size,cells,e,h1,g5,h4,how,g3.1,g4.1⟩
   ·rcases fk with⟨k,cap,rfl,_⟩|⟨p,rfl,rfl,_⟩
    ·simp only[Top];exact f0
    ·simp only[Top];exact f0.1
  ·rename_i gf
   obtain⟨i,u,h1,h2,h3⟩:=zCp ps d 0 s _ hs;simp only[Jg]at h3;simp at h3;subst h3;obtain⟨h4,h5,h6⟩:=h.slot s u (Kh h1);have gR:∀xs,u≠.tup xs:=by rintro xs rfl;simp[T.okTup]at h6
   have hi:(ps.map yV.tree)[i]? =ja u:=by simp[h1,yV.tree]
   have hr:=zAV _ [] 0 i u g4 hi;simp only[Jg]at hr;refine zIM (G:=G) (by rw[Jf];simp only[gf,if_false];exact(g9.ent s u h4).1) gR (fun p=>?_) (fun z=>?_) hr
   ·simp[Gh.nb,show s≠d from fun e=>gf e.symm]
   ·simp[Gh.nb,pHd,h1]
inductive kV (E:Env):Operand→yV→Prop where
 |slot (s:Nat) (t:T):kV E (.tmp s) (.slot s t)
 |zero (v:Value) (u:T) (h:tM u=v.cells.toList):kV E (.const v) (.zero u)
theorem zAz{G:Gh}{a:Act}{w:World}{ps:List yV}(g9:Rep Γ E G a.tmps w)(h:tP E d ps){x:Operand}{p:yV}(hp:p∈ps)(hx:kV E x p):
  (a.eval x).cells.toList=qD G p:=by
 cases hx with
 |slot s t=>
  obtain⟨h1,h2,h3⟩:=h.slot s t hp;obtain⟨h4,_,_⟩:=g9.ent s t h1;rw[wK h4];cases t with
  |agg xs=>simp[mkV,Value.cells,vals,qD]
  |tup xs=>simp[T.okTup]at h3
  |_=>
   have:=g9.mem.one s [];simp only[mkV,vals,qD]
   generalize G.hd s []=v at this
   cases v<;>simp[Value.oneCell',Value.cells]at this ⊢
 |zero v u h=>simp[Act.eval,h,qD]
def uK(E:Env):List Operand→List yV→Prop
 | [],[]=>True
 |x::xs,p::ps=>kV E x p∧uK E xs ps
 |_,_=>False
theorem uK.length:(xs:List Operand)→(ps:List yV)→uK E xs ps→xs.length=ps.length
 | [],[],_=>rfl
 |_::xs,_::ps,h=>by simp[uK.length xs ps h.2]
 | [],_::_,h=>by simp[uK]at h
 |_::_,[],h=>by simp[uK]at h
theorem uK.mem:(xs:List Operand)→(ps:List yV)→uK E xs ps→ ∀x∈xs,∃p,p∈ps∧kV E x p
 | [],_,_,x,hx=>by simp at hx
 |y::xs,p::ps,h,x,hx=>by
  rcases Jc.1 hx with rfl|hx
  ·exact⟨p,by simp,h.1⟩
  ·obtain⟨q,hq,hxq⟩:=uK.mem xs ps h.2 x hx;exact⟨q,by simp[hq],hxq⟩
 |_::_,[],h,_,_=>by simp[uK]at h
theorem zGX{G:Gh}{a:Act}{w:World}{ps:List yV}(g9:Rep Γ E G a.tmps w)(h:tP E d ps):∀(xs:List Operand)(qs:List yV),(∀q∈qs,q∈ps)→uK E xs qs→
  ((xs.map a.eval).flatMap fun v=>v.cells.toList)=qs.flatMap (qD G)
 | [],[],_,_=>rfl
 |x::xs,q::qs,hq,hx=>by simp only[Jv,Ln,zAz g9 h (hq q (by simp)) hx.1,zGX g9 h xs qs (fun p hp=>hq p (by simp[hp])) hx.2]
 | [],_::_,_,hx=>by simp[uK]at hx
 |_::_,[],_,hx=>by simp[uK]at hx
theorem zRw(T':TypeId)(ti:TypeInfo)(z:Value)(u:T)(ho:o.op=.alloc T')(gk:o.dst=ja d)(hd:d<Γ.N)
  (hi:P.info? T'=ja ti)(hz:ti.zero=ja z)(hu:u.zOk=jc)(hv:tM u=z.cells.toList)(gv:z.cells.size=u.size):
  wN P Γ o E (E.app [(d,ja (.ptr u))] [(d,0)]):=by
 refine wN.value gk fun a w G g9=>?_
 have hH:tP E d [.zero u]:=⟨fun s t h=>by simp at h,fun v h=>by simp at h;subst h;exact hu,by simp[xZ]⟩;obtain⟨G',gn⟩:=zBm (w':=w.alloc (.cells z.cells T')) g9 hH hd (cells:=z.cells) (e:=T') rfl (fun o v h=>by simpa[hv,qD]using h) (.ptr u) (.pointer (ja ⟨w.heap.size,0,jb⟩)) (.inr ⟨.zero u,rfl,rfl,rfl,gv⟩);refine⟨_,_,?_,G',by simpa[pWr,sP,xZ]using gn⟩;simp[execOp,ho,Instr.alloc,zeroValue,typeInfo,hi,hz,newVar,newRow]
theorem zXg(T':TypeId)(x:Operand)(p:yV)(ho:o.op=.box T' x)(gk:o.dst=ja d)(hd:d<Γ.N)(hx:kV E x p)(hH:tP E d [p]):
  wN P Γ o E (E.app ((d,ja (.ptr p.tree))::pWr d [p] 0) ((d,0)::sP [p])):=by
 refine wN.value gk fun a w G g9=>?_
 have hc:=zAz g9 hH (by simp) hx;have gv:(a.eval x).cells.size=p.tree.size:=by
  rw[←Kk,hc];cases p with
  |slot s t=>
   obtain⟨_,_,h3⟩:=hH.slot s t (by simp);show(vals G s t []).length=t.size;exact wT t [] (by rintro xs rfl;simp[T.okTup]at h3)
  |zero u=>exact wW u (hH.zero u (by simp))
 obtain⟨G',gn⟩:=zBm (w':=w.alloc (.cells (a.eval x).cells T')) g9 hH hd (cells:=(a.eval x).cells) (e:=T') rfl (fun o v h=>by rw[←K9,hc];simpa using h) (.ptr p.tree) (.pointer (ja ⟨w.heap.size,0,jb⟩)) (.inr ⟨p,rfl,rfl,rfl,gv⟩)
 refine⟨_,_,?_,G',gn⟩;simp[execOp,ho,Instr.box,newVar,newRow]
theorem zI3(t e:TypeId)(ti:TypeInfo)(z:Value)(k n:Nat)(xs:List Operand)(ps:List yV)(ho:o.op=.buildSlice t n ((xs.zipIdx 0).map fun x=>(x.2,x.1)).toArray)(gk:o.dst=ja d)(hd:d<Γ.N)
  (ht:P.underlying t=ja (.slice e))(hi:P.info? e=ja ti)(hz:ti.zero=ja z)(hk:ti.size=k)(fh:0<k)(hn:xs.length=n)(aY:0<n)(tj:n*k≤2 ^ 24)
  (hx:uK E xs ps)(hH:tP E d ps)(gv:∀p∈ps,p.tree.size=k):
  wN P Γ o E (E.app ((d,ja (.sl k (ps.map yV.tree)))::pWr d ps 0) ((d,0)::sP ps)):=by
 refine wN.value gk fun a w G g9=>?_
 subst hk;have gj:xs.length=ps.length:=uK.length xs ps hx;have hc:=zGX g9 hH xs ps (fun _ h=>h) hx;have p9:∀v∈xs.map a.eval,v.cells.size=ti.size:=by
  intro v hv;obtain⟨x,tf,rfl⟩:=Js.1 hv;obtain⟨p,hp,hxp⟩:=uK.mem xs ps hx x tf;rw[←Kk,zAz g9 hH hp hxp,←gv p hp];cases p with
  |slot s t=>
   obtain⟨_,_,h3⟩:=hH.slot s t hp;show(vals G s t []).length=t.size;exact wT t [] (by rintro xs rfl;simp[T.okTup]at h3)
  |zero u=>exact wW u (hH.zero u hp)
 have df:=Great.fill_whole fh (xs.map a.eval) ((Jcm (n*ti.size)).map (z.cells[· %z.cells.size]!)) p9 (by simp[hn]);have bB:((((xs.zipIdx 0).map fun x=>(x.2,x.1)).toArray).map fun(i,x)=>(i,a.eval x)).toList=((xs.map a.eval).zipIdx 0).map fun x=>(x.2,x.1):=by simp[List.zipIdx_map,Function.comp_def]
 have gy:=run_buildSlice (P:=P) w t e n _ _ ti z ht hi hz (by omega) (by have:=Jc3 aY fh;omega) (by rw[bB];exact df);have gS:((xs.map a.eval).flatMap fun v=>v.cells.toList).toArray.size=n*ti.size:=by rw[Jc6,flat_len (k:=ti.size) _ (fun v hv=>by rw[Kk];exact p9 v hv)];simp[hn]
 obtain⟨G',gn⟩:=zBm (w':=w.alloc (.cells ((xs.map a.eval).flatMap fun v=>v.cells.toList).toArray e)) g9 hH hd rfl (fun o v h=>by rw[hc];simpa using h) (.sl ti.size (ps.map yV.tree)) (.slice (ja ⟨w.heap.size,0,jb⟩) n n) (.inl ⟨ti.size,n,rfl,gv,by rw[←gj,hn],by omega,by have:n≤n*ti.size:=Jbg n fh;simp only[maxLen];omega,gS⟩)
 refine⟨_,_,?_,G',gn⟩;simp only[execOp,ho,Sem.run_bind,gy,Result.andThen_ok];rfl
where
 flat_len {k:Nat} (vs:List Value) (h:∀v∈vs,v.cells.toList.length=k):(vs.flatMap fun v=>v.cells.toList).length=vs.length*k:=by
  induction vs with
  |nil=>simp
  |cons v vs ih=>simp[Ln,ih (fun u hu=>h u (by simp[hu])),Jy];have:=h v (by simp);simp at this;omega
end
end Go.Ab

namespace Go.Ab
open Go
theorem zJ5{α β:Type}(f:α→List β)(x:α)(k:Nat)(hk:(f x).length=k)(fh:0<k):∀(n o:Nat)(v:β),((J1 n x).flatMap f)[o]? =ja v→o<n*k∧(f x)[o%k]? =ja v
 |0,o,v,h=>by simp at h
 |n+1,o,v,h=>by
  rw[Jq,Ln,L5]at h;split at h
  ·rename_i gz
   rw[hk]at gz;exact⟨by rw[Jy];omega,by rw[Nat.mod_eq_of_lt gz];exact h⟩
  ·rename_i hge
   rw[hk]at h hge;obtain⟨h1,h2⟩:=zJ5 f x k hk fh n (o-k) v h;refine⟨by rw[Jy];omega,?_⟩
   rwa [show o%k=(o-k)%k from by rw[←Nat.mod_eq_sub_mod (by omega)]]
section
variable {P:Program}{Γ:Ctx}{E:Env}{o:Oper}{d:Nat}
theorem zUE(t e:TypeId)(ti:TypeInfo)(z:Value)(u:T)(k:Nat)(x y:Operand)(n c:Nat)(kl kc:IntKind)(ho:o.op=.makeSlice t x y)(gk:o.dst=ja d)(hd:d<Γ.N)
  (ht:P.underlying t=ja (.slice e))(hi:P.info? e=ja ti)(hz:ti.zero=ja z)(hk:ti.size=k)(fh:0<k)(hu:u.zOk=jc)(hv:tM u=z.cells.toList)(ff:u.size=k)(hb:ti.bytes≤4096)
  (hx:opT E x=ja (.lit (.int kl n)))(hy:opT E y=ja (.lit (.int kc c)))(fK:n≤c)(hc:c≤68719476736):
  wN P Γ o E (E.app [(d,ja (.sl k (J1 n u)))] [(d,0)]):=by
 refine wN.value gk fun a w G g9=>?_
 have h1:=(wO g9 hx).1;have h2:=(wO g9 hy).1;subst hk;have hH:tP E d (J1 n (.zero u)):=⟨fun s t h=>by simp at h,fun v h=>by simp at h;obtain⟨_,rfl⟩:=h;exact hu,by
  have:∀m,xZ (J1 m (.zero u))=[]:=by intro m;induction m with|zero=>rfl|succ m ih=>simp[Jq,xZ,ih]
  simp[this]⟩
 have hzs:z.cells.size=ti.size:=by rw[←Kk,←hv,wW u hu,ff]
 have bY:(ti.bytes:Int)*(c:Int)≤281474976710656:=by
  have:ti.bytes*c≤4096*68719476736:=K6 hb hc;have:((ti.bytes*c:Nat):Int)≤281474976710656:=by omega
  rwa [L6]at this
 have gy:=run_make (P:=P) w t e ti z ht hi hz kl kc n c (by omega) (by omega) bY (by omega);simp only[Je]at gy;obtain⟨G',gn⟩:=zBm (w':=w.alloc (.cells (madeCells z.cells (c*ti.size)) e)) g9 hH hd rfl (fun i v h=>by
  obtain⟨h3,h4⟩:=zJ5 (qD G) (.zero u) ti.size (by simp[qD,wW u hu,ff]) fh n i v h;have h5:i<c*ti.size:=Jbf h3 (Kl _ fK);simp only[qD,hv,K9]at h4;rw[←hzs]at h4;simp[madeCells,h5,getElem!_def,h4]) (.sl ti.size (J1 n u)) (.slice (ja ⟨w.heap.size,0,jb⟩) n c)
  (.inl ⟨ti.size,c,by simp[yV.tree],fun p hp=>by simp at hp;obtain⟨_,rfl⟩:=hp;exact ff,by simp,by simpa using fK,by simp only[maxLen];omega,by simp[madeCells]⟩)
 refine⟨.slice (ja ⟨w.heap.size,0,jb⟩) n c,w.alloc (.cells (madeCells z.cells (c*ti.size)) e),?_,G',?_⟩
 ·simp only[execOp,ho,h1,h2,Sem.run_bind,gy,Result.andThen_ok]
  rfl
 ·have h6:∀m i,pWr d (J1 m (.zero u)) i=[]:=by intro m;induction m with|zero=>intro i;rfl|succ m ih=>intro i;simp[Jq,pWr,ih]
  have h7:sP (J1 n (.zero u))=[]:=by
   have:∀m,xZ (J1 m (.zero u))=[]:=by intro m;induction m with|zero=>rfl|succ m ih=>simp[Jq,xZ,ih]
   simp[sP,this]
  rw[h6,h7]at gn;exact gn
theorem zGY(t e:TypeId)(ti:TypeInfo)(k:Nat)(ho:o.op=.buildSlice t 0 #[])(gk:o.dst=ja d)(hd:d<Γ.N)
  (ht:P.underlying t=ja (.slice e))(hi:P.info? e=ja ti):wN P Γ o E (E.app [(d,ja (.sl k []))] [(d,0)]):=by
 refine wN.value gk fun a w G g9=>?_
 have hH:tP E d []:=⟨fun s t h=>by simp at h,fun v h=>by simp at h,by simp[xZ]⟩;obtain⟨G',gn⟩:=zBm (w':=w.alloc (.cells #[] e)) g9 hH hd (cells:=#[]) rfl (fun i v h=>by simp at h) (.sl k []) (.slice (ja ⟨w.heap.size,0,jb⟩) 0 0)
  (.inl ⟨k,0,rfl,fun p hp=>by simp at hp,rfl,Jo _,by simp[maxLen],by simp⟩)
 refine⟨_,_,?_,G',gn⟩;have h0:(Jcm 0:Array Nat)= #[]:=by rfl
 simp[execOp,ho,Instr.buildSlice,run_underlying ht,sizeOf,typeInfo,hi,Instr.fill,newRow,h0]
theorem zKK(k:Nat)(x:Operand)(ho:o.op=.move x∨o.op=.assign x)(hx:x=.const (.slice jb 0 0))(gk:o.dst=ja d)(hd:d<Γ.N):wN P Γ o E (E.app [(d,ja (.sl k []))] [(d,0)]):=by
 refine wN.value gk fun a w G g9=>?_
 refine⟨.slice jb 0 0,w,?_,_,vN g9 rfl hd (fun _=>.slice jb 0 0) (fun _=>rfl) (.sl k []) (.slice jb 0 0) (by simp[mkV,Gh.put]) (by simp[R,Gh.put]) (by simp[Top,xJ,wB])⟩;subst hx;rcases ho with ho|ho<;>simp[execOp,ho,Act.eval]
def Gh.nv(G:Gh)(d:Nat)(src:Nat→Option (Nat×List Nat))(φ:Nat→List Nat→Option (List Nat))(f:Nat→List Nat→Value):Gh where
 hd s z:=if s=d then(match z.getLast? with
  |some i=>f i z.dropLast
  |none=>.bool jd)else G.hd s z
 ad s z:=if s=d then(match z.getLast? with
  |some i=>(match src i with
   |some (x,q)=>G.ad x (z.dropLast++q)
   |none=>default)
  |none=>default)else G.ad s z
 lb b o:=match G.lb b o with
  |some (fl,s,z)=>(match φ s z with
   |some z'=>ja (fl,d,z')
   |none=>ja (fl,s,z))
  |none=>jb
 ow b:=match G.ow b with
  |some (s,z)=>(match φ s z with
   |some z'=>ja (d,z')
   |none=>ja (s,z))
  |none=>jb
theorem zUF{G:Gh}{a:Act}{w:World}{ps:List yV}(g9:Rep Γ E G a.tmps w)(h:tP E d ps)(hd:d<Γ.N):
  ∃G',Rep Γ (E.app ((d,ja (.agg (ps.map yV.tree)))::pWr d ps 0) ((d,0)::sP ps)) G' (a.tmps.setIfInBounds d (.agg (ps.flatMap (qD G)).toArray)) w:=by
 obtain⟨f1,f0,f2,f3,f4,f5,f6⟩:=zGf g9 h;have hm:=g9.mem;have gK:Blk w w:=fun b cs e' h=>⟨cs,h,rfl⟩
 generalize gn:G.nv d (zGV ps) (zI2 ps) (pHd G ps)=G'
 have ghd:∀i z,G'.hd d (z++[i])=pHd G ps i z:=fun i z=>by rw[←gn];simp[Gh.nv]
 have ghd':∀s z,s≠d→G'.hd s z=G.hd s z:=fun s z hs=>by rw[←gn];simp[Gh.nv,hs]
 have glbm:∀b o fl x z z',G.lb b o=ja (fl,x,z)→zI2 ps x z=ja z'→G'.lb b o=ja (fl,d,z'):=fun b o fl x z z' h1 h2=>by rw[←gn];simp[Gh.nv,h1,h2]
 have gowm:∀b x z z',G.ow b=ja (x,z)→zI2 ps x z=ja z'→G'.ow b=ja (d,z'):=fun b x z z' h1 h2=>by rw[←gn];simp[Gh.nv,h1,h2]
 have gf:∀s p,Off ((d,0)::sP ps) s p→s≠d:=fun s p h e=>absurd (h 0 (by simp[e])) (by simp)
 have gA:qU ((d,0)::sP ps) G w G' w:=by
  refine⟨fun s p h=>ghd' s p (gf s p h),fun s p h=>?_,fun b o fl s p _ hl h=>⟨?_,rfl⟩,fun b s p hl h=>?_,gK⟩
  ·rw[←gn];simp[Gh.nv,gf s p h]
  ·rw[←gn];simp[Gh.nv,hl,f6 s p h]
  ·rw[←gn];simp[Gh.nv,hl,f6 s p h]
 have gx:Mem Γ G' w:=by
  refine⟨fun s p=>?_,fun b o l hl=>?_,fun b l hl=>?_,hm.st,hm.fr,hm.sz,hm.bk⟩
  ·rw[←gn]
   simp only[Gh.nv];split
   ·split
    ·exact f2 _ _
    ·rfl
   ·exact hm.one s p
  ·rw[←gn]at hl
   simp only[Gh.nv]at hl;split at hl
   ·rename_i hg;exact hm.lb b o _ hg
   ·cases hl
  ·rw[←gn]at hl
   simp only[Gh.nv]at hl;split at hl
   ·rename_i hg;exact hm.ow b _ hg
   ·cases hl
 have g4:RF Γ.St G' w d (ps.map yV.tree) [] 0:=by
  refine zOx _ [] 0 (fun i u hu=>?_);rw[Jg];cases hs:zGV ps i with
  |none=>exact f5 i u hu hs G' w (fun z=>ghd i z)
  |some xq=>
   obtain⟨x,q⟩:=xq;obtain⟨h1,h2,h3,h4⟩:=f4 i u x q hu hs;refine zKJ u q [i] (zCY.okTups_get _ f1 i u hu) ⟨fun z=>by rw[ghd,h1],fun z _=>by rw[←gn];simp[Gh.nv,hs],fun b o fl z _ hl=>⟨glbm b o fl x _ _ hl (f3 i u x q z hu hs),rfl⟩,
    fun b z hl=>gowm b x _ _ hl (f3 i u x q z hu hs),gK⟩ (xE.mono (fun _ _=>False.elim) u h3) h2
 refine⟨G',vH g9 (by simp) gA gx ?_ ?_⟩
 ·intro s hs
  simp only[Wr.find]at hs;split at hs
  ·cases hs
  ·rename_i gf
   have dM:=zCq ps d 0 s hs;refine⟨fun n hn=>?_,by rw[Jf];simp[gf]⟩;simp only[Jc,Jb2.injEq,sP,Js]at hn;rcases hn with⟨e1,_⟩|⟨y,hy,e1,_⟩
   ·exact gf e1.symm
   ·exact dM (e1▸hy)
 ·intro s t hs
  simp only[Wr.find]at hs;split at hs
  ·rename_i he
   subst he;simp at hs;subst hs;refine⟨?_,by simpa only[R]using g4,by simp only[Top];exact vP.of_clean _ f0⟩;rw[Jf];simp only[g9.size,hd,mkV,if_true];rw[zDO g9 h G' ps 0 (fun i q hq=>by simpa using hq) ghd]
  ·rename_i gf
   obtain⟨i,u,h1,h2,h3⟩:=zCp ps d 0 s _ hs;simp only[Jg]at h3;simp at h3;subst h3;obtain⟨h4,h5,h6⟩:=h.slot s u (Kh h1);have gR:∀xs,u≠.tup xs:=by rintro xs rfl;simp[T.okTup]at h6
   have hi:(ps.map yV.tree)[i]? =ja u:=by simp[h1,yV.tree]
   have hr:=zAV _ [] 0 i u g4 hi;simp only[Jg]at hr;refine zIM (G:=G) (by rw[Jf];simp only[gf,if_false];exact(g9.ent s u h4).1) gR (fun p=>ghd' s p (fun e=>gf e.symm)) (fun z=>?_) hr;rw[ghd];simp[pHd,h1]
theorem zOz(off:Nat):∀(vs:List Value)(i:Nat)(cs:Array Value)(k:Nat),off+i+vs.length≤cs.size→
  ((vs.zipIdx i).foldl (fun cs(x:Value×Nat)=>cs.setIfInBounds (off+x.2) x.1) cs)[k]? =if off+i≤k∧k<off+i+vs.length then vs[k-(off+i)]? else cs[k]?
 | [],i,cs,k,_=>by simp;omega
 |v::vs,i,cs,k,h=>by
  simp only[J6]at h;simp only[List.zipIdx_cons,U2];rw[zOz off vs (i+1) _ k (by simp;omega)]
  by_cases h1:off+(i+1)≤k∧k<off+(i+1)+vs.length
  ·rw[if_pos h1,if_pos (by simp only[J6];omega),show k-(off+i)=k-(off+(i+1))+1 from by omega,Uy]
  ·rw[if_neg h1]
   by_cases h2:k=off+i
   ·subst h2
    rw[if_pos (by simp only[J6];omega),Kq];rw[Jf];simp;omega
   ·rw[if_neg (by simp only[J6];omega),Jf,if_neg (fun e=>h2 e.symm)]
theorem zGZ{pv:yV→List Value}(place:Nat→Option (Nat×Nat)):∀(vs:List (Nat×Value))(qs:List (Nat×yV))(ps:List yV)(cs:Array Value),cs.toList=ps.flatMap pv→
  (∀i p,ps[i]? =ja p→place i=ja (((ps.take i).flatMap pv).length,(pv p).length))→
  vs.map (·.1)=qs.map (·.1)→(∀(j:Nat)(v:Nat×Value)(q:Nat×yV),vs[j]? =ja v→qs[j]? =ja q→v.2.cells.toList=pv q.2∧ ∃p,ps[q.1]? =ja p∧(pv p).length=(pv q.2).length)→
  ∃cs',Instr.fill place cs vs=ja cs'∧cs'.toList=(qs.foldl (fun ps q=>ps.set q.1 q.2) ps).flatMap pv
 | [],[],ps,cs,gN,_,_,_=>⟨cs,rfl,gN⟩
 | [],_::_,_,_,_,_,h,_=>by simp at h
 |_::_,[],_,_,_,_,h,_=>by simp at h
 |(i,v)::vs,(i',q)::qs,ps,cs,gN,pI,hi,hq=>by
  simp only[Jv,Qs.injEq]at hi;obtain⟨iI,hi⟩:=hi;subst iI;obtain⟨h1,p,h2,h3⟩:=hq 0 (i,v) (i,q) rfl rfl;dsimp only at h1 h2 h3;have pH:=pI i p h2;have gz:=(Jb.1 h2).1;have ca:ps=ps.take i++p::ps.drop (i+1):=by rw[←(Jb.1 h2).2,←Hc gz,Jbi]
  have gw:ps.set i q=ps.take i++q::ps.drop (i+1):=List.set_eq_take_append_cons_drop .. |>.trans (if_pos gz);have cR:v.cells.size=(pv p).length:=by rw[←Kk,h1,h3]
  have gG:cs.size=((ps.take i).flatMap pv).length+((pv p).length+((ps.drop (i+1)).flatMap pv).length):=by
   rw[←Kk,gN]
   conv=>lhs;rw[ca]
   simp[Lz]
  have eB:(v.cells.zipIdx.foldl (fun cs(x:Value×Nat)=>cs.setIfInBounds (((ps.take i).flatMap pv).length+x.2) x.1) cs).toList=(ps.set i q).flatMap pv:=by
   rw[gw];simp only[Lz,Ln,←h1];apply Ld;intro k;rw[←Array.foldl_toList,K9,show v.cells.zipIdx.toList=v.cells.toList.zipIdx 0 from by simp,zOz _ _ 0 cs k (by have:v.cells.toList.length=v.cells.size:=(by simp);omega)];have iS:cs.toList=((ps.take i).flatMap pv)++(pv p++(ps.drop (i+1)).flatMap pv):=by
    rw[gN]
    conv=>lhs;rw[ca]
    simp[Lz]
   have mg:v.cells.toList.length=(pv p).length:=by rw[h1,h3]
   rw[←K9,iS]
   generalize (ps.take i).flatMap pv=A
   generalize (ps.drop (i+1)).flatMap pv=B
   generalize v.cells.toList=V at mg
   generalize pv p=Q at mg
   by_cases hk:A.length≤k∧k<A.length+V.length
   ·rw[if_pos (by omega),J8 hk.1,Jm (by omega),Hy]
   ·rw[if_neg (by omega)]
    by_cases fg:k<A.length
    ·rw[Jm fg,Jm fg]
    ·rw[J8 (by omega),J8 (by omega),J8 (by omega),J8 (by omega),mg]
  have ik:∀j p',(ps.set i q)[j]? =ja p'→place j=ja ((((ps.set i q).take j).flatMap pv).length,(pv p').length):=by
   intro j p' fp;have ex:(((ps.set i q).take j).flatMap pv).length=((ps.take j).flatMap pv).length:=by
    rw[gw]
    conv=>rhs;rw[ca]
    by_cases hj:j≤i
    ·rw[Hg (by simp;omega),Hg (by simp;omega)]
    ·rw[Jbp,Jbp]
     simp only[Lz,J5]
     congr 1
     have:j-(ps.take i).length=(j-(ps.take i).length-1)+1:=by simp;omega
     rw[this,Kb,Kb];simp[h3]
   by_cases hj:j=i
   ·subst hj
    rw[Uu gz]at fp;simp at fp;subst fp;rw[pH,←h3,ex]
   ·rw[Jak (fun e=>hj e.symm)]at fp
    rw[pI j p' fp,ex]
  have hq':∀(j:Nat)(x:Nat×Value)(y:Nat×yV),vs[j]? =ja x→qs[j]? =ja y→x.2.cells.toList=pv y.2∧ ∃p,(ps.set i q)[y.1]? =ja p∧(pv p).length=(pv y.2).length:=by
   intro j x y hx hy;obtain⟨h6,p',h7,h8⟩:=hq (j+1) x y (by simpa using hx) (by simpa using hy);refine⟨h6,?_⟩
   by_cases hj:y.1=i
   ·refine⟨q,by rw[hj,Uu gz],?_⟩
    rw[hj,h2]at h7;simp at h7;subst h7;rw[←h8,h3]
   ·exact⟨p',by rw[Jak (fun e=>hj e.symm)];exact h7,h8⟩
  obtain⟨cs',h4,h5⟩:=zGZ place vs qs (ps.set i q) _ eB ik hi hq';refine⟨cs',?_,by simpa using h5⟩;simp only[Instr.fill,pH];have bF:(v.cells.size≠(pv p).length||((ps.take i).flatMap pv).length+v.cells.size> cs.size)=jd:=by rw[Bool.or_eq_false_iff];exact⟨by simpa using cR,by rw[decide_eq_false_iff_not];omega⟩
  rw[bF];exact h4
theorem uP{t:TypeId}{it:TypeInfo}{fields:Array Field}{z:Value}{places:List (Nat×Nat)}(hi:P.info? t=ja it)(hu:P.underlying t=ja (.struct fields))(hz:it.zero=ja z)
  (hp:fields.toList.mapM (fun f=>(P.info? f.type).map fun i=>(f.offset,i.size))=ja places)(parts:List (Nat×Value)):P.built t parts=Instr.fill (places.toArray[·]?) z.cells parts:=by
 simp[Program.built,hi,hu,hz,hp]
theorem zKL{t e:TypeId}{n:Nat}{it ie:TypeInfo}{z:Value}(hi:P.info? t=ja it)(hu:P.underlying t=ja (.array n e))(hz:it.zero=ja z)
  (he:P.info? e=ja ie)(parts:List (Nat×Value)):P.built t parts=Instr.fill (fun i=>ja (i*ie.size,ie.size)) z.cells parts:=by
 simp[Program.built,hi,hu,hz,he]
theorem zFm{G:Gh}:(zs:List T)→(zs.map yV.zero).flatMap (qD G)=sD zs
 | []=>rfl
 |z::zs=>by simp[qD,sD,←zFm (G:=G) zs]
theorem zRx(t:TypeId)(place:Nat→Option (Nat×Nat))(z:Value)(zs:List T)(pl:List (Nat×Operand))(qs:List (Nat×yV))(ps:List yV)(ho:o.op=.build t pl.toArray)(gk:o.dst=ja d)(hd:d<Γ.N)
  (hb:∀parts,P.built t parts=Instr.fill place z.cells parts)(hzv:sD zs=z.cells.toList)(hz:zAi zs=jc)(pI:∀i u,zs[i]? =ja u→place i=ja (T.sizes (zs.take i),u.size))
  (hH:qs.foldl (fun ps q=>ps.set q.1 q.2) (zs.map yV.zero)=ps)(gE:tP E d ps)(iH:pl.map (·.1)=qs.map (·.1))
  (hq:∀(j:Nat)(x:Nat×Operand)(q:Nat×yV),pl[j]? =ja x→qs[j]? =ja q→kV E x.2 q.2∧q.2∈ps∧ ∃u,zs[q.1]? =ja u∧u.size=q.2.tree.size):
  wN P Γ o E (E.app ((d,ja (.agg (ps.map yV.tree)))::pWr d ps 0) ((d,0)::sP ps)):=by
 refine wN.value gk fun a w G g9=>?_
 obtain⟨G',gn⟩:=zUF g9 gE hd;have gv:∀(us:List T),zAi us=jc→((us.map yV.zero).flatMap (qD G)).length=T.sizes us:=fun us h=>by rw[zFm,zAX us h]
 obtain⟨cs',h1,h2⟩:=zGZ (pv:=qD G) place (pl.map fun x=>(x.1,a.eval x.2)) qs (zs.map yV.zero) z.cells (by rw[zFm,hzv]) (fun i p hp=>by
   rw[K1]at hp;cases hu:zs[i]? with
   |none=>simp[hu]at hp
   |some u=>
    simp[hu]at hp;subst hp;rw[pI i u hu,←Qu,gv _ (zOks_take zs i hz),qD,wW u (zOks_get zs hz i u hu)])
  (by simpa[Jbs,Function.comp_def]using iH) (fun j v q hv hqj=>by
   rw[K1]at hv;cases hx:pl[j]? with
   |none=>simp[hx]at hv
   |some x=>
    simp[hx]at hv;subst hv;obtain⟨h3,h4,u,h5,h6⟩:=hq j x q hx hqj;refine⟨zAz g9 gE h4 h3,.zero u,by simp[h5],?_⟩;rw[qD,wW u (zOks_get zs hz _ u h5),h6];cases aS:q.2 with
    |slot s t=>
     rw[aS]at h4;obtain⟨_,_,h7⟩:=gE.slot s t h4;exact(wT t [] (by rintro xs rfl;simp[T.okTup]at h7)).symm
    |zero u'=>
     rw[aS]at h4;exact(wW u' (gE.zero u' h4)).symm)
 rw[hH]at h2;have h3:cs'=(ps.flatMap (qD G)).toArray:=by rw[←h2]
 refine⟨_,w,?_,G',gn⟩;have gy:=run_build (P:=P) w t (pl.map fun x=>(x.1,a.eval x.2)).toArray cs' (by rw[hb];exact h1);simp only[Qx,execOp,ho,Sem.run_bind]at gy ⊢
 rw[show(List.map (fun x=>match x with|(i,x)=>(i,a.eval x)) pl)=List.map (fun x=>(x.1,a.eval x.2)) pl from rfl,gy,h3];rfl
where
 zOks_get:(xs:List T)→zAi xs=jc→ ∀(i:Nat)(x:T),xs[i]? =ja x→x.zOk=jc
  | [],_,_,_,h=>by simp at h
  |y::ys,hk,i,x,h=>by
   simp only[zAi,J4]at hk;cases i with
   |zero=>simp at h;subst h;exact hk.1
   |succ i=>exact zOks_get ys hk.2 i x (by simpa using h)
 zOks_take:(xs:List T)→ ∀i,zAi xs=jc→zAi (xs.take i)=jc
  | [],i,_=>by simp[zAi]
  |y::ys,0,_=>by simp[zAi]
  |y::ys,i+1,hk=>by
   simp only[zAi,J4,Kb]at hk ⊢
   exact⟨hk.1,zOks_take ys i hk.2⟩
end
end Go.Ab

namespace Go.Ab
open Go
mutual
def vE:T→T→Bool
 |.agg xs,.agg ys=>kA xs ys
 |.agg _,_=>jd
 |.tup _,_=>jd
 |_,.agg _=>jd
 |_,.tup _=>jd
 |.any,_|.lit _,_|.ro _,_|.same _ _,_|.addr _ _,_|.sub _ _ _ _ _,_|.sl _ _,_|.ptr _,_=>jc
def kA:List T→List T→Bool
 | [],[]=>jc
 |x::xs,y::ys=>vE x y&&kA xs ys
 | [],_::_=>jd
 |_::_,[]=>jd
end
mutual
theorem zCr:(x y:T)→vE x y=jc→x.size=y.size
 |.agg xs,.agg ys,h=>by simp only[vE]at h;simp only[T.size];exact zEx xs ys h
 |.agg _,.any,h|.agg _,.lit _,h|.agg _,.ro _,h|.agg _,.same _ _,h|.agg _,.addr _ _,h|.agg _,.sub _ _ _ _ _,h|.agg _,.sl _ _,h|.agg _,.ptr _,h|.agg _,.tup _,h=>by simp[vE]at h
 |.tup _,_,h=>by simp[vE]at h
 |.any,y,h|.lit _,y,h|.ro _,y,h|.same _ _,y,h|.addr _ _,y,h|.sub _ _ _ _ _,y,h|.sl _ _,y,h|.ptr _,y,h=>by cases y<;>simp[vE]at h<;>simp[T.size]
theorem zEx:(xs ys:List T)→kA xs ys=jc→T.sizes xs=T.sizes ys
 | [],[],_=>rfl
 |x::xs,y::ys,h=>by simp only[kA,J4]at h;simp only[T.sizes,zCr x y h.1,zEx xs ys h.2]
 | [],_::_,h=>by simp[kA]at h
 |_::_,[],h=>by simp[kA]at h
end
section
variable {G:Gh}{w:World}{s:Nat}
mutual
theorem zJ6:(t:T)→ ∀(p:List Nat)(b o j:Nat),Loc G w s t p b o→j<t.size→ ∃y,G.lb b (o+j)=ja (jd,s,y++p)
 |.agg xs,p,b,o,j,h,hj=>by simp only[Loc,T.size]at h hj;exact zO0 xs p 0 b o j h.2 hj
 |.any,p,b,o,j,h,hj|.lit _,p,b,o,j,h,hj|.ro _,p,b,o,j,h,hj|.same _ _,p,b,o,j,h,hj|.addr _ _,p,b,o,j,h,hj|.sub _ _ _ _ _,p,b,o,j,h,hj|.sl _ _,p,b,o,j,h,hj|.ptr _,p,b,o,j,h,hj=>by
  simp only[Loc,T.size]at h hj;obtain rfl:j=0:=by omega
  exact⟨[],by simpa using h.2.1⟩
 |.tup _,_,_,_,_,h,_=>by simp only[Loc]at h
theorem zO0:(xs:List T)→ ∀(p:List Nat)(i b o j:Nat),vG G w s xs p i b o→j<T.sizes xs→ ∃y,G.lb b (o+j)=ja (jd,s,y++p)
 | [],_,_,_,_,_,_,hj=>by simp[T.sizes]at hj
 |x::xs,p,i,b,o,j,h,hj=>by
  simp only[vG,T.sizes]at h hj
  by_cases gz:j<x.size
  ·obtain⟨y,hy⟩:=zJ6 x (i::p) b o j h.1 gz
   exact⟨y++[i],by simpa using hy⟩
  ·obtain⟨y,hy⟩:=zO0 xs p (i+1) b (o+x.size) (j-x.size) h.2 (by omega)
   rw[show o+x.size+(j-x.size)=o+j from by omega]at hy;exact⟨y,hy⟩
end
mutual
theorem zRy{G':Gh}{w':World}:(u u0:T)→ ∀(p:List Nat)(b o:Nat),vE u u0=jc→(∀y,u.inT y.reverse=jc→G'.ad s (y++p)=G.ad s (y++p))→
  (∀b o y,G.lb b o=ja (jd,s,y++p)→G'.lb b o=ja (jd,s,y++p))→(∀j v,(vals G' s u p)[j]? =ja v→yS w' b (o+j)=ja v)→Loc G w s u0 p b o→Loc G' w' s u p b o
 |.agg xs,.agg ys,p,b,o,h,ha,hl,hc,h0=>by
  simp only[Loc,vE]at h h0 ⊢
  refine⟨by have:=ha [] rfl;rw[Ji]at this;rw[this];exact h0.1,zO1 xs ys p 0 b o h (fun i x hx y hy=>?_) (fun b o y=>hl b o y) (fun j v hv=>hc j v (by simpa only[vals]using hv)) h0.2⟩;have:=ha (y++[i]) (by simp only[Hs,H2,Lg,Ji,Jp,T.inT,hx];exact hy);simpa using this
 |.agg _,.any,_,_,_,h,_,_,_,_|.agg _,.lit _,_,_,_,h,_,_,_,_|.agg _,.ro _,_,_,_,h,_,_,_,_|.agg _,.same _ _,_,_,_,h,_,_,_,_|.agg _,.addr _ _,_,_,_,h,_,_,_,_|.agg _,.sub _ _ _ _ _,_,_,_,h,_,_,_,_|.agg _,.sl _ _,_,_,_,h,_,_,_,_|.agg _,.ptr _,_,_,_,h,_,_,_,_|.agg _,.tup _,_,_,_,h,_,_,_,_=>by simp[vE]at h
 |.tup _,_,_,_,_,h,_,_,_,_=>by simp[vE]at h
 |.any,u0,p,b,o,h,ha,hl,hc,h0|.lit _,u0,p,b,o,h,ha,hl,hc,h0|.ro _,u0,p,b,o,h,ha,hl,hc,h0|.same _ _,u0,p,b,o,h,ha,hl,hc,h0|.addr _ _,u0,p,b,o,h,ha,hl,hc,h0|.sub _ _ _ _ _,u0,p,b,o,h,ha,hl,hc,h0|.sl _ _,u0,p,b,o,h,ha,hl,hc,h0|.ptr _,u0,p,b,o,h,ha,hl,hc,h0=>by have h1:=vA (by cases u0<;>simp[vE]at h<;>rfl) h0;have h2:=ha [] rfl;rw[Ji]at h2;simp only[Loc];exact⟨h2.trans h1.1,by simpa using hl b o [] (by simpa using h1.2.1),by simpa using hc 0 (G'.hd s p) (by simp[vals])⟩
theorem zO1{G':Gh}{w':World}:(xs ys:List T)→ ∀(p:List Nat)(j b o:Nat),kA xs ys=jc→(∀i x,xs[i]? =ja x→ ∀y,x.inT y.reverse=jc→G'.ad s (y++((j+i)::p))=G.ad s (y++((j+i)::p)))→
  (∀b o y,G.lb b o=ja (jd,s,y++p)→G'.lb b o=ja (jd,s,y++p))→(∀i v,(yF G' s xs p j)[i]? =ja v→yS w' b (o+i)=ja v)→vG G w s ys p j b o→vG G' w' s xs p j b o
 | [],[],_,_,_,_,_,_,_,_,_=>by simp only[vG]
 |x::xs,y::ys,p,j,b,o,h,ha,hl,hc,h0=>by
  simp only[kA,J4,vG]at h h0 ⊢
  have hs:=zCr x y h.1;have gR:∀zs,x≠.tup zs:=by rintro zs rfl;simp[vE]at h
  refine⟨zRy x y (j::p) b o h.1 (fun z hz=>by simpa using ha 0 x (by simp) z hz) (fun b o z hz=>by have:=hl b o (z++[j]) (by simpa using hz);simpa using this) (fun i v hv=>hc i v ?_) h0.1,
   zO1 xs ys p (j+1) b (o+x.size) h.2 (fun i z hz=>by have:=ha (i+1) z (by simpa using hz);rwa [show j+1+i=j+(i+1)from by omega]) hl (fun i v hv=>?_) (by rw[hs];exact h0.2)⟩
  ·simp only[yF]
   rw[Jm (Jb.1 hv).1];exact hv
  ·have:=hc (x.size+i) v (by
    simp only[yF];rw[J8 (by rw[wT x _ gR];omega),wT x _ gR,show x.size+i-x.size=i from by omega];exact hv)
   rwa [←Lt]at this
 | [],_::_,_,_,_,_,h,_,_,_,_=>by simp[kA]at h
 |_::_,[],_,_,_,_,h,_,_,_,_=>by simp[kA]at h
end
end
def zGx(p:yV)(q:List Nat)(s:Nat)(z:List Nat):Option (List Nat):=
 match p with
 |.slot s0 t=>if sO t&&s0==s then ja (z++q)else jb
 |.zero _=>jb
def sHd(G:Gh)(p:yV)(y:List Nat):Value:=
 match p with
 |.slot s _=>G.hd s y
 |.zero u=>jP (zhd u y.reverse)
def sWr(r:Nat)(q:List Nat):yV→Wr
 |.slot s t=>if sO t then[(s,ja (cpT r t q))]else[]
 |.zero _=>[]
def Gh.st(G:Gh)(r:Nat)(q:List Nat)(p:yV):Gh where
 hd s z:=if s=r∧q<:+z then sHd G p (z.take (z.length-q.length))else G.hd s z
 ad s z:=if s=r∧q<:+z∧p.tree.inT (z.take (z.length-q.length)).reverse=jd then(match p with
  |.slot s0 _=>G.ad s0 (z.take (z.length-q.length))
  |.zero _=>default)else G.ad s z
 lb b o:=match G.lb b o with
  |some (fl,s,z)=>(match zGx p q s z with
   |some z'=>ja (fl,r,z')
   |none=>ja (fl,s,z))
  |none=>jb
 ow b:=match G.ow b with
  |some (s,z)=>(match zGx p q s z with
   |some z'=>ja (r,z')
   |none=>ja (s,z))
  |none=>jb
mutual
theorem zKM{Γ:Ctx}{G:Gh}{w:World}(hm:Mem Γ G w){s:Nat}:(t:T)→ ∀(p:List Nat)(v:Value),v∈vals G s t p→v.oneCell'=jc
 |.agg xs,p,v,h=>by simp only[vals]at h;exact zDa hm xs p 0 v h
 |.any,p,v,h|.lit _,p,v,h|.ro _,p,v,h|.same _ _,p,v,h|.addr _ _,p,v,h|.sub _ _ _ _ _,p,v,h|.sl _ _,p,v,h|.ptr _,p,v,h|.tup _,p,v,h=>by simp only[vals,List.mem_singleton]at h;rw[h];exact hm.one s p
theorem zDa{Γ:Ctx}{G:Gh}{w:World}(hm:Mem Γ G w){s:Nat}:(xs:List T)→ ∀(p:List Nat)(j:Nat)(v:Value),v∈yF G s xs p j→v.oneCell'=jc
 | [],_,_,_,h=>by simp[yF]at h
 |x::xs,p,j,v,h=>by
  simp only[yF,Jj]at h;rcases h with h|h
  ·exact zKM hm x _ v h
  ·exact zDa hm xs p _ v h
end
mutual
theorem zFn:(u:T)→u.zOk=jc→ ∀v∈tM u,v.oneCell'=jc
 |.lit v,h,x,hx=>by simp only[tM,List.mem_singleton]at hx;rw[hx];exact h
 |.sl _ _,_,x,hx=>by simp only[tM,List.mem_singleton]at hx;rw[hx];rfl
 |.agg xs,h,x,hx=>by simp only[T.zOk]at h;simp only[tM]at hx;exact zHa xs h x hx
 |.any,h,_,_|.ro _,h,_,_|.same _ _,h,_,_|.addr _ _,h,_,_|.sub _ _ _ _ _,h,_,_|.ptr _,h,_,_|.tup _,h,_,_=>by simp[T.zOk]at h
theorem zHa:(xs:List T)→zAi xs=jc→ ∀v∈sD xs,v.oneCell'=jc
 | [],_,_,h=>by simp[sD]at h
 |x::xs,h,v,hv=>by
  simp only[zAi,J4]at h;simp only[sD,Jj]at hv;rcases hv with hv|hv
  ·exact zFn x h.1 v hv
  ·exact zHa xs h.2 v hv
end
theorem zKN(y q:List Nat):(y++q).take ((y++q).length-q.length)=y:=by simp
theorem zMY{Γ:Ctx}{G G':Gh}{w':World}{s d:Nat}{q:List Nat}{t:T}{v:Option Value}(hv:v=ja (mkV G s t []))(gR:∀xs,t≠.tup xs)(hs:∀p,G'.hd s p=G.hd s p)(me:∀z,G'.hd d (z++q)=G.hd s z)
  (hr:R Γ.St G' w' d t q):Ent Γ G' w' v s (cpT d t q):=by
 have hz:∀z,G'.hd s (z++[])=G'.hd d (z++q):=fun z=>by rw[J9,hs,me]
 refine⟨?_,?_,qQ d t q⟩
 ·rw[hv,zAy (G:=G') (G':=G') t q [] gR hz,kH G s t [] gR,zBC t [] q (fun z=>by rw[me,J9])]
 ·exact zDJ (G:=G') (G':=G') (fun _=>rfl) t q [] hz gR (xE.triv (fun _ _=>⟨rfl,rfl⟩) _) hr
section
variable {P:Program}{Γ:Ctx}{E:Env}{o:Oper}
theorem jQ:(f:List Nat)→ ∀(t u:T),yD t→yD u→yD (t.set f u)
 | [],t,u,_,hu=>by simpa[T.set]using hu
 |i::f,t,u,ht,hu=>by
  cases t with
  |sl k xs=>
   simp only[T.set];split
   ·rename_i x hx
    simp only[yD,xE]at ht ⊢
    exact sets_clean xs i _ ht (jQ f x u (uN xs ht i x hx) hu)
   ·exact ht
  |agg xs=>
   simp only[T.set];split
   ·rename_i x hx
    simp only[yD,xE]at ht ⊢
    exact sets_clean xs i _ ht (jQ f x u (uN xs ht i x hx) hu)
   ·exact ht
  |tup xs=>
   simp only[T.set];split
   ·rename_i x hx
    simp only[yD,xE]at ht ⊢
    exact sets_clean xs i _ ht (jQ f x u (uN xs ht i x hx) hu)
   ·exact ht
  |ptr t=>
   simp only[T.set];split
   ·simp only[yD,xE]at ht ⊢
    exact jQ f t u ht hu
   ·exact ht
  |_=>simpa only[T.set]using ht
where sets_clean:(xs:List T)→ ∀(i:Nat)(y:T),xJ xs→yD y→xJ (xs.set i y)
 | [],_,_,_,_=>by simp[xJ,wB]
 |x::xs,0,y,h,hy=>by simp only[Ku,xJ,wB]at h ⊢;exact⟨hy,h.2⟩
 |x::xs,i+1,y,h,hy=>by simp only[Lm,xJ,wB]at h ⊢;exact⟨h.1,sets_clean xs i y h.2 hy⟩
theorem zFo(T':TypeId)(ti:TypeInfo)(x y:Operand)(r:Nat)(q:List Nat)(tr u0:T)(p:yV)(ho:o.op=.store T' x y)(gk:o.dst=jb)
  (hi:P.info? T'=ja ti)(gv:ti.size=p.tree.size)(cW:0<ti.size)(hx:zAI Γ E x r q)(hr:E r=ja tr)(aO:tr.single=jc)(hg:tr.get q.reverse=ja u0)(hl:tr.locd q.reverse=jc)
  (fJ:vE p.tree u0=jc)(hy:kV E y p)(hH:tP E r [p]):
  wN P Γ o E (E.app ((r,ja (tr.set q.reverse p.tree))::sWr r q p) ((r,q.length)::sP [p])):=by
 refine wN.skip gk fun a w G g9=>?_
 have hm:=g9.mem;have t6:=hx a w G g9;obtain⟨e3,e4,e5⟩:=g9.ent r _ hr;have tn:q≠[]:=by rintro rfl;simp[T.locd]at hl
 obtain⟨i0,f0,ia⟩:∃i f,q.reverse=i::f:=by
  cases h:q.reverse with
  |nil=>exact absurd (by simpa using h) tn
  |cons i f=>exact⟨i,f,rfl⟩
 have aC:∀v:T,(tr.set q.reverse v).single=jc∧yD tr:=by
  intro v;rw[ia]at hg ⊢
  cases tr with
  |sl k xs=>exact⟨by simp only[T.set];split<;>rfl,by simpa only[Top,yD,xE]using e5⟩
  |ptr t=>exact⟨by simp only[T.set];split<;>rfl,by simpa only[Top,yD,xE]using e5⟩
  |agg xs=>simp[T.single]at aO
  |tup xs=>simp[T.single]at aO
  |_=>simp[T.get]at hg
 obtain⟨b,ob,cs,et,mn,gK,iN⟩:=(zAx q.reverse tr u0 [] e4 hg).2 hl;simp only[rp,Ks,J9]at mn;have hru0:=(zAx q.reverse tr u0 [] e4 hg).1;have fb:=zBD mn;have aI:=zCr _ _ fJ;have hc:=zAz g9 hH (by simp) hy;have p9:(a.eval y).cells.size=p.tree.size:=by
  rw[←Kk,hc];cases p with
  |slot s t=>obtain⟨_,_,h3⟩:=hH.slot s t (by simp);exact wT t [] (by rintro xs rfl;simp[T.okTup]at h3)
  |zero u=>exact wW u (hH.zero u (by simp))
 have gp:∀v∈(a.eval y).cells.toList,v.oneCell'=jc:=by
  rw[hc];intro v hv;cases p with
  |slot s t=>exact zKM hm t [] v hv
  |zero u=>exact zFn u (hH.zero u (by simp)) v hv
 generalize eC:w.setRow b (cs.toList.take ob++(a.eval y).cells.toList++cs.toList.drop (ob+(a.eval y).cells.toList.length)).toArray=w'
 have eB:w'.heap[b]? =ja (.cells (cs.toList.take ob++(a.eval y).cells.toList++cs.toList.drop (ob+(a.eval y).cells.toList.length)).toArray et (0,0)):=by rw[←eC];exact setRow_heap w b cs _ et _ gK
 have gH:∀b',b'≠b→w'.heap[b']? =w.heap[b']?:=fun b' h=>by rw[←eC];exact setRow_other w b b' _ h
 have gS:w'.heap.size=w.heap.size:=by rw[←eC];exact size_setRow w b _
 have gG:(a.eval y).cells.toList.length=u0.size:=by rw[Kk,p9,aI]
 have f7:∀k,yS w' b k=if ob≤k∧k<ob+u0.size then(qD G p)[k-ob]? else yS w b k:=by
  intro k;simp only[yS,World.cell?,eB,gK,Q5,Gk,if_false];rw[←hc,←gG]at*
  rw[←K9,←K9 (xs:=cs)];simp only[];have gN:cs.toList.length=cs.size:=Kk ..
  generalize (a.eval y).cells.toList=V at*
  by_cases h1:k<ob
  ·rw[if_neg (by omega),Ja,Jm (by simp;omega),Uo h1]
  ·by_cases h2:k<ob+V.length
   ·rw[if_pos ⟨by omega,h2⟩,Ja,J8 (by simp;omega),Jm (by simp;omega)]
    congr 1;simp;omega
   ·rw[if_neg (by omega),Ja,J8 (by simp;omega),J8 (by simp;omega),Ko]
    congr 1;simp;omega
 have cz:∀b' o' fl s z,G.lb b' o'=ja (fl,s,z)→ ¬(s=r∧q<:+z)→yS w' b' o'=yS w b' o':=by
  intro b' o' fl s z h1 h2
  by_cases hb:b'=b
  ·subst hb
   rw[f7];split
   ·rename_i h3
    obtain⟨y',h4⟩:=zJ6 u0 q b' ob (o'-ob) mn (by omega);rw[show ob+(o'-ob)=o' from by omega,h1]at h4;simp at h4;exact absurd ⟨h4.2.1,y',h4.2.2.symm⟩ h2
   ·rfl
  ·simp[yS,World.cell?,gH b' hb]
 have eH:Blk w w':=by
  intro b' cs' e' h1
  by_cases hb:b'=b
  ·subst hb
   rw[gK]at h1;simp at h1;obtain⟨rfl,rfl⟩:=h1;exact⟨_,eB,by simp;have:cs.toList.length=cs.size:=Kk ..;omega⟩
  ·exact⟨cs',by rw[gH b' hb];exact h1,rfl⟩
 generalize gn:G.st r q p=G'
 have ghd:∀y',G'.hd r (y'++q)=sHd G p y':=fun y'=>by rw[←gn];simp[Gh.st]
 have ghd':∀s z,¬(s=r∧q<:+z)→G'.hd s z=G.hd s z:=fun s z h=>by rw[←gn];simp only[Gh.st];rw[if_neg h]
 have gad:∀s z,¬(s=r∧q<:+z)→G'.ad s z=G.ad s z:=fun s z h=>by rw[←gn];simp only[Gh.st];rw[if_neg (fun h2=>h ⟨h2.1,h2.2.1⟩)]
 have gadf:∀y',p.tree.inT y'.reverse=jc→G'.ad r (y'++q)=G.ad r (y'++q):=fun y' h=>by rw[←gn];simp only[Gh.st,zKN];rw[if_neg (by simp[h])]
 have gadm:∀s0 t y',p=.slot s0 t→t.inT y'.reverse=jd→G'.ad r (y'++q)=G.ad s0 y':=fun s0 t y' h1 h2=>by subst h1;rw[←gn];simp only[Gh.st,zKN,yV.tree];rw[if_pos];simp[h2]
 have glb:∀b' o' fl s z,G.lb b' o'=ja (fl,s,z)→zGx p q s z=jb→G'.lb b' o'=ja (fl,s,z):=fun b' o' fl s z h1 h2=>by rw[←gn];simp[Gh.st,h1,h2]
 have glbm:∀b' o' fl s z z',G.lb b' o'=ja (fl,s,z)→zGx p q s z=ja z'→G'.lb b' o'=ja (fl,r,z'):=fun b' o' fl s z z' h1 h2=>by rw[←gn];simp[Gh.st,h1,h2]
 have gow:∀b' s z,G.ow b'=ja (s,z)→zGx p q s z=jb→G'.ow b'=ja (s,z):=fun b' s z h1 h2=>by rw[←gn];simp[Gh.st,h1,h2]
 have gowm:∀b' s z z',G.ow b'=ja (s,z)→zGx p q s z=ja z'→G'.ow b'=ja (r,z'):=fun b' s z z' h1 h2=>by rw[←gn];simp[Gh.st,h1,h2]
 have aT:∀s z,(∀n,(s,n)∉(r,q.length)::sP [p])→zGx p q s z=jb:=by
  intro s z h;cases p with
  |zero u=>rfl
  |slot s0 t=>
   simp only[zGx];rw[if_neg];intro h2;simp only[J4,beq_iff_eq]at h2;obtain⟨h3,rfl⟩:=h2;exact h 1 (by simp[sP,xZ,h3])
 have pJ:∀z,zGx p q r z=jb:=by
  intro z;cases p with
  |zero u=>rfl
  |slot s0 t=>
   simp only[zGx];rw[if_neg];intro h2;simp only[J4,beq_iff_eq]at h2;obtain⟨h3,rfl⟩:=h2;have:=(Lj.1 hH.dist).1;simp[xZ,h3]at this
 have mM:∀s z,Off ((r,q.length)::sP [p]) s z→ ¬(s=r∧q<:+z):=by
  rintro s z h ⟨rfl,h2⟩
  have:=h q.length (by simp);have:=h2.length_le;omega
 have gA:qU ((r,q.length)::sP [p]) G w G' w':=by
  refine⟨fun s z h=>ghd' s z (mM s z h),fun s z h=>gad s z (mM s z h),fun b' o' fl s z _ h1 h2=>⟨glb b' o' fl s z h1 (aT s z h2),cz b' o' fl s z h1 ?_⟩,fun b' s z h1 h2=>gow b' s z h1 (aT s z h2),eH⟩
  rintro⟨rfl,_⟩
  exact h2 q.length (by simp)
 have ag:zCm Γ w b:=by obtain⟨y',h4⟩:=zJ6 u0 q b ob 0 mn (by omega);exact hm.lb _ _ _ h4
 have gx:Mem Γ G' w':=by
  refine⟨fun s z=>?_,fun b' o' l hl=>?_,fun b' l hl=>?_,fun b' x' eD=>?_,fun b' h1 h2=>?_,by rw[gS];exact hm.sz,hm.bk.trans eH (by rw[←eC];rfl) (by rw[←eC];rfl)⟩
  ·by_cases h:s=r∧q<:+z
   ·obtain⟨rfl,y',rfl⟩:=h
    rw[ghd];unfold sHd;split
    ·exact hm.one _ _
    ·exact zBj _
   ·rw[ghd' s z h];exact hm.one s z
  ·have:∃l',G.lb b' o'=ja l':=by
    rw[←gn]at hl;simp only[Gh.st]at hl;split at hl
    ·exact⟨_,by assumption⟩
    ·cases hl
   obtain⟨l',bM⟩:=this;have:=hm.lb b' o' l' bM;exact⟨by rw[gS];exact this.1,this.2⟩
  ·have:∃l',G.ow b'=ja l':=by
    rw[←gn]at hl;simp only[Gh.st]at hl;split at hl
    ·exact⟨_,by assumption⟩
    ·cases hl
   obtain⟨l',bM⟩:=this;have:=hm.ow b' l' bM;exact⟨by rw[gS];exact this.1,this.2⟩
  ·have hb:b'≠b:=by rintro rfl;rw[ag.2.2]at eD;cases eD
   rw[gH b' hb];exact hm.st b' x' eD
  ·have hb:b'≠b:=by
    rintro rfl
    rcases ag.2.1 with h3|h3
    ·omega
    ·exact h2 h3
   rw[gH b' hb];exact hm.fr b' h1 h2
 have u8:Upd G w G' w' r q:=by refine⟨fun z h=>ghd' r z (fun h2=>h h2.2),fun z h=>gad r z (fun h2=>h h2.2),fun b' o' fl z h1 h=>⟨glb b' o' fl r z h1 (pJ z),cz b' o' fl r z h1 (fun h2=>h h2.2)⟩,fun b' z h1 _=>gow b' r z h1 (pJ z),eH⟩
 have tm:R Γ.St G' w' r p.tree q:=by
  cases hp:p with
  |zero u=>
   refine zJ4 u q (hH.zero u (by simp[hp])) (fun z=>by rw[ghd];simp[sHd,hp])
  |slot s0 t=>
   obtain⟨h1,h2,h3⟩:=hH.slot s0 t (by simp[hp]);have fk:=(g9.ent s0 t h1).2.1
   by_cases pS:sO t=jc
   ·have uh:s0≠r:=by
     rintro rfl
     have:=(Lj.1 hH.dist).1;simp[hp,xZ,pS]at this
    refine zKJ t [] q h3 ⟨fun z=>by rw[ghd,J9];simp[sHd,hp],fun z hz=>by rw[J9];exact gadm s0 t z hp hz,fun b' o' fl z _ h4=>?_,fun b' z h4=>?_,eH⟩ (xE.mono (fun _ _=>False.elim) t h2) fk
    ·rw[J9]at h4
     exact⟨glbm b' o' fl s0 z _ h4 (by simp[zGx,hp,pS]),cz b' o' fl s0 z h4 (fun h5=>uh h5.1)⟩
    ·rw[J9]at h4
     exact gowm b' s0 z _ h4 (by simp[zGx,hp,pS])
   ·have hh:G'.hd r q=G.hd s0 []:=by have:=ghd [];rw[Ji]at this;rw[this];simp[sHd,hp]
    cases t<;>simp[sO]at pS<;>simp only[R,yV.tree]at fk ⊢ <;>rw[hh]<;>exact fk
 have po:vals G' r p.tree q=qD G p:=by
  cases hp:p with
  |zero u=>exact zFl u q (hH.zero u (by simp[hp])) (fun z=>by rw[ghd];simp[sHd,hp])
  |slot s0 t=>exact zAH t [] q (fun z=>by rw[ghd];simp[sHd,hp])
 have d4:∀b' o',Loc G w r u0 q b' o'→Loc G' w' r p.tree q b' o':=by
  intro b' o' h1;have h2:b'=b∧o'=ob:=by have:=(zBD h1).symm.trans fb;simp at this;exact this
  obtain⟨rfl,rfl⟩:=h2;refine zRy p.tree u0 q b' o' fJ (fun y' h=>gadf y' h) (fun b2 o2 y' h=>glb b2 o2 jd r _ h (pJ _)) (fun j v hv=>?_) h1;rw[po]at hv;have hj:=(Jb.1 hv).1;have pI:(qD G p).length=u0.size:=by rw[←hc,gG]
  rw[f7,if_pos ⟨by omega,by omega⟩,show o'+j-o'=j from by omega];exact hv
 have aN:R Γ.St G' w' r (tr.set q.reverse p.tree) []:=by
  have cU:rp q.reverse []=q:=by simp[rp]
  refine zGc q.reverse tr p.tree u0 [] (by rw[cU];exact u8) e4 hg aI (xE.mono (fun _ _=>False.elim) tr (aC .any).2) (by rw[cU];exact d4) (by rw[cU];exact tm)
 have gB:=run_storeCells_at P b ob et (a.eval y).cells.toList 0 cs w gK (by omega) gp;simp only[Hy]at gB;rw[eC]at gB;refine⟨w',?_,G',vH g9 rfl gA gx ?_ ?_⟩
 ·have ue:(a.eval y).cells.size=ti.size:=by rw[p9,gv]
  simp[execOp,ho,t6,fb,Instr.storeAt,tY,storeVar,sizeOf,typeInfo,hi,ue,gB]
 ·intro s hs
  simp only[Wr.find]at hs;split at hs
  ·cases hs
  ·rename_i gf
   refine⟨fun n hn=>?_,rfl⟩;simp only[Jc,Jb2.injEq]at hn;rcases hn with⟨h1,_⟩|hn
   ·exact gf h1.symm
   ·cases p with
    |zero u=>simp[sP,xZ]at hn
    |slot s0 t=>
     by_cases pS:sO t=jc
     ·simp[sP,xZ,pS]at hn
      simp[sWr,pS,Wr.find,hn.1.symm]at hs
     ·simp[sP,xZ,pS]at hn
 ·intro s t hs
  simp only[Wr.find]at hs;split at hs
  ·rename_i he
   subst he;simp at hs;subst hs;refine⟨?_,aN,Top.of_clean _ (jQ _ _ _ (aC .any).2 ?_)⟩
   ·rw[e3,xV (aC p.tree).1,xV aO]
    congr 1
    exact(ghd' r [] (fun h=>tn (by simpa using h.2))).symm
   ·cases p with
    |zero u=>exact(zBk u (hH.zero u (by simp))).1
    |slot s0 t=>exact(hH.slot s0 t (by simp)).2.1
  ·rename_i gf
   cases hp:p with
   |zero u=>simp[sWr,hp,Wr.find]at hs
   |slot s0 t0=>
    by_cases pS:sO t0=jc
    ·simp only[sWr,hp,pS,if_true,Wr.find]at hs
     split at hs
     ·rename_i he
      subst he;simp at hs;subst hs;obtain⟨h1,h2,h3⟩:=hH.slot s0 t0 (by simp[hp]);refine zMY (G:=G) (g9.ent s0 t0 h1).1 (by rintro xs rfl;simp[T.okTup]at h3) (fun z=>ghd' s0 z (fun h=>gf h.1.symm)) (fun z=>by rw[ghd];simp[sHd,hp]) (by rw[hp]at tm;exact tm)
     ·cases hs
    ·simp[sWr,hp,pS,Wr.find]at hs
theorem zKO(T':TypeId)(ti:TypeInfo)(x y:Operand)(r:Nat)(q:List Nat)(tr u0:T)(p:yV)(ho:o.op=.store T' x y)(gk:o.dst=jb)
  (hi:P.info? T'=ja ti)(gv:ti.size=p.tree.size)(cW:0<ti.size)(hx:opT E x=ja (.addr r q))(hr:E r=ja tr)(aO:tr.single=jc)(hg:tr.get q.reverse=ja u0)(hl:tr.locd q.reverse=jc)
  (fJ:vE p.tree u0=jc)(hy:kV E y p)(hH:tP E r [p]):
  wN P Γ o E (E.app ((r,ja (tr.set q.reverse p.tree))::sWr r q p) ((r,q.length)::sP [p])):=
 zFo T' ti x y r q tr u0 p ho gk hi gv cW (zAI.addr hx) hr aO hg hl fJ hy hH
end
end Go.Ab

namespace Go.Ab
open Go
section
variable {G G':Gh}{s:Nat}
theorem zMZ(xs:List T):∀(p:List Nat)(j:Nat),(∀k,j≤k→ ∀z,G'.hd s (z++(k::p))=G.hd s (z++(k::p)))→yF G' s xs p j=yF G s xs p j:=by
 induction xs with
 |nil=>intros;simp only[yF]
 |cons z zs ih=>
  intro p j h;simp only[yF];rw[zAH z (j::p) (j::p) (h j (Jo _)),ih p (j+1) (fun k hk=>h k (by omega))]
theorem zPN(xs:List T):∀(p:List Nat)(j i:Nat)(x y:T),xs[i]? =ja x→(∀k,k≠j+i→ ∀z,G'.hd s (z++(k::p))=G.hd s (z++(k::p)))→
  vals G' s y ((j+i)::p)=vals G s x ((j+i)::p)→yF G' s (xs.set i y) p j=yF G s xs p j:=by
 induction xs with
 |nil=>intro p j i x y h;simp at h
 |cons z zs ih=>
  intro p j i x y h hz hy;cases i with
  |zero=>
   simp at h;subst h;simp only[Ku,yF];rw[show vals G' s y (j::p)=vals G s z (j::p)from by simpa using hy]
   congr 1
   exact zMZ zs p (j+1) (fun k hk=>hz k (by omega))
  |succ i=>
   simp only[Lm,yF];rw[zAH z (j::p) (j::p) (hz j (by omega)),ih p (j+1) i x y (by simpa using h) (fun k hk=>hz k (by omega)) (by rwa [show j+1+i=j+(i+1)from by omega])]
theorem zKP:(f:List Nat)→ ∀(t u u0:T)(p:List Nat),t.get f=ja u0→u0.single=jc→u.single=jc→(∀z,(rp f p<:+z→z=rp f p)→G'.hd s z=G.hd s z)→vals G' s (t.set f u) p=vals G s t p
 | [],t,u,u0,p,hg,h0,h1,hh=>by simp[T.get]at hg;subst hg;have:G'.hd s p=G.hd s p:=hh p (by simp[rp]);simp only[T.set];cases t<;>simp[T.single]at h0<;>cases u<;>simp[T.single]at h1<;>simp[vals,this]
 |i::f,t,u,u0,p,hg,h0,h1,hh=>by
  rw[zAG]at hh;have hp:G'.hd s p=G.hd s p:=hh p (fun h=>absurd h jZ);cases t with
  |agg xs=>
   simp only[T.get]at hg;cases hx:xs[i]? with
   |none=>simp[hx]at hg
   |some x=>
    rw[hx]at hg;simp only[T.set,hx,vals];refine zPN xs p 0 i x _ hx (fun k hk z=>hh _ (fun h=>absurd h (jN (by omega) z))) ?_;rw[Jg];exact zKP f x u u0 (i::p) hg h0 h1 hh
  |tup xs=>
   simp only[T.get]at hg;cases hx:xs[i]? with
   |none=>simp[hx]at hg
   |some x=>simp[T.set,hx,vals,hp]
  |sl k xs=>simp only[T.set];split<;>simp[vals,hp]
  |ptr t=>simp only[T.set];split<;>simp[vals,hp]
  |_=>simp[T.get]at hg
theorem zKQ(f:List Nat)(t u u0:T)(p:List Nat)(hg:t.get f=ja u0)(h0:u0.single=jc)(h1:u.single=jc)(hh:∀z,(rp f p<:+z→z=rp f p)→G'.hd s z=G.hd s z)(gR:∀xs,t≠.tup xs):
  sC G' s (t.set f u) p=sC G s t p:=by
 have h:=zKP f t u u0 p hg h0 h1 hh;cases f with
 |nil=>
  simp[T.get]at hg;subst hg;have:G'.hd s p=G.hd s p:=hh p (by simp[rp]);simp only[T.set];cases t<;>simp[T.single]at h0<;>cases u<;>simp[T.single]at h1<;>simp[sC,this]
 |cons i f=>
  rw[zAG]at hh;have hp:G'.hd s p=G.hd s p:=hh p (fun h=>absurd h jZ);cases t with
  |agg xs=>
   simp only[T.get]at hg;cases hx:xs[i]? with
   |none=>simp[hx]at hg
   |some x=>simp only[T.set,hx,vals]at h ⊢;simp only[sC,h]
  |tup xs=>exact absurd rfl (gR xs)
  |sl k xs=>simp only[T.set];split<;>simp[sC,hp]
  |ptr t=>simp only[T.set];split<;>simp[sC,hp]
  |_=>simp[T.get]at hg
theorem zPO(xs:List T):∀(p:List Nat)(j:Nat),(∀k,j≤k→ ∀z,G'.hd s (z++(k::p))=G.hd s (z++(k::p)))→qZ G' s xs p j=qZ G s xs p j:=by
 induction xs with
 |nil=>intros;simp only[qZ]
 |cons z zs ih=>
  intro p j h;simp only[qZ];rw[zBC z (j::p) (j::p) (h j (Jo _)),ih p (j+1) (fun k hk=>h k (by omega))]
theorem zRz(xs:List T):∀(p:List Nat)(j i:Nat)(x y:T),xs[i]? =ja x→(∀k,k≠j+i→ ∀z,G'.hd s (z++(k::p))=G.hd s (z++(k::p)))→
  sC G' s y ((j+i)::p)=sC G s x ((j+i)::p)→qZ G' s (xs.set i y) p j=qZ G s xs p j:=by
 induction xs with
 |nil=>intro p j i x y h;simp at h
 |cons z zs ih=>
  intro p j i x y h hz hy;cases i with
  |zero=>
   simp at h;subst h;simp only[Ku,qZ];rw[show sC G' s y (j::p)=sC G s z (j::p)from by simpa using hy]
   congr 1
   exact zPO zs p (j+1) (fun k hk=>hz k (by omega))
  |succ i=>
   simp only[Lm,qZ];rw[zBC z (j::p) (j::p) (hz j (by omega)),ih p (j+1) i x y (by simpa using h) (fun k hk=>hz k (by omega)) (by rwa [show j+1+i=j+(i+1)from by omega])]
def xS:T→Bool
 |.tup xs=>xs.all fun x=>match x with
  |.tup _=>jd
  |_=>jc
 |_=>jc
theorem zJ7(f:List Nat)(t u u0:T)(p:List Nat)(hg:t.get f=ja u0)(h0:u0.single=jc)(h1:u.single=jc)(hh:∀z,(rp f p<:+z→z=rp f p)→G'.hd s z=G.hd s z)(mS:xS t=jc):
  mkV G' s (t.set f u) p=mkV G s t p:=by
 by_cases ht:∃xs,t=.tup xs
 ·obtain⟨xs,rfl⟩:=ht
  cases f with
  |nil=>simp[T.get]at hg;subst hg;simp[T.single]at h0
  |cons i f=>
   rw[zAG]at hh;simp only[T.get]at hg;cases hx:xs[i]? with
   |none=>simp[hx]at hg
   |some x=>
    rw[hx]at hg;simp only[T.set,hx,mkV];rw[zRz xs p 0 i x _ hx (fun k hk z=>hh _ (fun h=>absurd h (jN (by omega) z)))];rw[Jg];refine zKQ f x u u0 (i::p) hg h0 h1 hh ?_
    rintro ys rfl
    simp only[xS]at mS;have:=Ki.1 mS _ (Kh hx);simp at this
 ·have gR:∀xs,t≠.tup xs:=fun xs e=>ht ⟨xs,e⟩
  rw[kH G s t p gR,←zKQ f t u u0 p hg h0 h1 hh gR];refine kH G' s _ p ?_
  rintro xs eT
  cases f with
  |nil=>simp[T.get]at hg;subst hg;simp only[T.set]at eT;subst eT;simp[T.single]at h1
  |cons i f=>cases t<;>simp only[T.set]at eT<;>first|exact absurd rfl (gR _)|(split at eT<;>cases eT)|cases eT
end
theorem zEy:(f:List Nat)→ ∀(t u:T),Top t→yD u→Top (t.set f u)
 | [],t,u,_,hu=>by simpa[T.set]using Top.of_clean u hu
 |i::f,t,u,ht,hu=>by
  cases t with
  |sl k xs=>
   refine Top.of_clean _ (jQ (i::f) _ u (by simpa only[Top,yD,xE]using ht) hu)
  |ptr t=>exact Top.of_clean _ (jQ (i::f) _ u (by simpa only[Top,yD,xE]using ht) hu)
  |agg xs=>
   simp only[T.set];split
   ·rename_i x hx
    simp only[Top]at ht ⊢
    exact tops_set xs i _ ht (zEy f x u (tops_get xs ht i x hx) hu)
   ·exact ht
  |tup xs=>
   simp only[T.set];split
   ·rename_i x hx
    simp only[Top]at ht ⊢
    exact tops_set xs i _ ht (zEy f x u (tops_get xs ht i x hx) hu)
   ·exact ht
  |_=>simpa only[T.set]using ht
where
 tops_set:(xs:List T)→ ∀(i:Nat)(y:T),vP xs→Top y→vP (xs.set i y)
  | [],_,_,_,_=>by simp[vP]
  |x::xs,0,y,h,hy=>by simp only[Ku,vP]at h ⊢;exact⟨hy,h.2⟩
  |x::xs,i+1,y,h,hy=>by simp only[Lm,vP]at h ⊢;exact⟨h.1,tops_set xs i y h.2 hy⟩
 tops_get:(xs:List T)→vP xs→ ∀(i:Nat)(x:T),xs[i]? =ja x→Top x
  | [],_,_,_,h=>by simp at h
  |y::ys,hk,i,x,h=>by
   simp only[vP]at hk;cases i with
   |zero=>simp at h;subst h;exact hk.1
   |succ i=>exact tops_get ys hk.2 i x (by simpa using h)
def Gh.tr(G:Gh)(d:Nat)(g:List Nat)(r:Nat)(p:List Nat):Gh where
 hd s z:=if s=d∧g<:+z then G.hd r (z.take (z.length-g.length)++p)else G.hd s z
 ad s z:=if s=d∧g<:+z∧z≠g then G.ad r (z.take (z.length-g.length)++p)else G.ad s z
 lb b o:=match G.lb b o with
  |some (fl,s,z)=>if s=r∧p<:+z∧(fl=jc∨z≠p)then ja (fl,d,z.take (z.length-p.length)++g)else ja (fl,s,z)
  |none=>jb
 ow b:=match G.ow b with
  |some (s,z)=>if s=r∧p<:+z then ja (d,z.take (z.length-p.length)++g)else ja (s,z)
  |none=>jb
theorem zGg{t:T}(h:t.single=jc):t.size=1:=by cases t<;>simp[T.single]at h<;>simp[T.size]
theorem zDP{Γ:Ctx}{E:Env}{G:Gh}{tmps:Array Value}{w:World}(g9:Rep Γ E G tmps w)(d:Nat)(g:List Nat)(r:Nat)(p:List Nat)(td tr u v0:T)(hd:E d=ja td)(hg:td.get g.reverse=ja v0)(az:v0.single=jc)(gM:G.hd d g=G.hd r p)(hr:E r=ja tr)
  (hp:tr.get p.reverse=ja u)(hu:u.single=jc)(eK:yD u)(gX:d≠r)(bD:td.okB [(d,g.length+1),(r,p.length+1)]=jc)(pM:tr.okB [(d,g.length+1),(r,p.length+1)]=jc)(p8:xS td=jc)(cQ:xS tr=jc):
  Rep Γ (E.app [(d,ja (td.set g.reverse u)),(r,ja (if p=[]then .same d g else tr.set p.reverse .any))] [(d,g.length+1),(r,p.length+1)]) (G.tr d g r p) tmps w∧ ∀s z,¬(s=d∧g<:+z∧z≠g)→(G.tr d g r p).hd s z=G.hd s z:=by
 obtain⟨d1,d2,d3⟩:=g9.ent d td hd;obtain⟨r1,r2,r3⟩:=g9.ent r tr hr;have hm:=g9.mem;have tm:=(zAx p.reverse tr u [] r2 hp).1;simp only[rp,Ks,J9]at tm;have gK:Blk w w:=fun b cs e' h=>⟨cs,h,rfl⟩
 generalize gn:G.tr d g r p=G'
 have ghd:∀z,G'.hd d (z++g)=G.hd r (z++p):=fun z=>by rw[←gn];simp[Gh.tr]
 have ghd0:∀s z,¬(s=d∧g<:+z∧z≠g)→G'.hd s z=G.hd s z:=by
  intro s z h;rw[←gn];simp only[Gh.tr]
  by_cases h2:s=d∧g<:+z
  ·have h3:z=g:=by
    rcases Decidable.em (z=g)with e|e
    ·exact e
    ·exact absurd ⟨h2.1,h2.2,e⟩ h
   subst h3;rw[if_pos h2,h2.1];simpa using gM.symm
  ·rw[if_neg h2]
 have gad0:∀s z,¬(s=d∧g<:+z∧z≠g)→G'.ad s z=G.ad s z:=fun s z h=>by rw[←gn];simp only[Gh.tr];rw[if_neg h]
 have gad:∀z,z≠[]→G'.ad d (z++g)=G.ad r (z++p):=fun z h=>by rw[←gn];simp only[Gh.tr];rw[if_pos (by simpa using h)];simp
 have glb0:∀b o fl s z,G.lb b o=ja (fl,s,z)→ ¬(s=r∧p<:+z∧(fl=jc∨z≠p))→G'.lb b o=ja (fl,s,z):=fun b o fl s z h1 h2=>by rw[←gn];simp only[Gh.tr,h1];rw[if_neg h2]
 have glb:∀b o fl z,G.lb b o=ja (fl,r,z++p)→(fl=jc∨z≠[])→G'.lb b o=ja (fl,d,z++g):=fun b o fl z h1 h2=>by rw[←gn];simp only[Gh.tr,h1];rw[if_pos (by simpa using h2)];simp
 have gow0:∀b s z,G.ow b=ja (s,z)→ ¬(s=r∧p<:+z)→G'.ow b=ja (s,z):=fun b s z h1 h2=>by rw[←gn];simp only[Gh.tr,h1];rw[if_neg h2]
 have gow:∀b z,G.ow b=ja (r,z++p)→G'.ow b=ja (d,z++g):=fun b z h1=>by rw[←gn];simp only[Gh.tr,h1];rw[if_pos (by simp)];simp
 have gF:∀s z,Off [(d,g.length+1),(r,p.length+1)] s z→ ¬(s=d∧g<:+z∧z≠g):=by
  rintro s z h ⟨rfl,⟨y,rfl⟩,h3⟩
  have:=h (g.length+1) (by simp);have:y=[]:=Kd (by simp at this;omega);exact h3 (by simp[this])
 have gA:qU [(d,g.length+1),(r,p.length+1)] G w G' w:=by
  refine⟨fun s z h=>ghd0 s z (gF s z h),fun s z h=>gad0 s z (gF s z h),fun b o fl s z _ h1 h2=>⟨glb0 b o fl s z h1 ?_,rfl⟩,fun b s z h1 h2=>gow0 b s z h1 ?_,gK⟩
  ·rintro⟨rfl,_⟩;exact h2 (p.length+1) (by simp)
  ·rintro⟨rfl,_⟩;exact h2 (p.length+1) (by simp)
 have gx:Mem Γ G' w:=by
  refine⟨fun s z=>?_,fun b o l hl=>?_,fun b l hl=>?_,hm.st,hm.fr,hm.sz,hm.bk⟩
  ·rw[←gn]
   simp only[Gh.tr];split
   ·exact hm.one _ _
   ·exact hm.one _ _
  ·have:∃l',G.lb b o=ja l':=by
    rw[←gn]at hl;simp only[Gh.tr]at hl;split at hl
    ·exact⟨_,by assumption⟩
    ·cases hl
   obtain⟨l',bM⟩:=this;exact hm.lb b o l' bM
  ·have:∃l',G.ow b=ja l':=by
    rw[←gn]at hl;simp only[Gh.tr]at hl;split at hl
    ·exact⟨_,by assumption⟩
    ·cases hl
   obtain⟨l',bM⟩:=this;exact hm.ow b l' bM
 have cU:∀q:List Nat,rp q.reverse []=q:=fun q=>by simp[rp]
 have hud:R Γ.St G' w d u g:=by
  refine zAf (G:=G) (w:=w) (s:=r) (p:=p) ⟨⟨ghd,gad,fun b o f z hz _ hl=>⟨glb b o f z hl (.inr hz),rfl⟩,fun b z _ hl=>gow b z hl,gK⟩,fun b o _ hl=>⟨by simpa using glb b o jc [] (by simpa using hl) (.inl rfl),rfl⟩,fun b hl=>by simpa using gow b [] (by simpa using hl)⟩ u
   (xE.mono (fun _ _=>False.elim) u eK) tm
 have aA:Upd G w G' w d g:=⟨fun z h=>ghd0 d z (fun h2=>h h2.2.1),fun z h=>gad0 d z (fun h2=>h h2.2.1),fun b o f z h1 _=>⟨glb0 b o f d z h1 (fun h2=>gX h2.1),rfl⟩,fun b z h1 _=>gow0 b d z h1 (fun h2=>gX h2.1),gK⟩;have d5:∀b o,Loc G w d v0 g b o→Loc G' w d u g b o:=by intro b o h1;obtain⟨h2,h3,h4⟩:=vA az h1;have h5:G'.ad d g=⟨b,o,jb⟩∧G'.lb b o=ja (jd,d,g)∧yS w b o=ja (G'.hd d g):=⟨(gad0 d g (fun h=>h.2.2 rfl)).trans h2,glb0 b o jd d g h3 (fun h=>gX h.1),by rw[h4,ghd0 d g (fun h=>h.2.2 rfl)]⟩;cases u<;>simp[T.single]at hu<;>simpa only[Loc]using h5
 have dw:R Γ.St G' w d (td.set g.reverse u) []:=
  zGc g.reverse td u v0 [] (by rw[cU];exact aA) d2 hg (by rw[zGg az,zGg hu]) (gA.keepR (zAg td d3 bD)) (by rw[cU];exact d5) (by rw[cU];exact hud)
 have hVd:mkV G' d (td.set g.reverse u) []=mkV G d td []:=
  zJ7 g.reverse td u v0 [] hg az hu (fun z hz=>ghd0 d z (fun h2=>h2.2.2 (by rw[cU]at hz;exact hz h2.2.1))) p8
 have hRr:p≠[]→R Γ.St G' w r (tr.set p.reverse .any) []:=by intro tu;refine zGc p.reverse tr .any u [] (by rw[cU];exact⟨fun z _=>ghd0 r z (fun h2=>gX h2.1.symm),fun z _=>gad0 r z (fun h2=>gX h2.1.symm),fun b o f z h1 h=>⟨glb0 b o f r z h1 (fun h2=>h h2.2.1),rfl⟩,fun b z h1 h=>gow0 b r z h1 (fun h2=>h h2.2),gK⟩) r2 hp (by cases u<;>simp[T.single]at hu<;>simp[T.size]) (gA.keepR (zAg tr r3 pM)) ?_ (by simp only[R]);rw[cU];intro b o h1;obtain⟨h2,h3,h4⟩:=vA hu h1;simp only[Loc];exact⟨(gad0 r p (fun h=>gX h.1.symm)).trans h2,glb0 b o jd r p h3 (by simp),by rw[h4,ghd0 r p (fun h=>gX h.1.symm)]⟩
 have hVr:p≠[]→mkV G' r (tr.set p.reverse .any) []=mkV G r tr []:=fun _=>
  zJ7 p.reverse tr .any u [] hp hu rfl (fun z _=>ghd0 r z (fun h2=>gX h2.1.symm)) cQ
 refine⟨vH g9 rfl gA gx ?_ ?_,ghd0⟩
 ·intro s hs
  simp only[Wr.find]at hs;split at hs
  ·cases hs
  ·rename_i h1
   split at hs
   ·cases hs
   ·rename_i h2
    refine⟨fun n hn=>?_,rfl⟩;simp only[Jc,Jb2.injEq,Jb7,or_false]at hn;rcases hn with⟨e,_⟩|⟨e,_⟩
    ·exact h1 e.symm
    ·exact h2 e.symm
 ·intro s t hs
  simp only[Wr.find]at hs;split at hs
  ·rename_i he
   subst he;simp at hs;subst hs;exact⟨by rw[d1,hVd],dw,zEy _ _ _ d3 eK⟩
  ·split at hs
   ·rename_i he
    subst he;simp at hs
    by_cases tu:p=[]
    ·rw[if_pos tu]at hs
     subst hs;subst tu;simp[T.get]at hp;subst hp;refine⟨?_,?_,by simp[Top]⟩
     ·rw[r1,xV hu,xV rfl,ghd0 r [] (fun h=>gX h.1.symm)]
     ·simp only[R]
      rw[ghd0 r [] (fun h=>gX h.1.symm)];have:=ghd [];simpa using this.symm
    ·rw[if_neg tu]at hs
     subst hs;exact⟨by rw[r1,hVr tu],hRr tu,zEy _ _ _ r3 (by simp[yD,xE])⟩
   ·cases hs
theorem zNa{Γ:Ctx}{E:Env}{a:Act}{w:World}(h:Sim Γ E a w)(d:Nat)(g:List Nat)(r:Nat)(p:List Nat)(td tr u:T)(hd:E d=ja td)(hg:td.get g.reverse=ja (.same r p))(hr:E r=ja tr)
  (hp:tr.get p.reverse=ja u)(hu:u.single=jc)(eK:yD u)(gX:d≠r)(bD:td.okB [(d,g.length+1),(r,p.length+1)]=jc)(pM:tr.okB [(d,g.length+1),(r,p.length+1)]=jc)(p8:xS td=jc)(cQ:xS tr=jc):
  Sim Γ (E.app [(d,ja (td.set g.reverse u)),(r,ja (if p=[]then .same d g else tr.set p.reverse .any))] [(d,g.length+1),(r,p.length+1)]) a w:=by
 obtain⟨gQ,G,g9⟩:=h;have gM:=(zAx g.reverse td _ [] (g9.ent d td hd).2.1 hg).1;simp only[rp,Ks,J9,R]at gM;exact⟨gQ,_,(zDP g9 d g r p td tr u _ hd hg rfl gM hr hp hu eK gX bD pM p8 cQ).1⟩
end Go.Ab

namespace Go.Ab
open Go
theorem zJ8{St:Stb}{G:Gh}{w:World}{s:Nat}{k:Nat}:(xs:List T)→ ∀(p:List Nat)(j b o:Nat),(∀i x,xs[i]? =ja x→Loc G w s x ((j+i)::p) b (o+i*k)∧x.size=k∧R St G w s x ((j+i)::p))→RL St G w s xs p j b o k
 | [],_,_,_,_,_=>by simp only[RL]
 |x::xs,p,j,b,o,h=>by
  obtain⟨h1,h2,h3⟩:=h 0 x (by simp);simp only[RL];refine⟨⟨by simpa using h1,h2⟩,by simpa using h3,zJ8 xs p (j+1) b (o+k) (fun i y hy=>?_)⟩;have:=h (i+1) y (by simpa using hy)
  rwa [show j+(i+1)=j+1+i from by omega,show o+(i+1)*k=o+k+i*k from by rw[Jy];omega]at this
theorem zA0{St:Stb}{G:Gh}{w:World}{s:Nat}{k:Nat}:(xs:List T)→ ∀(p:List Nat)(j b o:Nat),RL St G w s xs p j b o k→vG G w s xs p j b o
 | [],_,_,_,_,_=>by simp only[vG]
 |x::xs,p,j,b,o,h=>by simp only[RL]at h;simp only[vG];exact⟨h.1.1,zA0 xs p (j+1) b (o+x.size) (by rw[h.1.2];exact h.2.2)⟩
theorem zBn{St:Stb}{G:Gh}{w:World}{s:Nat}{k:Nat}:(xs:List T)→ ∀(p:List Nat)(j b o:Nat),RL St G w s xs p j b o k→RF St G w s xs p j∧ ∀x∈xs,x.size=k
 | [],_,_,_,_,_=>by simp[RF]
 |x::xs,p,j,b,o,h=>by simp only[RL]at h;obtain⟨h1,h2⟩:=zBn xs p (j+1) b (o+k) h.2.2;exact⟨by simp only[RF];exact⟨h.2.1,h1⟩,fun y hy=>by rcases Jc.1 hy with rfl|hy;exact h.1.2;exact h2 y hy⟩
section
variable {G:Gh}{w:World}{G':Gh}{w':World}{s s':Nat}
mutual
theorem zHb:(t:T)→ ∀(p p':List Nat)(b o:Nat),(∀z,G'.hd s' (z++p')=G.hd s (z++p))→(∀z,G'.ad s' (z++p')=G.ad s (z++p))→
  (∀b o z,G.lb b o=ja (jd,s,z++p)→G'.lb b o=ja (jd,s',z++p')∧yS w' b o=yS w b o)→Loc G w s t p b o→Loc G' w' s' t p' b o
 |.agg xs,p,p',b,o,hh,ha,hl,h=>by
  simp only[Loc]at h ⊢
  exact⟨by have:=ha [];simp at this;rw[this];exact h.1,zIN xs p p' 0 b o hh ha hl h.2⟩
 |.any,p,p',b,o,hh,ha,hl,h|.lit _,p,p',b,o,hh,ha,hl,h|.ro _,p,p',b,o,hh,ha,hl,h|.same _ _,p,p',b,o,hh,ha,hl,h|.addr _ _,p,p',b,o,hh,ha,hl,h|.sub _ _ _ _ _,p,p',b,o,hh,ha,hl,h|.sl _ _,p,p',b,o,hh,ha,hl,h|.ptr _,p,p',b,o,hh,ha,hl,h=>by
  simp only[Loc]at h ⊢
  have h1:=hl b o [] (by simpa using h.2.1);have h2:=ha [];have h3:=hh [];simp only[Ji]at h1 h2 h3;exact⟨h2.trans h.1,h1.1,by rw[h1.2,h.2.2,h3]⟩
 |.tup _,_,_,_,_,_,_,_,h=>by simp only[Loc]at h
theorem zIN:(xs:List T)→ ∀(p p':List Nat)(j b o:Nat),(∀z,G'.hd s' (z++p')=G.hd s (z++p))→(∀z,G'.ad s' (z++p')=G.ad s (z++p))→
  (∀b o z,G.lb b o=ja (jd,s,z++p)→G'.lb b o=ja (jd,s',z++p')∧yS w' b o=yS w b o)→vG G w s xs p j b o→vG G' w' s' xs p' j b o
 | [],_,_,_,_,_,_,_,_,_=>by simp only[vG]
 |x::xs,p,p',j,b,o,hh,ha,hl,h=>by
  simp only[vG]at h ⊢
  exact⟨zHb x (j::p) (j::p') b o (fun z=>by have:=hh (z++[j]);simpa using this) (fun z=>by have:=ha (z++[j]);simpa using this) (fun b o z hz=>by have:=hl b o (z++[j]) (by simpa using hz);simpa using this) h.1,
   zIN xs p p' (j+1) b _ hh ha hl h.2⟩
end
end
theorem zEz(G:Gh)(s:Nat):∀(xs us:List T)(p:List Nat)(j:Nat),yF G s (xs++us) p j=yF G s xs p j++yF G s us p (j+xs.length)
 | [],us,p,j=>by simp[yF]
 |x::xs,us,p,j=>by simp[yF,zEz G s xs us p (j+1),Lt,Jcr 1]
theorem zE0:∀(xs us:List T),T.sizes (xs++us)=T.sizes xs+T.sizes us
 | [],us=>by simp[T.sizes]
 |x::xs,us=>by simp[T.sizes,zE0 xs us,Lt]
theorem zD4:∀(xs us:List T),yU xs=jc→yU us=jc→yU (xs++us)=jc
 | [],us,_,h=>h
 |x::xs,us,h,h'=>by
  simp only[yU,J4,Jp]at h ⊢
  exact⟨h.1,zD4 xs us h.2 h'⟩
theorem zD5:∀(xs us:List T),xJ xs→xJ us→xJ (xs++us)
 | [],us,_,h=>h
 |x::xs,us,h,h'=>by
  simp only[xJ,wB,Jp]at h ⊢
  exact⟨h.1,zD5 xs us h.2 h'⟩
theorem kB{St:Stb}{G:Gh}{w:World}{s:Nat}{k:Nat}:(xs:List T)→ ∀(p:List Nat)(j b o:Nat),vG G w s xs p j b o→yU xs=jc
 | [],_,_,_,_,_=>rfl
 |x::xs,p,j,b,o,h=>by simp only[vG]at h;simp only[yU,J4];exact⟨one x (j::p) b o h.1,kB (St:=St) (k:=k) xs p (j+1) b _ h.2⟩
where
 one:(t:T)→ ∀(p:List Nat)(b o:Nat),Loc G w s t p b o→t.okTup=jc
  |.agg xs,p,b,o,h=>by simp only[Loc]at h;simp only[T.okTup];exact kB (St:=St) (k:=k) xs p 0 b o h.2
  |.tup _,_,_,_,h=>by simp only[Loc]at h
  |.any,_,_,_,_|.lit _,_,_,_,_|.ro _,_,_,_,_|.same _ _,_,_,_,_|.addr _ _,_,_,_,_|.sub _ _ _ _ _,_,_,_,_|.sl _ _,_,_,_,_|.ptr _,_,_,_,_=>rfl
section
variable {P:Program}
structure zHc (P:Program) (t2:TypeId) (e:TypeId) (ti:TypeInfo) (xv:Value) (m:Nat) (nv:List Value) (w:World):Prop where
 arg:(∃e2 xa c,P.underlying t2=ja (.slice e2)∧xv=.slice xa m c∧ ∀w2:World,w2.heap=w.heap→(Builtin.firstCells ti.size m (.slice xa m c)).run P w2=.ok nv.toArray w2)∨
  ∃k2 k3 z,P.underlying t2=ja (.int k2)∧xv=.int k3 (m:Int)∧ti.zero=ja z∧nv.toArray=Builtin.zeroCells z.cells m∧m*ti.bytes≤2 ^ 47∧z.cells.size=ti.size
theorem zE1{t t2 ty e:TypeId}{ti:TypeInfo}{xv:Value}{m:Nat}{nv:List Value}{w w':World}(ht:P.underlying t=ja (.slice e))(hi:P.info? e=ja ti)
  (hx:zHc P t2 e ti xv m nv w)(hm:m≤68719476736){base:Option Addr}{n cap:Nat}(gV:n+m≤cap)
  (gB:(if let ja a:=base then storeCells (a.add (n*ti.size)) nv else pure ():Sem Unit).run P w=.ok () w'):
  (Builtin.append_ #[t,t2] ty #[.slice base n cap,xv]).run P w=.ok (.slice base (n+m) cap) w':=by
 rcases hx.arg with⟨e2,xa,c,h1,rfl,h2⟩|⟨k2,k3,z,h1,rfl,h2,h3,h4,h5⟩
 ·have h2:=h2 w rfl
  cases base with
  |none=>
   simp at gB;subst gB;simp[Builtin.append_,run_underlying ht,run_underlying h1,sizeOf,typeInfo,hi,Builtin.lenOf,gV,h2]
  |some a=>
   simp only at gB;simp[Builtin.append_,run_underlying ht,run_underlying h1,sizeOf,typeInfo,hi,Builtin.lenOf,gV,h2,gB]
 ·have mX:IntKind.i64.wrap (m:Int)=m:=by rw[IntKind.wrap_i64];omega
  have te:¬(281474976710656<(m:Int)*(ti.bytes:Int)):=by
   have:((m*ti.bytes:Nat):Int)≤2 ^ 47:=by exact_mod_cast h4
   rw[L6]at this;omega
  have cw:¬((m:Int)<0):=by omega
  have tx:nv=(Builtin.zeroCells z.cells m).toList:=by rw[←h3]
  by_cases hz:m*ti.size=0
  ·have bE:nv=[]:=by
    apply Kd;rw[tx];simp[Builtin.zeroCells,h5,hz]
   subst bE;cases base with
   |none=>
    simp at gB;subst gB;simp[Builtin.append_,run_underlying ht,run_underlying h1,sizeOf,typeInfo,hi,asInt,asIntOf,mX,te,cw,gV,hz]
   |some a=>
    simp only[storeCells,Sem.run_pure]at gB;cases gB;simp[Builtin.append_,run_underlying ht,run_underlying h1,sizeOf,typeInfo,hi,asInt,asIntOf,mX,te,cw,gV,hz,storeCells]
  ·cases base with
   |none=>
    simp at gB;subst gB;simp[Builtin.append_,run_underlying ht,run_underlying h1,sizeOf,typeInfo,zeroValue,hi,h2,asInt,asIntOf,mX,te,cw,gV]
   |some a=>
    simp only[tx]at gB;simp[Builtin.append_,run_underlying ht,run_underlying h1,sizeOf,typeInfo,zeroValue,hi,h2,asInt,asIntOf,mX,te,cw,gV,hz,gB]
theorem zJ9{t t2 ty e:TypeId}{ti:TypeInfo}{z xv:Value}{m:Nat}{nv olds:List Value}{w:World}(ht:P.underlying t=ja (.slice e))(hi:P.info? e=ja ti)(hz:ti.zero=ja z)
  (hx:zHc P t2 e ti xv m nv w){base:Option Addr}{n cap:Nat}(ee:cap<n+m)(cX:n+m≤68719476736)(hb:ti.bytes≤2048)
  (gH:∀w2:World,w2.heap=w.heap→(Builtin.firstCells ti.size n (.slice base n cap)).run P w2=.ok olds.toArray w2):
  (Builtin.append_ #[t,t2] ty #[.slice base n cap,xv]).run P w=.ok (.slice (ja ⟨w.heap.size,0,jb⟩) (n+m) (grownCap w (n+m) cap e))
    (w.drew.alloc (.cells ((olds++nv).toArray++Builtin.zeroCells z.cells (grownCap w (n+m) cap e-(n+m))) e)):=by
 have hn:¬(n+m≤cap):=by omega
 have ta:¬(9223372036854775807<((n:Int)+(m:Int))):=by omega
 have iN:=growslice_fits (need:=n+m) (old:=cap) (bytes:=ti.bytes) ee (L9 (K6 cX hb) (by decide));have tc:¬(281474976710656<Builtin.nextslicecap (n+m) cap*ti.bytes):=by omega
 have ho:=gH w.drew rfl;rcases hx.arg with⟨e2,xa,c,h1,rfl,h2⟩|⟨k2,k3,z',h1,rfl,h2,h3,h4,h5⟩
 ·have h2:=h2 w.drew rfl
  simp[Builtin.append_,run_underlying ht,run_underlying h1,sizeOf,typeInfo,zeroValue,hi,hz,Builtin.lenOf,hn,ta,tc,Question.forced,h2,ho,newRow,grownCap]
  congr 2
  apply Jct;simp
 ·have mX:IntKind.i64.wrap (m:Int)=m:=by rw[IntKind.wrap_i64];omega
  have te:¬(281474976710656<(m:Int)*(ti.bytes:Int)):=by
   have:((m*ti.bytes:Nat):Int)≤2 ^ 47:=by exact_mod_cast h4
   rw[L6]at this;omega
  have cw:¬((m:Int)<0):=by omega
  have tx:nv=(Builtin.zeroCells z'.cells m).toList:=by rw[←h3]
  rw[hz]at h2;simp at h2;subst h2
  by_cases mz:m*ti.size=0
  ·have bE:nv=[]:=by
    apply Kd;rw[tx];simp[Builtin.zeroCells,h5,mz]
   subst bE;simp[Builtin.append_,run_underlying ht,run_underlying h1,sizeOf,typeInfo,zeroValue,hi,hz,asInt,asIntOf,mX,te,cw,hn,ta,tc,Question.forced,mz,ho,newRow,grownCap]
  ·simp[Builtin.append_,run_underlying ht,run_underlying h1,sizeOf,typeInfo,zeroValue,hi,hz,asInt,asIntOf,mX,te,cw,hn,ta,tc,Question.forced,mz,ho,newRow,grownCap,←h3]
   congr 2
   apply Jct;simp
end
def zDQ(s0:Nat)(y:Option Nat)(n:Nat)(s:Nat)(z:List Nat):Option (List Nat):=
 if s=s0 then ja z else if y=ja s then(match z.getLast? with
  |some j=>ja (z.dropLast++[n+j])
  |none=>jb)else jb
def Gh.ip(G:Gh)(d s0:Nat)(y:Option Nat)(b n k:Nat)(us:List T)(f2:Nat→List Nat→Value)(gX:Value):Gh where
 hd s z:=if s=d then(match z.getLast? with
  |some i=>if i<n then G.hd s0 z else f2 (i-n) z.dropLast
  |none=>gX)else G.hd s z
 ad s z:=if s=d then(match z.getLast? with
  |some i=>if i<n then G.ad s0 z else if(T.agg us).inT ((i-n)::z.dropLast.reverse)then⟨b,n*k+(T.agg us).offT ((i-n)::z.dropLast.reverse),jb⟩else(match y with
   |some y=>G.ad y (z.dropLast++[i-n])
   |none=>default)
  |none=>default)else G.ad s z
 lb b' o:=if b'=b∧n*k≤o∧o<n*k+us.length*k then(match zCd us [] n (o-n*k)with
  |some p=>ja (jd,d,p)
  |none=>jb)else match G.lb b' o with
  |some (fl,s,z)=>(match zDQ s0 y n s z with
   |some z'=>ja (fl,d,z')
   |none=>ja (fl,s,z))
  |none=>jb
 ow b':=match G.ow b' with
  |some (s,z)=>(match zDQ s0 y n s z with
   |some z'=>ja (d,z')
   |none=>ja (s,z))
  |none=>jb
def aWr(d s0:Nat)(y:Option Nat)(k:Nat)(ts:List T):Wr:=(d,ja (.sl k ts))::(s0,ja .any)::(match y with
 |some y=>[(y,ja .any)]
 |none=>[])
def zAE(d s0:Nat)(y:Option Nat):Chg:=(d,0)::(s0,1)::(match y with
 |some y=>[(y,1)]
 |none=>[])
structure zHd (Γ:Ctx) (E:Env) (G:Gh) (d s0:Nat) (y:Option Nat) (k n:Nat) (us:List T) (f2:Nat→List Nat→Value) (nv:List Value):Prop where
 size:∀u∈us,u.size=k
 tup:yU us=jc
 clean:xJ us
 one:∀j z,(f2 j z).oneCell'=jc
 len:nv.length=us.length*k
 slot:∀y',y=ja y'→y'≠d∧y'≠s0∧E y'=ja (.sl k us)∧ ∀j z,f2 j z=G.hd y' (z++[j])
 none:y=jb→ ∀(j:Nat) u,us[j]? =ja u→ ∀(G2:Gh)(w2:World),(∀z,G2.hd d (z++[n+j])=f2 j z)→R Γ.St G2 w2 d u [n+j]
 vals:∀(G2:Gh),(∀j z,G2.hd d (z++[n+j])=f2 j z)→ ∀(o:Nat)(v:Value),(yF G2 d us [] n)[o]? =ja v→nv[o]? =ja v
theorem zKR{G G2:Gh}{s d:Nat}:(xs:List T)→ ∀(p:List Nat)(j:Nat),(∀i,i<xs.length→ ∀z,G2.hd d (z++((j+i)::p))=G.hd s (z++((j+i)::p)))→yF G2 d xs p j=yF G s xs p j
 | [],_,_,_=>by simp only[yF]
 |x::xs,p,j,h=>by
  simp only[yF];have ih:yF G2 d xs p (j+1)=yF G s xs p (j+1):=zKR xs p (j+1) (fun i hi z=>by rw[show j+1+i=j+(i+1)from by omega];exact h (i+1) (by simpa using hi) z)
  rw[zAH x (j::p) (j::p) (by simpa using h 0 (by simp)),ih]
theorem zI4(z:List Nat):z=[]∨ ∃y i,z=y++[i]:=by
 rcases List.eq_nil_or_concat z with h|⟨y,i,h⟩
 ·exact .inl h
 ·exact .inr ⟨y,i,by simpa using h⟩
section
variable {P:Program}{Γ:Ctx}{E:Env}{d:Nat}
theorem zBG{G:Gh}{a:Act}{w:World}(g9:Rep Γ E G a.tmps w)(hd:d<Γ.N){t t2 ty e:TypeId}{ti:TypeInfo}{z:Value}{k:Nat}(ht:P.underlying t=ja (.slice e))(hi:P.info? e=ja ti)(hz:ti.zero=ja z)
  (hk:ti.size=k)(_hk0:0<k)(fx:z.cells.size=k)(hb:ti.bytes≤2048){s0:Nat}{y:Option Nat}{xs us:List T}{f2:Nat→List Nat→Value}{nv:List Value}(eE:E s0=ja (.sl k xs))(fE:s0≠d)
  (hn:zHd Γ E G d s0 y k xs.length us f2 nv){xv:Value}(hx:zHc P t2 e ti xv us.length nv w)(gp:∀v∈nv,v.oneCell'=jc)(cX:xs.length+us.length≤68719476736):
  ∃v w',(Builtin.append_ #[t,t2] ty #[G.hd s0 [],xv]).run P w=.ok v w'∧ ∃G',Rep Γ (E.app (aWr d s0 y k (xs++us)) (zAE d s0 y)) G' (a.tmps.setIfInBounds d v) w':=by
 have hm:=g9.mem;obtain⟨e1,e2,e3⟩:=g9.ent s0 _ eE;simp only[Top]at e3;simp only[R]at e2;have ba:T.sizes us=us.length*k:=wU us hn.size;have fin:∀(G':Gh)(w':World)(v:Value),qU (zAE d s0 y) G w G' w'→Mem Γ G' w'→G'.hd d []=v→R Γ.St G' w' d (.sl k (xs++us)) []→(∀s p,s≠d→G'.hd s p=G.hd s p)→
   Rep Γ (E.app (aWr d s0 y k (xs++us)) (zAE d s0 y)) G' (a.tmps.setIfInBounds d v) w':=by
  intro G' w' v gA gx iP dw hother;refine vH g9 (by simp) gA gx ?_ ?_
  ·intro s hs
   have gf:s≠d:=by rintro rfl;simp[aWr,Wr.find]at hs
   have cY:s≠s0:=by rintro rfl;simp[aWr,Wr.find,gf.symm]at hs
   have iw:∀y',y=ja y'→s≠y':=by
    rintro y' rfl rfl
    simp[aWr,Wr.find,gf.symm,cY.symm]at hs
   refine⟨fun n' hn'=>?_,by rw[Jf];simp[gf.symm]⟩;simp only[zAE,Jc,Jb2.injEq]at hn';rcases hn' with⟨h1,_⟩|⟨h1,_⟩|hn'
   ·exact gf h1
   ·exact cY h1
   ·cases y with
    |none=>simp at hn'
    |some y'=>simp at hn';exact iw y' rfl hn'.1
  ·intro s t' hs
   by_cases h1:s=d
   ·subst h1
    simp[aWr,Wr.find]at hs;subst hs;refine⟨?_,dw,by simp only[Top];exact zD5 xs us e3 hn.clean⟩;rw[Jf];simp[g9.size,hd,mkV,iP]
   ·have h3:t'=.any∧(s=s0∨y=ja s):=by
     simp only[aWr,Wr.find]at hs;rw[if_neg (fun h=>h1 h.symm)]at hs;split at hs
     ·rename_i h2;simp at hs;exact⟨hs.symm,.inl h2.symm⟩
     ·cases y with
      |none=>simp[Wr.find]at hs
      |some y'=>
       simp only[Wr.find]at hs;split at hs
       ·rename_i h2;simp at hs;exact⟨hs.symm,.inr (by rw[h2])⟩
       ·cases hs
    obtain⟨rfl,h3⟩:=h3;refine⟨?_,by simp only[R],by simp[Top]⟩;rw[Jf];simp only[Ne.symm h1,if_false,mkV];rw[hother s [] h1];rcases h3 with rfl|h3
    ·exact e1
    ·obtain⟨_,_,h4,_⟩:=hn.slot s h3
     exact(g9.ent s _ h4).1
 have pK:∀s p,(∀n',(s,n')∉zAE d s0 y)→zDQ s0 y xs.length s p=jb:=by
  intro s p h;have h1:s≠s0:=fun e=>h 1 (by simp[zAE,e])
  have h2:y≠ja s:=fun e=>h 1 (by simp[zAE,e])
  simp[zDQ,h1,h2]
 by_cases gV:∃a' c,G.hd s0 []=.slice a' xs.length c∧xs.length+us.length≤c
 ·
  obtain⟨a',c,hh,gV⟩:=gV;rcases e2 with⟨rfl,a1,h1⟩|⟨b,cap,cs,et,h1,h2,h3,h4,h5,h6,h7,h8⟩
  ·rw[h1]at hh
   simp at hh;obtain⟨rfl,rfl⟩:=hh;have ff:us=[]:=Kd (by simp only[Ju]at gV;omega);subst ff;have tx:nv=[]:=Kd (by have:=hn.len;simp at this;simp[this]);subst tx;have gy:=zE1 (P:=P) (t:=t) (ty:=ty) (w':=w) ht hi hx (by simp) (base:=a1) (n:=0) (cap:=0) (by simp) (by cases a1<;>rfl);refine⟨.slice a1 0 0,w,by rw[h1];exact gy,G.put d (fun _=>.slice a1 0 0),fin _ w _ ?_ (hm.put rfl d _ (fun _=>rfl)) (by rw[Gh.put_self]) (by simp[R,Gh.put]) (fun s p h=>G.put_other _ p h)⟩;have:=G.put_keep (w:=w) (w':=w) rfl d (fun _=>.slice a1 0 0);exact⟨fun s p h=>this.hd s p (fun n hn=>h n (by simp at hn;simp[zAE,hn])),fun s p h=>this.ad s p (fun n hn=>h n (by simp at hn;simp[zAE,hn])),fun b o f s p h0 h1 h2=>this.lb b o f s p h0 h1 (fun n hn=>h2 n (by simp at hn;simp[zAE,hn])),fun b s p h1 h2=>this.ow b s p h1 (fun n hn=>h2 n (by simp at hn;simp[zAE,hn])),this.blk⟩
  ·rw[h1]at hh
   simp at hh;obtain⟨rfl,rfl⟩:=hh;have iA:us.length*k+xs.length*k≤cap*k:=by rw[←Up];exact Kl _ (by omega)
   have hmk:us.length*k+xs.length*k≤cs.size:=L9 iA h5
   generalize eC:w.setRow b (cs.toList.take (xs.length*k)++nv++cs.toList.drop (xs.length*k+nv.length)).toArray=w'
   have eB:w'.heap[b]? =ja (.cells (cs.toList.take (xs.length*k)++nv++cs.toList.drop (xs.length*k+nv.length)).toArray et (0,0)):=by rw[←eC];exact setRow_heap w b cs _ et _ h2
   have gH:∀b',b'≠b→w'.heap[b']? =w.heap[b']?:=fun b' h=>by rw[←eC];exact setRow_other w b b' _ h
   have gS:w'.heap.size=w.heap.size:=by rw[←eC];exact size_setRow w b _
   have hcsl:cs.toList.length=cs.size:=Kk ..;have pP:=hn.len;have f7:∀i,yS w' b i=if xs.length*k≤i∧i<xs.length*k+us.length*k then nv[i-xs.length*k]? else yS w b i:=by
    intro i;simp only[yS,World.cell?,eB,h2,Q5,Gk,if_false];rw[←K9,←K9 (xs:=cs)];simp only[]
    by_cases g1:i<xs.length*k
    ·rw[if_neg (by omega),Ja,Jm (by simp;omega),Uo g1]
    ·by_cases g2:i<xs.length*k+us.length*k
     ·rw[if_pos ⟨by omega,g2⟩,Ja,J8 (by simp;omega),Jm (by simp;omega)]
      congr 1;simp;omega
     ·rw[if_neg (by omega),Ja,J8 (by simp;omega),J8 (by simp;omega),Ko]
      congr 1;simp;omega
   have gJ:∀b' o fl s p,G.lb b' o=ja (fl,s,p)→(fl,s,p)≠(jc,s0,[])→ ¬(b'=b∧xs.length*k≤o∧o<xs.length*k+us.length*k):=by
    rintro b' o fl s p g1 g2 ⟨rfl,g3,g4⟩
    rw[h7 o g3 (by omega)]at g1;simp at g1;exact g2 (by simp[←g1.1,←g1.2.1,←g1.2.2])
   have fu:∀b' o,¬(b'=b∧xs.length*k≤o∧o<xs.length*k+us.length*k)→yS w' b' o=yS w b' o:=by
    intro b' o g
    by_cases eI:b'=b
    ·subst eI
     rw[f7,if_neg (fun g2=>g ⟨rfl,g2⟩)]
    ·simp[yS,World.cell?,gH b' eI]
   have pQ:((cs.toList.take (xs.length*k)++nv++cs.toList.drop (xs.length*k+nv.length)).toArray).size=cs.size:=by simp;omega
   have eH:Blk w w':=by
    intro b' cs' e' g1
    by_cases eI:b'=b
    ·subst eI
     rw[h2]at g1;simp at g1;obtain⟨rfl,rfl⟩:=g1;exact⟨_,eB,pQ⟩
    ·exact⟨cs',by rw[gH b' eI];exact g1,rfl⟩
   generalize gn:G.ip d s0 y b xs.length k us f2 (.slice (ja ⟨b,0,jb⟩) (xs.length+us.length) cap)=G'
   have ghdr:G'.hd d []=.slice (ja ⟨b,0,jb⟩) (xs.length+us.length) cap:=by rw[←gn];simp[Gh.ip]
   have ghd1:∀i z,i<xs.length→G'.hd d (z++[i])=G.hd s0 (z++[i]):=fun i z g=>by rw[←gn];simp[Gh.ip,g]
   have ghd2:∀j z,G'.hd d (z++[xs.length+j])=f2 j z:=fun j z=>by rw[←gn];simp[Gh.ip,show¬xs.length+j<xs.length from by omega]
   have ghd0:∀s z,s≠d→G'.hd s z=G.hd s z:=fun s z g=>by rw[←gn];simp[Gh.ip,g]
   have gad0:∀s z,s≠d→G'.ad s z=G.ad s z:=fun s z g=>by rw[←gn];simp[Gh.ip,g]
   have gad1:∀i z,i<xs.length→G'.ad d (z++[i])=G.ad s0 (z++[i]):=fun i z g=>by rw[←gn];simp[Gh.ip,g]
   have gad2:∀j f,(T.agg us).inT (j::f)=jc→G'.ad d (f.reverse++[xs.length+j])=⟨b,xs.length*k+(T.agg us).offT (j::f),jb⟩:=fun j f g=>by rw[←gn];simp[Gh.ip,g,show¬xs.length+j<xs.length from by omega]
   have gad3:∀y' j z,y=ja y'→(T.agg us).inT (j::z.reverse)=jd→G'.ad d (z++[xs.length+j])=G.ad y' (z++[j]):=fun y' j z g1 g2=>by rw[←gn];simp[Gh.ip,g1,g2,show¬xs.length+j<xs.length from by omega]
   have glb2:∀i p,i<us.length*k→zCd us [] xs.length i=ja p→G'.lb b (xs.length*k+i)=ja (jd,d,p):=fun i p g1 g2=>by rw[←gn];simp only[Gh.ip];rw[if_pos (by simp;omega),show xs.length*k+i-xs.length*k=i from by omega,g2]
   have glb0:∀b' o fl s p,G.lb b' o=ja (fl,s,p)→ ¬(b'=b∧xs.length*k≤o∧o<xs.length*k+us.length*k)→zDQ s0 y xs.length s p=jb→G'.lb b' o=ja (fl,s,p):=fun b' o fl s p g1 g2 g3=>by rw[←gn];simp only[Gh.ip];rw[if_neg g2,g1];simp[g3]
   have glb1:∀b' o fl s p p',G.lb b' o=ja (fl,s,p)→ ¬(b'=b∧xs.length*k≤o∧o<xs.length*k+us.length*k)→zDQ s0 y xs.length s p=ja p'→G'.lb b' o=ja (fl,d,p'):=fun b' o fl s p p' g1 g2 g3=>by rw[←gn];simp only[Gh.ip];rw[if_neg g2,g1];simp[g3]
   have gow0:∀b' s p,G.ow b'=ja (s,p)→zDQ s0 y xs.length s p=jb→G'.ow b'=ja (s,p):=fun b' s p g1 g2=>by rw[←gn];simp[Gh.ip,g1,g2]
   have gow1:∀b' s p p',G.ow b'=ja (s,p)→zDQ s0 y xs.length s p=ja p'→G'.ow b'=ja (d,p'):=fun b' s p p' g1 g2=>by rw[←gn];simp[Gh.ip,g1,g2]
   have fS:∀p,zDQ s0 y xs.length s0 p=ja p:=fun p=>by simp[zDQ]
   have mK:∀y' z j,y=ja y'→y'≠s0→zDQ s0 y xs.length y' (z++[j])=ja (z++[xs.length+j]):=fun y' z j g1 g2=>by simp[zDQ,g1,g2]
   have gf:∀s p,Off (zAE d s0 y) s p→s≠d:=fun s p h e=>absurd (h 0 (by simp[zAE,e])) (by simp)
   have gA:qU (zAE d s0 y) G w G' w':=by
    refine⟨fun s p h=>ghd0 s p (gf s p h),fun s p h=>gad0 s p (gf s p h),fun b' o fl s p _ g1 g2=>?_,fun b' s p g1 g2=>gow0 b' s p g1 (pK s p g2),eH⟩;have hs:s≠s0:=fun e=>g2 1 (by simp[zAE,e])
    have g3:=gJ b' o fl s p g1 (by simp[hs]);exact⟨glb0 b' o fl s p g1 g3 (pK s p g2),fu b' o g3⟩
   have ag:=hm.ow b _ h6;have gx:Mem Γ G' w':=by
    refine⟨fun s z=>?_,fun b' o' l hl=>?_,fun b' l hl=>?_,fun b' x' eD=>?_,fun b' g1 g2=>?_,by rw[gS];exact hm.sz,hm.bk.trans eH (by rw[←eC];rfl) (by rw[←eC];rfl)⟩
    ·by_cases g:s=d
     ·subst g
      rcases zI4 z with rfl|⟨z',i,rfl⟩
      ·rw[ghdr];rfl
      ·by_cases g1:i<xs.length
       ·rw[ghd1 i z' g1];exact hm.one _ _
       ·have:=ghd2 (i-xs.length) z'
        rw[show xs.length+(i-xs.length)=i from by omega]at this;rw[this];exact hn.one _ _
     ·rw[ghd0 s z g];exact hm.one _ _
    ·have:zCm Γ w b':=by
      rw[←gn]at hl;simp only[Gh.ip]at hl;split at hl
      ·rename_i g;rw[g.1];exact ag
      ·split at hl
       ·rename_i g;exact hm.lb _ _ _ g
       ·cases hl
     exact⟨by rw[gS];exact this.1,this.2⟩
    ·have:zCm Γ w b':=by
      rw[←gn]at hl;simp only[Gh.ip]at hl;split at hl
      ·rename_i g;exact hm.ow _ _ g
      ·cases hl
     exact⟨by rw[gS];exact this.1,this.2⟩
    ·have eI:b'≠b:=by rintro rfl;rw[ag.2.2]at eD;cases eD
     rw[gH b' eI];exact hm.st b' x' eD
    ·have eI:b'≠b:=by
      rintro rfl
      rcases ag.2.1 with g3|g3
      ·omega
      ·exact g2 g3
     rw[gH b' eI];exact hm.fr b' g1 g2
   have bJ:vG G' w' d us [] xs.length b (xs.length*k):=by
    refine zG5 us [] xs.length b (xs.length*k) hn.tup (fun i x eD f hf=>?_) (fun i p' g1 g2=>glb2 i p' (by omega) g2) (fun i v hv=>?_)
    ·have:=gad2 i f (by simp only[T.inT,eD];exact hf)
     simpa[T.offT,eD]using this
    ·have g1:=hn.vals G' ghd2 i v hv
     have g2:=(Jb.1 g1).1;rw[f7,if_pos ⟨by omega,by omega⟩,show xs.length*k+i-xs.length*k=i from by omega];exact g1
   have dw:R Γ.St G' w' d (.sl k (xs++us)) []:=by
    simp only[R];rw[ghdr];refine .inr ⟨b,cap,_,et,by simp,eB,by simp;omega,h4,by rw[pQ];exact h5,gow1 b s0 [] [] h6 (fS []),?_,zJ8 _ _ _ _ _ (fun i x eD=>?_)⟩
    ·intro o g1 g2
     rw[J5,Up]at g1;exact glb1 b o jc s0 [] [] (h7 o (by omega) g2) (by omega) (fS [])
    ·rw[L5]at eD
     simp only[Jg];split at eD
     ·rename_i gz
      obtain⟨g1,g2,g3⟩:=jM xs [] 0 b 0 k i x h8 eD;simp only[Jg]at g1 g3;have a6:∀b' o fl z,G.lb b' o=ja (fl,s0,z++[i])→G'.lb b' o=ja (fl,d,z++[i])∧yS w' b' o=yS w b' o:=fun b' o fl z g=>by have g4:=gJ b' o fl s0 _ g (by simp);exact⟨glb1 b' o fl s0 _ _ g g4 (fS _),fu b' o g4⟩
      refine⟨zHb x [i] [i] b _ (fun z=>ghd1 i z gz) (fun z=>gad1 i z gz) (fun b' o z g=>a6 b' o jd z g) g1,g2,?_⟩;refine zAf (G:=G) (w:=w) (s:=s0) (p:=[i]) ⟨⟨fun z=>ghd1 i z gz,fun z _=>gad1 i z gz,fun b' o f z _ _ g=>a6 b' o f z g,fun b' z _ g=>gow1 b' s0 _ _ g (fS _),eH⟩,fun b' o _ g=>?_,fun b' g=>gow1 b' s0 _ _ g (fS _)⟩ x (xE.mono (fun _ _=>False.elim) x (uN xs e3 i x eD)) g3;have:=a6 b' o jc [] (by simpa using g);simpa using this
     ·rename_i hge
      obtain⟨j,rfl⟩:∃j,i=xs.length+j:=⟨i-xs.length,by omega⟩;rw[show xs.length+j-xs.length=j from by omega]at eD;have g1:=zCn us [] xs.length b (xs.length*k) j x bJ eD;rw[show T.sizes (us.take j)=j*k from by rw[wU _ (fun u hu=>hn.size u (U5 hu)),K3,Gl (by have:=(Jb.1 eD).1;omega)],←Up]at g1
      refine⟨g1,hn.size x (Kh eD),?_⟩;cases hy:y with
      |none=>exact hn.none hy j x eD G' w' (fun z=>ghd2 j z)
      |some y'=>
       obtain⟨y1,y2,y3,y4⟩:=hn.slot y' hy;obtain⟨_,y5,_⟩:=g9.ent y' _ y3;simp only[R]at y5;rcases y5 with⟨rfl,_⟩|⟨b2,cap2,cs2,et2,_,_,_,_,_,_,_,y6⟩
       ·simp at eD
       ·obtain⟨_,_,y7⟩:=jM us [] 0 b2 0 k j x y6 eD
        simp only[Jg]at y7;refine zKJ x [j] [xs.length+j] (zCY.okTups_get us hn.tup j x eD) ⟨fun z=>by rw[ghd2,y4],fun z g=>gad3 y' j z hy (by simp only[T.inT,eD];exact g),fun b' o fl z _ g=>?_,fun b' z g=>gow1 b' y' _ _ g (mK y' z j hy y2),eH⟩ (xE.mono (fun _ _=>False.elim) x (uN us hn.clean j x eD)) y7;have g4:=gJ b' o fl y' _ g (by simp[y2]);exact⟨glb1 b' o fl y' _ _ g g4 (mK y' z j hy y2),fu b' o g4⟩
   have gB:=run_storeCells_at P b (xs.length*k) et nv 0 cs w h2 (by omega) gp;simp only[Hy]at gB;rw[eC]at gB;have gy:=zE1 (P:=P) (t:=t) (ty:=ty) (w':=w') ht hi hx (by omega) (base:=ja ⟨b,0,jb⟩) gV (by simp only[hk,uO,Jg];exact gB);refine⟨_,w',by rw[h1];exact gy,G',fin G' w' _ gA gx ghdr dw ghd0⟩
 ·
  have dt:∃a' c,G.hd s0 []=.slice a' xs.length c∧ ∀w2:World,w2.heap=w.heap→(Builtin.firstCells ti.size xs.length (.slice a' xs.length c)).run P w2=.ok (yF G s0 xs [] 0).toArray w2:=by
   rcases e2 with⟨rfl,a1,h1⟩|⟨b,cap,cs,et,h1,h2,h3,h4,h5,h6,h7,h8⟩
   ·exact⟨a1,0,h1,fun w2 _=>by cases a1<;>simp[Builtin.firstCells,loadCells,loadCellsFrom,yF]⟩
   ·refine⟨_,_,h1,fun w2 ao=>?_⟩
    have hl:=zA0 xs [] 0 b 0 h8;refine run_firstCells_some (P:=P) w2 ti.size xs.length ⟨b,0,jb⟩ _ _ _ ?_ (fun j v hv=>?_)
    ·rw[wS,hk]
     exact wU xs (zBn xs [] 0 b 0 h8).2
    ·have:=zBi xs [] 0 b 0 hl j v hv
     rw[uO];simp only[yS]at this;simpa[World.cell?,ao]using this
  obtain⟨a',c,hh,gH⟩:=dt;have eT:yU xs=jc∧(∀x∈xs,x.size=k)∧ ∀i x,xs[i]? =ja x→R Γ.St G w s0 x [i]:=by
   rcases e2 with⟨rfl,a1,h1⟩|⟨b,cap,cs,et,h1,h2,h3,h4,h5,h6,h7,h8⟩
   ·simp[yU]
   ·refine⟨kB (St:=Γ.St) (k:=k) xs [] 0 b 0 (zA0 xs [] 0 b 0 h8),(zBn xs [] 0 b 0 h8).2,fun i x eD=>?_⟩
    have:=(jM xs [] 0 b 0 k i x h8 eD).2.2;simpa using this
  have ee:c<xs.length+us.length:=by
   rcases Jk c (xs.length+us.length)with g|g
   ·exact g
   ·exact absurd ⟨a',c,hh,g⟩ gV
  have gy:=zJ9 (P:=P) (t:=t) (ty:=ty) ht hi hz hx ee cX hb gH;have hge:=grownCap_ge w (xs.length+us.length) c e;have dQ:=grownCap_le_maxLen w (xs.length+us.length) c e (by simp only[maxLen];omega)
  generalize grownCap w (xs.length+us.length) c e=cap' at gy hge dQ
  generalize eC:w.drew.alloc (.cells ((yF G s0 xs [] 0++nv).toArray++Builtin.zeroCells z.cells (cap'-(xs.length+us.length))) e)=w' at gy
  have hwh:w'.heap=w.heap.push (.cells ((yF G s0 xs [] 0++nv).toArray++Builtin.zeroCells z.cells (cap'-(xs.length+us.length))) e):=by rw[←eC];rfl
  have mD:T.sizes xs=xs.length*k:=wU xs eT.2.1;obtain⟨g1,g2,g3,g4,g5⟩:=zCY hm hwh d (xs++us) (fun i=>if i<xs.length then ja (s0,[i])else y.map fun y'=>(y',[i-xs.length])) (zDQ s0 y xs.length) (fun i z=>if i<xs.length then G.hd s0 (z++[i])else f2 (i-xs.length) z) (.slice (ja ⟨w.heap.size,0,jb⟩) (xs.length+us.length) cap') ((zAE d s0 y).tail)
   (zD4 xs us eT.1 hn.tup) (fun i z=>by split;exact hm.one _ _;exact hn.one _ _) rfl
   (fun i u x q z' hu hs=>by
    split at hs
    ·simp at hs;obtain⟨rfl,rfl⟩:=hs;simp[zDQ]
    ·rename_i fV
     cases y with
     |none=>simp at hs
     |some y'=>
      simp at hs;obtain⟨rfl,rfl⟩:=hs;have:=(hn.slot y' rfl).2.1;simp[zDQ,this,show xs.length+(i-xs.length)=i from by omega])
   (fun i u x q hu hs=>by
    rw[L5]at hu;split at hs
    ·rename_i gz
     rw[if_pos gz]at hu;simp at hs;obtain⟨rfl,rfl⟩:=hs;exact⟨fun z'=>by simp[gz],eT.2.2 i u hu,uN xs e3 i u hu,fE⟩
    ·rename_i fV
     rw[if_neg fV]at hu;cases hy:y with
     |none=>rw[hy]at hs;simp at hs
     |some y'=>
      rw[hy]at hs;simp at hs;obtain⟨rfl,rfl⟩:=hs;obtain⟨y1,y2,y3,y4⟩:=hn.slot y' hy;obtain⟨_,y5,_⟩:=g9.ent y' _ y3;simp only[R]at y5;refine⟨fun z'=>by simp[fV,y4],?_,uN us hn.clean _ u hu,y1⟩;rcases y5 with⟨rfl,_⟩|⟨b2,cap2,cs2,et2,_,_,_,_,_,_,_,y6⟩
      ·simp at hu
      ·have:=(jM us [] 0 b2 0 k _ u y6 hu).2.2
       simpa using this)
   (fun i u hu hs G2 w2 eJ=>by
    rw[L5]at hu;split at hs
    ·cases hs
    ·rename_i fV
     rw[if_neg fV]at hu;cases hy:y with
     |some y'=>rw[hy]at hs;simp at hs
     |none=>
      have:=hn.none hy (i-xs.length) u hu G2 w2 (fun z'=>by rw[show xs.length+(i-xs.length)=i from by omega,eJ,if_neg fV])
      rwa [show xs.length+(i-xs.length)=i from by omega]at this)
   (fun G2 eJ o v hv=>by
    rw[zEz,Jg]at hv;have h1:yF G2 d xs [] 0=yF G s0 xs [] 0:=zKR xs [] 0 (fun i fq z'=>by rw[Jg,eJ,if_pos fq]);rw[h1]at hv;have a6:(yF G s0 xs [] 0).length=xs.length*k:=by rw[wS,mD]
    have d8:(yF G2 d us [] xs.length).length=us.length*k:=by rw[wS,ba]
    have ho:o<xs.length*k+us.length*k:=by have:=(Jb.1 hv).1;rw[J5]at this;omega
    have pP:=hn.len;rw[Array.getElem?_append_left (by simp;omega),List.getElem?_toArray];rw[L5]at hv ⊢
    split at hv
    ·rename_i gz;rw[if_pos gz];exact hv
    ·rename_i fV;rw[if_neg fV]
     exact hn.vals G2 (fun j z'=>by rw[eJ,if_neg (by omega),show xs.length+j-xs.length=j from by omega]) _ v hv)
   (fun s p h=>pK s p (by simpa[zAE]using h)) (ho:=by rw[←eC];rfl) (hq:=by rw[←eC];rfl)
  refine⟨_,w',by rw[hh];exact gy,_,fin _ w' _ (by simpa[zAE]using g1) g2 (by simp[Gh.nb]) ?_ (fun s p h=>by simp[Gh.nb,h])⟩;simp only[R];refine .inr ⟨w.heap.size,cap',_,e,by simp[Gh.nb],g5,by simpa using hge,dQ,?_,by simp[Gh.nb],?_,zRv _ _ _ _ _ (fun x eD=>?_) g3 g4⟩
  ·have a6:(yF G s0 xs [] 0).length=xs.length*k:=by rw[wS,mD]
   have pP:=hn.len;simp only[Array.size_append,Jc6,J5,size_zeroCells,fx,a6,pP,←Up];exact Kl _ (by omega)
  ·intro o ho _
   rw[J5,Up]at ho;simp[Gh.nb,zDM (xs++us) [] 0 o (by rw[zE0];omega)]
  ·rcases Jj.1 eD with h|h
   ·exact eT.2.1 x h
   ·exact hn.size x h
end
end Go.Ab

namespace Go.Ab
open Go
mutual
def T.flat:T→Bool
 |.lit _|.ro _=>jc
 |.agg xs=>zAb xs
 |.any|.same _ _|.addr _ _|.sub _ _ _ _ _|.sl _ _|.ptr _|.tup _=>jd
def zAb:List T→Bool
 | []=>jc
 |x::xs=>x.flat&&zAb xs
end
section
variable {St:Stb}{G G2:Gh}{w w2:World}{s d:Nat}
mutual
theorem zJA:(t:T)→ ∀(p p':List Nat),t.flat=jc→(∀z,G2.hd d (z++p')=G.hd s (z++p))→R St G w s t p→R St G2 w2 d t p'
 |.lit _,p,p',_,h,hr=>by have:=h [];simp only[Ji]at this;simp only[R]at hr ⊢;rw[this];exact hr
 |.ro _,p,p',_,h,hr=>by have:=h [];simp only[Ji]at this;simp only[R]at hr ⊢;rw[this];exact hr
 |.agg xs,p,p',hf,h,hr=>by simp only[R,T.flat]at hr hf ⊢;exact zO2 xs p p' 0 hf h hr
 |.any,_,_,hf,_,_|.same _ _,_,_,hf,_,_|.addr _ _,_,_,hf,_,_|.sub _ _ _ _ _,_,_,hf,_,_|.sl _ _,_,_,hf,_,_|.ptr _,_,_,hf,_,_|.tup _,_,_,hf,_,_=>by simp[T.flat]at hf
theorem zO2:(xs:List T)→ ∀(p p':List Nat)(j:Nat),zAb xs=jc→(∀z,G2.hd d (z++p')=G.hd s (z++p))→RF St G w s xs p j→RF St G2 w2 d xs p' j
 | [],_,_,_,_,_,_=>by simp only[RF]
 |x::xs,p,p',j,hf,h,hr=>by
  simp only[RF,zAb,J4]at hr hf ⊢
  exact⟨zJA x (j::p) (j::p') hf.1 (fun z=>by have:=h (z++[j]);simpa using this) hr.1,zO2 xs p p' (j+1) hf.2 h hr.2⟩
end
end
mutual
theorem zHe:(t:T)→t.flat=jc→yD t∧t.okTup=jc
 |.lit _,_|.ro _,_=>by simp[yD,xE,T.okTup]
 |.agg xs,h=>by simp only[T.flat]at h;simpa only[yD,xE,T.okTup]using kI xs h
 |.any,h|.same _ _,h|.addr _ _,h|.sub _ _ _ _ _,h|.sl _ _,h|.ptr _,h|.tup _,h=>by simp[T.flat]at h
theorem kI:(xs:List T)→zAb xs=jc→xJ xs∧yU xs=jc
 | [],_=>by simp[xJ,wB,yU]
 |x::xs,h=>by simp only[zAb,J4]at h;simp only[xJ,wB,yU,J4];exact⟨⟨(zHe x h.1).1,(kI xs h.2).1⟩,(zHe x h.1).2,(kI xs h.2).2⟩
end
theorem zIO:(xs:List T)→zAb xs=jc→ ∀(i:Nat)(x:T),xs[i]? =ja x→x.flat=jc
 | [],_,_,_,h=>by simp at h
 |y::ys,hk,i,x,h=>by
  simp only[zAb,J4]at hk;cases i with
  |zero=>simp at h;subst h;exact hk.1
  |succ i=>exact zIO ys hk.2 i x (by simpa using h)
mutual
def zFp:T→Bool
 |.lit _=>jc
 |.sl _ xs=>zBo xs
 |.agg xs=>zBo xs
 |.ptr t=>zFp t
 |.any|.ro _|.same _ _|.addr _ _|.sub _ _ _ _ _|.tup _=>jd
def zBo:List T→Bool
 | []=>jc
 |x::xs=>zFp x&&zBo xs
end
theorem zKS:(ys:List T)→zBo ys=jc→ ∀u∈ys,∀xs,u≠.tup xs
 | [],_,_,h,_=>by simp at h
 |y::ys,hr,u,h,xs=>by
  simp only[zBo,J4]at hr;rcases Jc.1 h with rfl|h
  ·rintro rfl;simp[zFp]at hr
  ·exact zKS ys hr.2 u h xs
theorem zGh:(ys:List T)→(roT.roTs ys).length=ys.length
 | []=>rfl
 |y::ys=>by simp[roT.roTs,zGh ys]
theorem zHf{k:Nat}:(ys:List T)→(∀u∈ys,u.size=k)→(∀u∈ys,∀xs,u≠.tup xs)→ ∀u∈roT.roTs ys,u.size=k
 | [],_,_,u,h=>by simp[roT.roTs]at h
 |y::ys,h1,h2,u,h=>by
  simp only[roT.roTs,Jc]at h;rcases h with rfl|h
  ·rw[zEw y (h2 y (by simp))];exact h1 y (by simp)
  ·exact zHf ys (fun v hv=>h1 v (by simp[hv])) (fun v hv=>h2 v (by simp[hv])) u h
theorem zKT:(ys:List T)→ ∀(j:Nat)(u:T),(roT.roTs ys)[j]? =ja u→ ∃u0,ys[j]? =ja u0∧u=roT u0
 | [],_,_,h=>by simp[roT.roTs]at h
 |y::ys,j,u,h=>by
  cases j with
  |zero=>simp[roT.roTs]at h;exact⟨y,by simp,h.symm⟩
  |succ j=>
   obtain⟨u0,h1,h2⟩:=zKT ys j u (by simpa[roT.roTs]using h);exact⟨u0,by simpa using h1,h2⟩
theorem zO3{St:Stb}{G2:Gh}{d:Nat}:(ys:List T)→ ∀(cs':Array Value)(o' k n:Nat),RoL St ys cs' o' k→(∀u∈ys,u.size=k)→(∀j u,ys[j]? =ja u→ ∀z',G2.hd d (z'++[n+j])=jP (zDL u cs' (o'+j*k) z'.reverse))→
  ∀(i:Nat)(v:Value),(yF G2 d (roT.roTs ys) [] n)[i]? =ja v→cs'[o'+i]? =ja v
 | [],_,_,_,_,_,_,_,i,v,hv=>by simp[roT.roTs,yF]at hv
 |y::ys,cs',o',k,n,h,hs,hd,i,v,hv=>by
  simp only[RoL]at h;simp only[roT.roTs,yF]at hv;have gR:∀xs,y≠.tup xs:=by rintro xs rfl;simp only[RoC]at h;exact h.1
  have iv:∀xs,roT y≠.tup xs:=fun xs e=>by cases y<;>simp[roT]at e
  have hl:(vals G2 d (roT y) [n]).length=k:=by rw[wT _ _ iv,zEw y gR,hs y (by simp)]
  rw[L5]at hv;split at hv
  ·exact zGQ y cs' o' [n] (fun z'=>by simpa using hd 0 y (by simp) z') h.1 i v hv
  ·have:=zO3 ys cs' (o'+k) k (n+1) h.2 (fun u hu=>hs u (by simp[hu])) (fun j u hu z'=>by
    have:=hd (j+1) u (by simpa using hu) z'
    rwa [show n+(j+1)=n+1+j from by omega,show o'+(j+1)*k=o'+k+j*k from by rw[Jy];omega]at this) _ v hv
   rwa [hl,show o'+k+(i-k)=o'+i from by omega]at this
mutual
theorem zPP{G:Gh}(hg:∀s z,(G.hd s z).oneCell'=jc){s:Nat}:(t:T)→ ∀(p:List Nat)(v:Value),v∈vals G s t p→v.oneCell'=jc
 |.agg xs,p,v,h=>by simp only[vals]at h;exact zDR hg xs p 0 v h
 |.any,p,v,h|.lit _,p,v,h|.ro _,p,v,h|.same _ _,p,v,h|.addr _ _,p,v,h|.sub _ _ _ _ _,p,v,h|.sl _ _,p,v,h|.ptr _,p,v,h|.tup _,p,v,h=>by simp only[vals,List.mem_singleton]at h;rw[h];exact hg s p
theorem zDR{G:Gh}(hg:∀s z,(G.hd s z).oneCell'=jc){s:Nat}:(xs:List T)→ ∀(p:List Nat)(j:Nat)(v:Value),v∈yF G s xs p j→v.oneCell'=jc
 | [],_,_,_,h=>by simp[yF]at h
 |x::xs,p,j,v,h=>by
  simp only[yF,Jj]at h;rcases h with h|h
  ·exact zPP hg x _ v h
  ·exact zDR hg xs p _ v h
end
theorem zCs{G G2:Gh}{s d:Nat}:(us:List T)→ ∀(n j:Nat),(∀i z,G2.hd d (z++[n+i])=G.hd s (z++[j+i]))→yF G2 d us [] n=yF G s us [] j
 | [],_,_,_=>by simp only[yF]
 |x::xs,n,j,h=>by
  have ih:yF G2 d xs [] (n+1)=yF G s xs [] (j+1):=zCs xs (n+1) (j+1) (fun i z=>by rw[show n+1+i=n+(i+1)from by omega,show j+1+i=j+(i+1)from by omega];exact h (i+1) z)
  simp only[yF];rw[ih,zAH x [j] [n] (by simpa using h 0)]
theorem zE2{G G2:Gh}{s d:Nat}:(us:List T)→ ∀(n j:Nat)(q:List Nat),(∀i z,G2.hd d (z++[n+i])=G.hd s (z++((j+i)::q)))→yF G2 d us [] n=yF G s us q j
 | [],_,_,_,_=>by simp only[yF]
 |x::xs,n,j,q,h=>by
  have ih:yF G2 d xs [] (n+1)=yF G s xs q (j+1):=zE2 xs (n+1) (j+1) q (fun i z=>by rw[show n+1+i=n+(i+1)from by omega,show j+1+i=j+(i+1)from by omega];exact h (i+1) z)
  simp only[yF];rw[ih,zAH x (j::q) [n] (by simpa using h 0)]
section
variable {P:Program}{Γ:Ctx}{E:Env}{o:Oper}{d:Nat}
theorem zO4{St:Stb}{G:Gh}{w:World}{r:Nat}{q:List Nat}{k:Nat}{us:List T}(h:R St G w r (.sl k us) q){size:Nat}(hk:size=k):
  ∃xa c,G.hd r q=.slice xa us.length c∧ ∀w2:World,w2.heap=w.heap→(Builtin.firstCells size us.length (.slice xa us.length c)).run P w2=.ok (yF G r us q 0).toArray w2:=by
 simp only[R]at h;rcases h with⟨rfl,a1,h1⟩|⟨b,cap,cs,et,h1,h2,h3,h4,h5,h6,h7,h8⟩
 ·exact⟨a1,0,h1,fun w2 _=>by cases a1<;>simp[Builtin.firstCells,loadCells,loadCellsFrom,yF]⟩
 ·refine⟨_,_,h1,fun w2 ao=>?_⟩
  have hl:=zA0 us q 0 b 0 h8;refine run_firstCells_some (P:=P) w2 size us.length ⟨b,0,jb⟩ _ _ _ ?_ (fun j v hv=>?_)
  ·rw[wS,hk]
   exact wU us (zBn us q 0 b 0 h8).2
  ·have:=zBi us q 0 b 0 hl j v hv
   rw[uO];simp only[yS]at this;simpa[World.cell?,ao]using this
theorem zBp{G:Gh}{a:Act}{w:World}(g9:Rep Γ E G a.tmps w){s:Nat}{t:T}(h:E s=ja t)(ht:t.single=jc):a.eval (.tmp s)=G.hd s []:=by rw[wK (g9.ent s t h).1,xV ht]
theorem zJB(t e:TypeId)(ti:TypeInfo)(z:Value)(k s0 y:Nat)(xs us:List T)(ho:o.op=.call { callee:=.builtin .append,args:=#[.tmp s0,.tmp y],argTypes:=#[t,t] })(gk:o.dst=ja d)(hd:d<Γ.N)
  (ht:P.underlying t=ja (.slice e))(hi:P.info? e=ja ti)(hz:ti.zero=ja z)(hk:ti.size=k)(fh:0<k)(fx:z.cells.size=k)(hb:ti.bytes≤2048)
  (eE:E s0=ja (.sl k xs))(hy:E y=ja (.sl k us))(fE:s0≠d)(hyd:y≠d)(dz:y≠s0)(cX:xs.length+us.length≤68719476736):
  wN P Γ o E (E.app (aWr d s0 (ja y) k (xs++us)) (zAE d s0 (ja y))):=by
 refine wN.value gk fun a w G g9=>?_
 obtain⟨_,y2,y3⟩:=g9.ent y _ hy;simp only[Top]at y3;obtain⟨xa,c,h1,h2⟩:=zO4 (P:=P) y2 hk;have ff:yU us=jc∧ ∀u∈us,u.size=k:=by
  simp only[R]at y2;rcases y2 with⟨rfl,_⟩|⟨b,cap,cs,et,_,_,_,_,_,_,_,h8⟩
  ·simp[yU]
  ·exact⟨kB (St:=Γ.St) (k:=k) us [] 0 b 0 (zA0 us [] 0 b 0 h8),(zBn us [] 0 b 0 h8).2⟩
 have hn:zHd Γ E G d s0 (ja y) k xs.length us (fun j z'=>G.hd y (z'++[j])) (yF G y us [] 0):=
  ⟨ff.2,ff.1,y3,fun j z'=>g9.mem.one _ _,by rw[wS];exact wU us ff.2,fun y' hy'=>by simp at hy';subst hy';exact⟨hyd,dz,hy,fun _ _=>rfl⟩,fun h=>by simp at h,
   fun G2 eJ o v hv=>by rw[←zCs us xs.length 0 (fun i z'=>by rw[eJ,Jg])];exact hv⟩
 obtain⟨v,w',gy,G',gn⟩:=zBG (P:=P) (ty:=o.type) g9 hd ht hi hz hk fh fx hb eE fE hn (xv:=a.eval (.tmp y)) ⟨.inl ⟨e,xa,c,ht,by rw[zBp g9 hy rfl,h1],h2⟩⟩ (fun v hv=>zDa g9.mem us [] 0 v hv) cX;refine⟨v,w',?_,G',gn⟩;rw[←zBp g9 eE rfl]at gy;simp[execOp,ho,resolve,invoke,builtin,gy]
theorem zJC(t e:TypeId)(ti:TypeInfo)(z:Value)(k s0:Nat)(y:Operand)(r:Nat)(q:List Nat)(xs us:List T)(ho:o.op=.call { callee:=.builtin .append,args:=#[.tmp s0,y],argTypes:=#[t,t] })(gk:o.dst=ja d)(hd:d<Γ.N)
  (ht:P.underlying t=ja (.slice e))(hi:P.info? e=ja ti)(hz:ti.zero=ja z)(hk:ti.size=k)(fh:0<k)(fx:z.cells.size=k)(hb:ti.bytes≤2048)
  (eE:E s0=ja (.sl k xs))(hy:tK E y=ja (r,q,.sl k us))(hf:zAb us=jc)(fE:s0≠d)(cX:xs.length+us.length≤68719476736):
  wN P Γ o E (E.app (aWr d s0 jb k (xs++us)) (zAE d s0 jb)):=by
 refine wN.value gk fun a w G g9=>?_
 obtain⟨y2,y1⟩:=jB g9 hy rfl;obtain⟨xa,c,h1,h2⟩:=zO4 (P:=P) y2 hk;have ff:(∀u∈us,u.size=k)∧ ∀j u,us[j]? =ja u→R Γ.St G w r u (j::q):=by
  simp only[R]at y2;rcases y2 with⟨rfl,_⟩|⟨b,cap,cs,et,_,_,_,_,_,_,_,h8⟩
  ·simp
  ·refine⟨(zBn us q 0 b 0 h8).2,fun j u hu=>?_⟩
   have:=(jM us q 0 b 0 k j u h8 hu).2.2;simpa using this
 have gG:=kI us hf;have hn:zHd Γ E G d s0 jb k xs.length us (fun j z'=>G.hd r (z'++(j::q))) (yF G r us q 0):=
  ⟨ff.1,gG.2,gG.1,fun j z'=>g9.mem.one _ _,by rw[wS];exact wU us ff.1,fun y' hy'=>by simp at hy',
   fun _ j u hu G2 w2 eJ=>zJA u (j::q) [xs.length+j] (zIO us hf j u hu) (fun z'=>eJ z') (ff.2 j u hu),
   fun G2 eJ o v hv=>by rw[←zE2 us xs.length 0 q (fun i z'=>by rw[eJ,Jg])];exact hv⟩
 obtain⟨v,w',gy,G',gn⟩:=zBG (P:=P) (ty:=o.type) g9 hd ht hi hz hk fh fx hb eE fE hn (xv:=a.eval y) ⟨.inl ⟨e,xa,c,ht,by rw[y1,h1],h2⟩⟩ (fun v hv=>zDa g9.mem us q 0 v hv) cX;refine⟨v,w',?_,G',gn⟩;rw[←zBp g9 eE rfl]at gy;simp[execOp,ho,resolve,invoke,builtin,gy]
mutual
theorem zR0:(u:T)→zFp u=jc→(roT u).flat=jc
 |.agg xs,h=>by simp only[zFp]at h;simp only[roT,T.flat];exact zFq xs h
 |.lit _,_|.sl _ _,_|.ptr _,_=>by simp[roT,T.flat]
 |.any,h|.ro _,h|.same _ _,h|.addr _ _,h|.sub _ _ _ _ _,h|.tup _,h=>by simp[zFp]at h
theorem zFq:(xs:List T)→zBo xs=jc→zAb (roT.roTs xs)=jc
 | [],_=>by simp[roT.roTs,zAb]
 |x::xs,h=>by simp only[zBo,J4]at h;simp only[roT.roTs,zAb,J4];exact⟨zR0 x h.1,zFq xs h.2⟩
end
theorem zJD(t e:TypeId)(ti:TypeInfo)(z:Value)(k s0:Nat)(y:Operand)(r:Nat)(q:List Nat)(xs ys:List T)(ho:o.op=.call { callee:=.builtin .append,args:=#[.tmp s0,y],argTypes:=#[t,t] })(gk:o.dst=ja d)(hd:d<Γ.N)
  (ht:P.underlying t=ja (.slice e))(hi:P.info? e=ja ti)(hz:ti.zero=ja z)(hk:ti.size=k)(fh:0<k)(fx:z.cells.size=k)(hb:ti.bytes≤2048)
  (eE:E s0=ja (.sl k xs))(hy:tK E y=ja (r,q,.ro (.sl k ys)))(hro:zBo ys=jc)(dz:∀u∈ys,u.size=k)(fE:s0≠d)(cX:xs.length+ys.length≤68719476736):
  wN P Γ o E (E.app (aWr d s0 jb k (xs++roT.roTs ys)) (zAE d s0 jb)):=by
 refine wN.value gk fun a w G g9=>?_
 obtain⟨y2,y1⟩:=jB g9 hy rfl;obtain⟨xa,c,h1,h2,h3,h4⟩:=zCW y2;have hf:=zFq ys hro;have gG:=kI _ hf;have gj:(roT.roTs ys).length=ys.length:=zGh ys;have gv:∀u∈roT.roTs ys,u.size=k:=zHf ys dz (fun u hu=>zKS ys hro u hu);obtain⟨cs',o',h5,h6⟩:∃(cs':Array Value)(o':Nat),RoL Γ.St ys cs' o' k∧(ys≠[]→ ∃b et fr,xa=ja ⟨b,o',jb⟩∧Γ.St b=ja (.cells cs' et fr)):=by
  by_cases gf:ys=[]
  ·subst gf;exact⟨#[],0,by simp[RoL],fun h=>absurd rfl h⟩
  ·obtain⟨b,o',cs',et,fr,h5,h6,h7⟩:=h4 gf
   exact⟨cs',o',h7,fun _=>⟨b,et,fr,h5,h6⟩⟩
 let f2:Nat→List Nat→Value:=fun j z'=>match ys[j]? with
  |some u=>jP (zDL u cs' (o'+j*k) z'.reverse)
  |none=>.bool jd
 have dP:∀j u,ys[j]? =ja u→ ∀z',f2 j z'=jP (zDL u cs' (o'+j*k) z'.reverse):=fun j u hu z'=>by simp[f2,hu]
 let G0:Gh:={ G with hd:=fun s z'=>if s=d then(match z'.getLast? with
  |some j=>f2 j z'.dropLast
  |none=>.bool jd)else G.hd s z' }
 have hG0:∀j z',G0.hd d (z'++[j])=f2 j z':=fun j z'=>by simp[G0]
 have po:∀(G2:Gh)(n:Nat),(∀j z',G2.hd d (z'++[n+j])=f2 j z')→ ∀(i:Nat)(v:Value),(yF G2 d (roT.roTs ys) [] n)[i]? =ja v→cs'[o'+i]? =ja v:=by intro G2 n eJ i v hv;exact zO3 ys cs' o' k n h5 dz (fun j u hu z'=>by rw[eJ,dP j u hu]) i v hv
 have d6:∀w2:World,w2.heap=w.heap→(Builtin.firstCells ti.size ys.length (.slice xa ys.length c)).run P w2=.ok (yF G0 d (roT.roTs ys) [] 0).toArray w2:=by
  intro w2 ao
  by_cases gf:ys=[]
  ·subst gf
   cases xa<;>simp[Builtin.firstCells,loadCells,loadCellsFrom,roT.roTs,yF]
  ·obtain⟨b,et,fr,rfl,h7⟩:=h6 gf
   refine run_firstCells_some (P:=P) w2 ti.size ys.length ⟨b,o',jb⟩ _ _ _ ?_ (fun j v hv=>?_)
   ·rw[wS,hk,wU _ gv,gj]
   ·have:=po G0 0 (fun j z'=>by rw[Jg];exact hG0 j z') j v hv
    rw[uO];have h8:=g9.mem.st b _ h7;simp[World.cell?,ao,h8,this]
 have mL:∀j z',(f2 j z').oneCell'=jc:=fun j z'=>by
  dsimp only[f2];split
  ·exact zBj _
  ·rfl
 have hn:zHd Γ E G d s0 jb k xs.length (roT.roTs ys) f2 (yF G0 d (roT.roTs ys) [] 0):=by
  refine⟨gv,gG.2,gG.1,mL,by rw[wS];exact wU _ gv,fun y' hy'=>by simp at hy',fun _ j u hu G2 w2 eJ=>?_,fun G2 eJ i v hv=>?_⟩
  ·obtain⟨u0,dF,rfl⟩:=zKT ys j u hu
   exact zRr u0 cs' (o'+j*k) [xs.length+j] (fun z'=>by rw[eJ z',dP j u0 dF]) (zG4 ys cs' o' k j u0 h5 dF)
  ·rw[←zCs (roT.roTs ys) xs.length 0 (fun i z'=>by rw[eJ,Jg];exact(hG0 i z').symm)]
   exact hv
 have aV:∀v∈yF G0 d (roT.roTs ys) [] 0,v.oneCell'=jc:=by
  intro v hv;refine zDR (fun s z'=>?_) _ [] 0 v hv;simp only[G0];split
  ·split
   ·exact mL _ _
   ·rfl
  ·exact g9.mem.one _ _
 have bZ:zHc P t e ti (a.eval y) (roT.roTs ys).length (yF G0 d (roT.roTs ys) [] 0) w:=⟨.inl ⟨e,xa,c,ht,by rw[y1,h1,gj],by rw[gj];exact d6⟩⟩;obtain⟨v,w',gy,G',gn⟩:=zBG (P:=P) (ty:=o.type) g9 hd ht hi hz hk fh fx hb eE fE hn bZ aV (by rw[gj];exact cX);refine⟨v,w',?_,G',gn⟩;rw[←zBp g9 eE rfl]at gy;simp[execOp,ho,resolve,invoke,builtin,gy]
end
end Go.Ab

namespace Go.Ab
open Go
theorem zGi:(us:List T)→sD us=us.flatMap tM
 | []=>rfl
 |u::us=>by simp[sD,zGi us]
theorem zCt(u:T)(h:u.zOk=jc):∀m,zAi (J1 m u)=jc
 |0=>rfl
 |m+1=>by simp[Jq,zAi,h,zCt u h m]
section
variable {P:Program}{Γ:Ctx}{E:Env}{o:Oper}{d:Nat}
theorem zHg(t t2 e:TypeId)(k2:IntKind)(ti:TypeInfo)(z:Value)(u:T)(k s0:Nat)(y:Operand)(kd:IntKind)(m:Nat)(xs:List T)(ho:o.op=.call { callee:=.builtin .append,args:=#[.tmp s0,y],argTypes:=#[t,t2] })(gk:o.dst=ja d)(hd:d<Γ.N)
  (ht:P.underlying t=ja (.slice e))(aH:P.underlying t2=ja (.int k2))(hi:P.info? e=ja ti)(hz:ti.zero=ja z)(hk:ti.size=k)(fh:0<k)(hb:ti.bytes≤2048)(hu:u.zOk=jc)(hv:tM u=z.cells.toList)(ff:u.size=k)
  (eE:E s0=ja (.sl k xs))(hy:opT E y=ja (.lit (.int kd m)))(fE:s0≠d)(cX:xs.length+m≤68719476736):
  wN P Γ o E (E.app (aWr d s0 jb k (xs++J1 m u)) (zAE d s0 jb)):=by
 refine wN.value gk fun a w G g9=>?_
 have fx:z.cells.size=k:=by rw[←Kk,←hv,wW u hu,ff]
 have hzo:=zCt u hu m;have gG:=zBF _ hzo
 let f2:Nat→List Nat→Value:=fun _ z'=>jP (zhd u z'.reverse)
 have iu:((Builtin.zeroCells z.cells m).toList).length=m*k:=by simp[Builtin.zeroCells,fx]
 have hn:zHd Γ E G d s0 jb k xs.length (J1 m u) f2 (Builtin.zeroCells z.cells m).toList:=by
  refine⟨fun x hx=>by simp at hx;rw[hx.2];exact ff,gG.2,gG.1,fun _ _=>zBj _,by rw[iu];simp,fun y' hy'=>by simp at hy',fun _ j x hx G2 w2 eJ=>?_,fun G2 eJ i v mC=>?_⟩
  ·rw[Kw]at hx
   split at hx
   ·simp at hx;subst hx;exact zJ4 u _ hu (fun z'=>eJ z')
   ·cases hx
  ·have h1:yF G2 d (J1 m u) [] xs.length=sD (J1 m u):=zDN _ [] xs.length hzo (fun j x hx z'=>by
    rw[Kw]at hx;split at hx
    ·simp at hx;subst hx;exact eJ j z'
    ·cases hx)
   rw[h1,zGi]at mC;obtain⟨h2,h3⟩:=zJ5 tM u k (by rw[wW u hu,ff]) fh m i v mC;rw[hv,K9,←fx]at h3;have h4:i<m*z.cells.size:=by rw[fx];exact h2
   simp[Builtin.zeroCells,h4,getElem!_def,h3]
 have gp:∀v∈(Builtin.zeroCells z.cells m).toList,v.oneCell'=jc:=by
  intro v mC;simp only[Builtin.zeroCells,Array.toList_map,Array.toList_range,Js,Kv]at mC;obtain⟨i,fq,rfl⟩:=mC;have h1:i%z.cells.size<z.cells.size:=Gm _ (by omega);have h2:z.cells[i%z.cells.size]! =z.cells[i%z.cells.size]:=by simp[h1]
  rw[h2];exact zFn u hu _ (by rw[hv];exact Array.mem_toList_iff.2 (Array.getElem_mem h1))
 have bZ:zHc P t2 e ti (a.eval y) (J1 m u).length (Builtin.zeroCells z.cells m).toList w:=by
  refine⟨.inr ⟨k2,kd,z,aH,?_,hz,by simp,?_,by rw[fx,hk]⟩⟩
  ·rw[(wO g9 hy).1];simp
  ·simp only[Jh]
   exact L9 (K6 (show m≤68719476736 by omega) hb) (by decide)
 obtain⟨v,w',gy,G',gn⟩:=zBG (P:=P) (ty:=o.type) g9 hd ht hi hz hk fh fx hb eE fE hn bZ gp (by simpa using cX);refine⟨v,w',?_,G',gn⟩;rw[←zBp g9 eE rfl]at gy;simp[execOp,ho,resolve,invoke,builtin,gy]
end
end Go.Ab

namespace Go.Ab
open Go
def zKU(G:Gh)(nd:List (Nat×List Nat×T)):Value:=
 match nd with
 | [x]=>sC G x.1 x.2.2 x.2.1
 |nd=>.tuple (nd.map fun x=>sC G x.1 x.2.2 x.2.1).toArray
def FnC(P:Program)(f:FuncId)(us:List T)(res:List T)(rws:List (Nat×T)):Prop:=
 ∀(St:Stb)(W:Nat→Prop)(w:World)(G:Gh)(vs:Array Value),vs.size=us.length→
  (∀(i:Nat) u,us[i]? =ja u→vs[i]? =ja (mkV G i u [])∧R St G w i u [])→Mem ⟨St,W,w,0⟩ G w→
  Calls P f vs w fun e w'=> ∃(S':Stb)(G':Gh)(nd:List (Nat×List Nat×T)),zDu St S' W w.heap.size∧e=.returned (zKU G' nd)∧Mem ⟨S',W,w,0⟩ G' w'∧nd.map (·.2.2)=res∧
   (∀x∈nd,R S' G' w' x.1 x.2.2 x.2.1∧us.length≤x.1)∧(nd.map (·.1)).Nodup∧
   ∀i u',(i,u')∈rws→R S' G' w' i u' []∧ ∃u,us[i]? =ja u∧mkV G' i u' []=mkV G i u []
mutual
def wQ:T→Bool
 |.ro _=>jd
 |.sl _ xs|.agg xs|.tup xs=>vT xs
 |.ptr t=>wQ t
 |.any|.lit _|.same _ _|.addr _ _|.sub _ _ _ _ _=>jc
def vT:List T→Bool
 | []=>jc
 |x::xs=>wQ x&&vT xs
end
section
variable {St St':Stb}{G:Gh}{w:World}{s:Nat}
mutual
theorem zPQ:(t:T)→ ∀(p:List Nat),wQ t=jc→R St G w s t p→R St' G w s t p
 |.ro _,_,h,_=>by simp[wQ]at h
 |.sl k xs,p,h,hr=>by
  simp only[wQ,R]at h hr ⊢
  rcases hr with hr|⟨b,cap,cs,e,h1,h2,h3,h4,h5,h6,h7,h8⟩
  ·exact .inl hr
  ·exact .inr ⟨b,cap,cs,e,h1,h2,h3,h4,h5,h6,h7,zWj xs p 0 b 0 k h h8⟩
 |.agg xs,p,h,hr|.tup xs,p,h,hr=>by simp only[wQ,R]at h hr ⊢;exact zWk xs p 0 h hr
 |.ptr t,p,h,hr=>by
  simp only[wQ,R]at h hr ⊢
  obtain⟨b,cs,e,h1,h2,h3,h6,h4,h5⟩:=hr;exact⟨b,cs,e,h1,h2,h3,h6,h4,zPQ t _ h h5⟩
 |.any,_,_,hr|.lit _,_,_,hr|.same _ _,_,_,hr|.addr _ _,_,_,hr|.sub _ _ _ _ _,_,_,hr=>by first|(simp only[R];done)|simpa only[R]using hr
theorem zWj:(xs:List T)→ ∀(p:List Nat)(i b o k:Nat),vT xs=jc→RL St G w s xs p i b o k→RL St' G w s xs p i b o k
 | [],_,_,_,_,_,_,_=>by simp only[RL]
 |x::xs,p,i,b,o,k,h,hr=>by
  simp only[vT,J4,RL]at h hr ⊢
  exact⟨hr.1,zPQ x _ h.1 hr.2.1,zWj xs p (i+1) b _ k h.2 hr.2.2⟩
theorem zWk:(xs:List T)→ ∀(p:List Nat)(i:Nat),vT xs=jc→RF St G w s xs p i→RF St' G w s xs p i
 | [],_,_,_,_=>by simp only[RF]
 |x::xs,p,i,h,hr=>by
  simp only[vT,J4,RF]at h hr ⊢
  exact⟨zPQ x _ h.1 hr.1,zWk xs p (i+1) h.2 hr.2⟩
end
end
section
variable {St St':Stb} (h:∀b x,St b=ja x→St' b=ja x)
 include h
mutual
theorem tW:(t:T)→ ∀(cs:Array Value)(o:Nat),RoC St t cs o→RoC St' t cs o
 |.sl k xs,cs,o,hr=>by
  simp only[RoC]at hr ⊢
  obtain⟨a,c,h1,h2,h3,h4⟩:=hr;refine⟨a,c,h1,h2,h3,fun gf=>?_⟩;obtain⟨b,o',cs',e,fr,h5,h6,h7⟩:=h4 gf;exact⟨b,o',cs',e,fr,h5,h b _ h6,zKV xs cs' o' k h7⟩
 |.agg xs,cs,o,hr=>by simp only[RoC]at hr ⊢;exact zKW xs cs o hr
 |.ptr t,cs,o,hr=>by
  simp only[RoC]at hr ⊢
  obtain⟨b,o',cs',e,fr,h5,h6,h7⟩:=hr;exact⟨b,o',cs',e,fr,h5,h b _ h6,tW t cs' o' h7⟩
 |.any,_,_,hr|.lit _,_,_,hr|.ro _,_,_,hr|.same _ _,_,_,hr|.addr _ _,_,_,hr|.sub _ _ _ _ _,_,_,hr|.tup _,_,_,hr=>by first|(simp only[RoC]at hr;done)|simpa only[RoC]using hr
theorem zKV:(xs:List T)→ ∀(cs:Array Value)(o k:Nat),RoL St xs cs o k→RoL St' xs cs o k
 | [],_,_,_,_=>by have _:=h;simp only[RoL]
 |x::xs,cs,o,k,hr=>by simp only[RoL]at hr ⊢;exact⟨tW x cs o hr.1,zKV xs cs _ k hr.2⟩
theorem zKW:(xs:List T)→ ∀(cs:Array Value)(o:Nat),RoF St xs cs o→RoF St' xs cs o
 | [],_,_,_=>by have _:=h;simp only[RoF]
 |x::xs,cs,o,hr=>by simp only[RoF]at hr ⊢;exact⟨tW x cs o hr.1,zKW xs cs _ hr.2⟩
end
end
section
variable {St St':Stb}{G:Gh}{w:World}{s:Nat} (h:∀b x,St b=ja x→St' b=ja x)
 include h
mutual
theorem zJE:(t:T)→ ∀(p:List Nat),R St G w s t p→R St' G w s t p
 |.ro t,_,hr=>by simp only[R]at hr ⊢;exact tW h t _ _ hr
 |.sl k xs,p,hr=>by
  simp only[R]at hr ⊢
  rcases hr with hr|⟨b,cap,cs,e,h1,h2,h3,h4,h5,h6,h7,h8⟩
  ·exact .inl hr
  ·exact .inr ⟨b,cap,cs,e,h1,h2,h3,h4,h5,h6,h7,zO5 xs p 0 b 0 k h8⟩
 |.agg xs,p,hr|.tup xs,p,hr=>by simp only[R]at hr ⊢;exact zO6 xs p 0 hr
 |.ptr t,p,hr=>by
  simp only[R]at hr ⊢
  obtain⟨b,cs,e,h1,h2,h3,h6,h4,h5⟩:=hr;exact⟨b,cs,e,h1,h2,h3,h6,h4,zJE t _ h5⟩
 |.any,_,hr|.lit _,_,hr|.same _ _,_,hr|.addr _ _,_,hr|.sub _ _ _ _ _,_,hr=>by first|(simp only[R];done)|simpa only[R]using hr
theorem zO5:(xs:List T)→ ∀(p:List Nat)(i b o k:Nat),RL St G w s xs p i b o k→RL St' G w s xs p i b o k
 | [],_,_,_,_,_,_=>by have _:=h;simp only[RL]
 |x::xs,p,i,b,o,k,hr=>by simp only[RL]at hr ⊢;exact⟨hr.1,zJE x _ hr.2.1,zO5 xs p (i+1) b _ k hr.2.2⟩
theorem zO6:(xs:List T)→ ∀(p:List Nat)(i:Nat),RF St G w s xs p i→RF St' G w s xs p i
 | [],_,_,_=>by have _:=h;simp only[RF]
 |x::xs,p,i,hr=>by simp only[RF]at hr ⊢;exact⟨zJE x _ hr.1,zO6 xs p (i+1) hr.2⟩
end
end
mutual
def strip:T→T
 |.lit v=>.lit v
 |.ro u=>if u.single then u else .any
 |.sl k xs=>.sl k (wV xs)
 |.agg xs=>.agg (wV xs)
 |.ptr t=>.ptr (strip t)
 |.any|.same _ _|.addr _ _|.sub _ _ _ _ _|.tup _=>.any
def wV:List T→List T
 | []=>[]
 |x::xs=>strip x::wV xs
end
theorem kC:(xs:List T)→(wV xs).length=xs.length
 | []=>rfl
 |x::xs=>by simp[wV,kC xs]
mutual
theorem zDS:(t:T)→(strip t).size=t.size
 |.agg xs=>by simp only[strip,T.size];exact zGj xs
 |.ro u=>by
  simp only[strip];split
  ·rename_i h;cases u<;>simp[T.single]at h<;>simp[T.size]
  ·simp[T.size]
 |.lit _|.sl _ _|.ptr _|.any|.same _ _|.addr _ _|.sub _ _ _ _ _|.tup _=>by simp[strip,T.size]
theorem zGj:(xs:List T)→T.sizes (wV xs)=T.sizes xs
 | []=>rfl
 |x::xs=>by simp only[wV,T.sizes,zDS x,zGj xs]
end
theorem qY{St:Stb}{u:T}(hu:u.single=jc){v:Value}{cs:Array Value}{o:Nat}(h:RoC St u #[v] 0)(hc:cs[o]? =ja v):RoC St u cs o:=by
 cases u<;>simp[T.single]at hu<;>simp only[RoC]at h ⊢ <;>simp at h<;>first
  |exact⟨v,hc,h⟩
  |(obtain⟨rfl,h2⟩:=h;exact⟨hc,h2⟩)
  |(obtain⟨a,c,rfl,h2⟩:=h;exact⟨a,c,hc,by simpa using h2⟩)
  |(obtain⟨b,o',rfl,h2⟩:=h;obtain⟨cs',⟨e,f1,f2,h3⟩,h4⟩:=h2;exact⟨b,o',cs',e,(f1,f2),hc,h3,h4⟩)
section
variable {St Sc:Stb}{G:Gh}{w:World}{s:Nat} (gp:∀s p,(G.hd s p).oneCell'=jc) (eh:∀b x,St b=ja x→Sc b=ja x) (ey:∀b,(∃y,G.ow b=ja (s,y))→Sc b=w.heap[b]?)
 include gp eh ey
mutual
theorem frz:(t:T)→ ∀(p:List Nat)(b o:Nat)(cs:Array Value)(e:TypeId)(fr:Nat×Nat),w.heap[b]? =ja (.cells cs e fr)→Loc G w s t p b o→R St G w s t p→RoC Sc (strip t) cs o
 |.agg xs,p,b,o,cs,e,fr,hb,hl,hr=>by simp only[Loc,R,strip,RoC]at hl hr ⊢;exact zYI xs p 0 b o cs e fr hb hl.2 hr
 |.tup _,_,_,_,_,_,_,_,hl,_=>by have _:=ey;simp only[Loc]at hl
 |.any,p,b,o,cs,e,fr,hb,hl,hr|.same _ _,p,b,o,cs,e,fr,hb,hl,hr|.addr _ _,p,b,o,cs,e,fr,hb,hl,hr|.sub _ _ _ _ _,p,b,o,cs,e,fr,hb,hl,hr=>by have h1:=(vA rfl hl).2.2;simp only[yS,World.cell?,hb]at h1;simp only[strip,RoC];exact⟨_,by simpa using h1,gp s p⟩
 |.lit v,p,b,o,cs,e,fr,hb,hl,hr=>by
  have h1:=(vA rfl hl).2.2;simp only[yS,World.cell?,hb]at h1;simp only[strip,RoC,R]at hr ⊢
  exact⟨by rw[←hr];simpa using h1,by rw[←hr];exact gp s p⟩
 |.ro u,p,b,o,cs,e,fr,hb,hl,hr=>by
  have h1:=(vA rfl hl).2.2;simp only[yS,World.cell?,hb]at h1;simp only[strip,R]at hr ⊢
  split
  ·rename_i hu
   exact qY hu (tW eh u _ _ hr) (by simpa using h1)
  ·simp only[RoC];exact⟨_,by simpa using h1,gp s p⟩
 |.sl k xs,p,b,o,cs,e,fr,hb,hl,hr=>by have h1:=(vA rfl hl).2.2;simp only[yS,World.cell?,hb]at h1;exact qY rfl (zKX (.sl k xs) p rfl hr) (by simpa using h1)
 |.ptr t,p,b,o,cs,e,fr,hb,hl,hr=>by have h1:=(vA rfl hl).2.2;simp only[yS,World.cell?,hb]at h1;exact qY rfl (zKX (.ptr t) p rfl hr) (by simpa using h1)
theorem zYI:(xs:List T)→ ∀(p:List Nat)(j b o:Nat)(cs:Array Value)(e:TypeId)(fr:Nat×Nat),w.heap[b]? =ja (.cells cs e fr)→vG G w s xs p j b o→RF St G w s xs p j→RoF Sc (wV xs) cs o
 | [],_,_,_,_,_,_,_,_,_,_=>by have _:=gp;have _:=eh;have _:=ey;simp only[wV,RoF]
 |x::xs,p,j,b,o,cs,e,fr,hb,hl,hr=>by
  simp only[vG,RF,wV,RoF]at hl hr ⊢
  exact⟨frz x _ b o cs e fr hb hl.1 hr.1,by rw[zDS];exact zYI xs p (j+1) b _ cs e fr hb hl.2 hr.2⟩
theorem zYJ:(xs:List T)→ ∀(p:List Nat)(i b o k:Nat)(cs:Array Value)(e:TypeId)(fr:Nat×Nat),w.heap[b]? =ja (.cells cs e fr)→RL St G w s xs p i b o k→RoL Sc (wV xs) cs o k
 | [],_,_,_,_,_,_,_,_,_,_=>by have _:=gp;have _:=eh;have _:=ey;simp only[wV,RoL]
 |x::xs,p,i,b,o,k,cs,e,fr,hb,hr=>by
  simp only[RL,wV,RoL]at hr ⊢
  exact⟨frz x _ b o cs e fr hb hr.1.1 hr.2.1,zYJ xs p (i+1) b _ k cs e fr hb hr.2.2⟩
theorem zKX:(t:T)→ ∀(p:List Nat),t.single=jc→R St G w s t p→RoC Sc (strip t) #[G.hd s p] 0
 |.agg _,_,h,_|.tup _,_,h,_=>by simp[T.single]at h
 |.any,p,_,_|.same _ _,p,_,_|.addr _ _,p,_,_|.sub _ _ _ _ _,p,_,_=>by simp only[strip,RoC];exact⟨_,by simp,gp s p⟩
 |.lit v,p,_,hr=>by simp only[strip,RoC,R]at hr ⊢;exact⟨by simp[hr],by rw[←hr];exact gp s p⟩
 |.ro u,p,_,hr=>by
  simp only[strip,R]at hr ⊢
  split
  ·exact tW eh u _ _ hr
  ·simp only[RoC];exact⟨_,by simp,gp s p⟩
 |.sl k xs,p,_,hr=>by
  simp only[strip,R,RoC]at hr ⊢
  rw[kC];rcases hr with⟨rfl,a,h1⟩|⟨b,cap,cs,e,h1,h2,h3,h4,h5,h6,h7,h8⟩
  ·exact⟨a,0,by simp[h1],by simp,by simp[maxLen],fun h=>by simp[wV]at h⟩
  ·exact⟨ja ⟨b,0,jb⟩,cap,by simp[h1],h3,h4,fun _=>⟨b,0,cs,e,(0,0),rfl,by rw[ey b ⟨_,h6⟩];exact h2,zYJ xs p 0 b 0 k cs e (0,0) h2 h8⟩⟩
 |.ptr t,p,_,hr=>by
  simp only[strip,R,RoC]at hr ⊢
  obtain⟨b,cs,e,h1,h2,h3,h6,h4,h5⟩:=hr;exact⟨b,0,cs,e,(0,0),by simp[h1],by rw[ey b ⟨_,h6⟩];exact h2,frz t _ b 0 cs e (0,0) h2 h4 h5⟩
end
end
end Go.Ab
