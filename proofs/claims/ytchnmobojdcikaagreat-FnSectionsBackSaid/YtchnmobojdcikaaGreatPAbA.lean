/- x -/
import Derived.Orders
import Derived.Laws.AppendOwn
import Derived.Laws.MakeOwn
import Derived.Great.BuildSlice
import Derived.Laws.Tables
open List renaming replicate→J1,getElem?_append_right→Ja,length_append→Jb,getElem?_eq_some_iff→Jc,mem_map→Jd,append_assoc→Je,append_nil→Jf,map_cons→Jg,mem_cons→Jl,getElem?_map→Jm,mem_range→Jq,eq_nil_of_length_eq_zero→Jr,nil_append→Js,all_eq_true→Jt,length_replicate→Ju,length_cons→Jw,getElem?_append_left→Jz,getElem?_append→K4,take_succ_cons→K6,length_take→K7,ext_getElem?→K8,mem_append→Kd,nodup_cons→Kf,set_cons_succ→Kh,reverse_reverse→Kk,replicate_succ→Kv,getElem?_drop→Kw,mem_of_getElem?→Kx,set_cons_zero→L6,flatMap_cons→L9,contains_eq_mem→Ld,drop_eq_getElem_cons→Lh,length_set→Lm,length_nil→Hi,cons_append→Hn,reverse_nil→Hq,take_append_drop→G8,map_take→G9,map_nil→Gf,reverse_cons→Gk,getElem?_take_of_lt→Gz,reverse_append→Uk,size_toArray→Uw,take_append→Q2,isEmpty_iff→Q3,getElem?_cons_succ→Q7,flatMap_append→Q8,cons→Q9
open Bool renaming and_eq_true→J3,false_eq_true→Ls,not_eq_true'→Hl,false_and→Qe,true_and→Qu
open Nat renaming zero_add→J7,le_refl→Ji,lt_or_ge→K2,mul_le_mul_right→Ke,add_assoc→Lf,succ_mul→Lt,le_trans→H0,add_mul→Hu,mul_le_mul→Gv,lt_of_lt_of_le→Uv,add_zero→Uz,add_comm→Q0,min_eq_left→Qs
open Array renaming getElem?_setIfInBounds→J8,length_toList→Jy,getD_eq_getD_getElem?→K0,getElem?_toList→K5,getElem?_eq_some_iff→Hb,range→Qj,ext'→Qn
open Int renaming toNat_natCast→Jj,natCast_mul→Qd
open Option renaming isSome_none→Uc,map_none→Q5
open Prod renaming mk→Uq
open Option renaming some→aB,none→aC
open Bool renaming true→aD,false→aE
theorem aF{p:Prop}[h:Decidable p](a:¬p):decide p=false:=decide_eq_false a
theorem aG{p:Prop}[h:Decidable p](a:p):decide p=true:=decide_eq_true a
namespace Go.Ab
open Go
inductive T where
 |any
 |lit (v:Value)
 |ro (t:T)
 |same (r:Nat) (p:List Nat)
 |addr (r:Nat) (p:List Nat)
 |sub (r:Nat) (p:List Nat) (k lo hi:Nat)
 |sl (k:Nat) (xs:List T)
 |agg (xs:List T)
 |ptr (t:T)
 |tup (xs:List T)
 deriving Inhabited
abbrev Stb:=Nat→Option Obj
mutual
def T.size:T→Nat
 |.agg xs=>T.sizes xs
 |_=>1
def T.sizes:List T→Nat
 | []=>0
 |x::xs=>x.size+T.sizes xs
end
mutual
def RoC(St:Stb):T→Array Value→Nat→Prop
 |.any,cs,o=> ∃v,cs[o]? =aB v∧v.oneCell'=aD
 |.lit v,cs,o=>cs[o]? =aB v∧v.oneCell'=aD
 |.ro u,cs,o=> ∃f vs,cs[o]? =aB (.func (.func f) #[] vs)∧vs.size+1=u.size∧RoC St u (#[.func (.func f) #[] #[]]++vs) 0
 |.sl k xs,cs,o=> ∃a c,cs[o]? =aB (.slice a xs.length c)∧xs.length≤c∧c≤maxLen∧
   (xs≠[]→ ∃b o' cs' e fr,a=aB ⟨b,o',aC⟩∧St b=aB (.cells cs' e fr)∧RoL St xs cs' o' k)
 |.agg xs,cs,o=>RoF St xs cs o
 |.ptr t,cs,o=> ∃b o' cs' e fr,cs[o]? =aB (.pointer (aB ⟨b,o',aC⟩))∧St b=aB (.cells cs' e fr)∧RoC St t cs' o'
 |.same _ _,_,_=>False
 |.addr _ _,_,_=>False
 |.sub _ _ _ _ _,_,_=>False
 |.tup _,_,_=>False
def RoL(St:Stb):List T→Array Value→Nat→Nat→Prop
 | [],_,_,_=>True
 |x::xs,cs,o,k=>RoC St x cs o∧RoL St xs cs (o+k) k
def RoF(St:Stb):List T→Array Value→Nat→Prop
 | [],_,_=>True
 |x::xs,cs,o=>RoC St x cs o∧RoF St xs cs (o+x.size)
end
structure Gh where
 hd:Nat→List Nat→Value
 ad:Nat→List Nat→Addr
 lb:Nat→Nat→Option (Bool×Nat×List Nat)
 ow:Nat→Option (Nat×List Nat)
def zV(w:World)(b o:Nat):Option Value:=w.cell? ⟨b,o,aC⟩
mutual
def Loc(G:Gh)(w:World)(s:Nat):T→List Nat→Nat→Nat→Prop
 |.agg xs,p,b,o=>G.ad s p=⟨b,o,aC⟩∧wD G w s xs p 0 b o
 |.tup _,_,_,_=>False
 |.any,p,b,o|.lit _,p,b,o|.ro _,p,b,o|.same _ _,p,b,o|.addr _ _,p,b,o|.sub _ _ _ _ _,p,b,o|.sl _ _,p,b,o|.ptr _,p,b,o=>
  G.ad s p=⟨b,o,aC⟩∧G.lb b o=aB (aE,s,p)∧zV w b o=aB (G.hd s p)
def wD(G:Gh)(w:World)(s:Nat):List T→List Nat→Nat→Nat→Nat→Prop
 | [],_,_,_,_=>True
 |x::xs,p,j,b,o=>Loc G w s x (j::p) b o∧wD G w s xs p (j+1) b (o+x.size)
end
def zAN(v:Value)(k lo hi:Nat):Value:=
 match v with
 |.slice a _ c=>.slice (if c=lo then a else a.map (·.add (lo*k))) (hi-lo) (c-lo)
 |v=>v
mutual
def R(St:Stb)(G:Gh)(w:World)(s:Nat):T→List Nat→Prop
 |.any,_=>True
 |.lit v,p=>G.hd s p=v
 |.ro t,p=>RoC St t #[G.hd s p] 0
 |.same r q,p=>G.hd s p=G.hd r q
 |.addr r q,p=>G.hd s p=.pointer (aB (G.ad r q))
 |.sub r q k lo hi,p=>G.hd s p=zAN (G.hd r q) k lo hi
 |.sl k xs,p=>(xs=[]∧ ∃a,G.hd s p=.slice a 0 0)∨ ∃b o0 cap cs e,G.hd s p=.slice (aB ⟨b,o0,aC⟩) xs.length cap∧
   w.heap[b]? =aB (.cells cs e (0,0))∧xs.length≤cap∧cap≤maxLen∧o0+cap*k≤cs.size∧G.ow b=aB (s,p)∧
   (∀o,o0+xs.length*k≤o→o<o0+cap*k→G.lb b o=aB (aD,s,p))∧RL St G w s xs p 0 b o0 k
 |.agg xs,p=>RF St G w s xs p 0
 |.ptr t,p=> ∃b cs e,G.hd s p=.pointer (aB ⟨b,0,aC⟩)∧w.heap[b]? =aB (.cells cs e (0,0))∧cs.size=t.size∧G.ow b=aB (s,p)∧
   Loc G w s t (0::p) b 0∧R St G w s t (0::p)
 |.tup xs,p=>RF St G w s xs p 0
def RL(St:Stb)(G:Gh)(w:World)(s:Nat):List T→List Nat→Nat→Nat→Nat→Nat→Prop
 | [],_,_,_,_,_=>True
 |x::xs,p,i,b,o,k=>(Loc G w s x (i::p) b o∧x.size=k)∧R St G w s x (i::p)∧RL St G w s xs p (i+1) b (o+k) k
def RF(St:Stb)(G:Gh)(w:World)(s:Nat):List T→List Nat→Nat→Prop
 | [],_,_=>True
 |x::xs,p,j=>R St G w s x (j::p)∧RF St G w s xs p (j+1)
end
mutual
def yF(φ:Nat→List Nat→Prop):T→Prop
 |.same r p|.addr r p|.sub r p _ _ _=>φ r p
 |.sl _ xs|.agg xs|.tup xs=>yP φ xs
 |.ptr t=>yF φ t
 |.any|.lit _|.ro _=>True
def yP(φ:Nat→List Nat→Prop):List T→Prop
 | []=>True
 |x::xs=>yF φ x∧yP φ xs
end
mutual
theorem yF.mono{φ ψ:Nat→List Nat→Prop}(h:∀r p,φ r p→ψ r p):(t:T)→yF φ t→yF ψ t
 |.same _ _,ht|.addr _ _,ht|.sub _ _ _ _ _,ht=>h _ _ ht
 |.sl _ xs,ht|.agg xs,ht|.tup xs,ht=>by simp only[yF]at ht ⊢;exact yP.mono h xs ht
 |.ptr t,ht=>by simp only[yF]at ht ⊢;exact yF.mono h t ht
 |.any,_|.lit _,_|.ro _,_=>by simp[yF]
theorem yP.mono{φ ψ:Nat→List Nat→Prop}(h:∀r p,φ r p→ψ r p):(xs:List T)→yP φ xs→yP ψ xs
 | [],_=>trivial
 |x::xs,hx=>⟨yF.mono h x hx.1,yP.mono h xs hx.2⟩
end
mutual
theorem yF.triv{φ:Nat→List Nat→Prop}(h:∀r p,φ r p):(t:T)→yF φ t
 |.same _ _|.addr _ _|.sub _ _ _ _ _=>by simp only[yF];exact h _ _
 |.sl _ xs|.agg xs|.tup xs=>by simp only[yF];exact yP.triv h xs
 |.ptr t=>by simp only[yF];exact yF.triv h t
 |.any|.lit _|.ro _=>by simp only[yF]
theorem yP.triv{φ:Nat→List Nat→Prop}(h:∀r p,φ r p):(xs:List T)→yP φ xs
 | []=>by simp only[yP]
 |x::xs=>by simp only[yP];exact⟨yF.triv h x,yP.triv h xs⟩
end
abbrev zQ(t:T):Prop:=yF (fun _ _=>False) t
abbrev yI(xs:List T):Prop:=yP (fun _ _=>False) xs
def Blk(w w':World):Prop:=∀(b:Nat) cs e,w.heap[b]? =aB (.cells cs e (0,0))→ ∃cs',w'.heap[b]? =aB (.cells cs' e (0,0))∧cs'.size=cs.size
structure MovesE (G:Gh) (w:World) (G':Gh) (w':World) (s:Nat) (p:List Nat) (s':Nat) (p':List Nat):Prop where
 hd:∀z,G'.hd s' (z++p')=G.hd s (z++p)
 ad:∀z,z≠[]→G'.ad s' (z++p')=G.ad s (z++p)
 lb:∀b o f z,z≠[]→(∃y,G.ow b=aB (s,y))→G.lb b o=aB (f,s,z++p)→G'.lb b o=aB (f,s',z++p')∧zV w' b o=zV w b o
 ow:∀b z,z≠[]→G.ow b=aB (s,z++p)→G'.ow b=aB (s',z++p')
 blk:Blk w w'
structure zG0 (G:Gh) (w:World) (G':Gh) (w':World) (s:Nat) (p:List Nat) (s':Nat) (p':List Nat):Prop extends MovesE G w G' w' s p s' p' where
 sp:∀b o,(∃y,G.ow b=aB (s,y))→G.lb b o=aB (aD,s,p)→G'.lb b o=aB (aD,s',p')∧zV w' b o=zV w b o
 ow0:∀b,G.ow b=aB (s,p)→G'.ow b=aB (s',p')
def kY(G G':Gh)(r:Nat)(p:List Nat):Prop:=G'.hd r p=G.hd r p∧G'.ad r p=G.ad r p
section
variable {St:Stb}{G:Gh}{w:World}{G':Gh}{w':World}{s:Nat}{p:List Nat}{s':Nat}{p':List Nat}
mutual
theorem zDc(hm:MovesE G w G' w' s p s' p'):(t:T)→ ∀(z:List Nat)(b o:Nat),z≠[]→(∃y,G.ow b=aB (s,y))→Loc G w s t (z++p) b o→Loc G' w' s' t (z++p') b o
 |.agg xs,z,b,o,hz,gT,h=>by
  simp only[Loc]at h ⊢
  exact⟨(hm.ad z hz).trans h.1,zG1 hm xs z 0 b o gT h.2⟩
 |.any,z,b,o,hz,gT,h|.lit _,z,b,o,hz,gT,h|.ro _,z,b,o,hz,gT,h|.same _ _,z,b,o,hz,gT,h|.addr _ _,z,b,o,hz,gT,h|.sub _ _ _ _ _,z,b,o,hz,gT,h|.sl _ _,z,b,o,hz,gT,h|.ptr _,z,b,o,hz,gT,h=>by
  simp only[Loc]at h ⊢
  obtain⟨h1,h2,h3⟩:=h;have hl:=hm.lb b o aE z hz gT h2;exact⟨(hm.ad z hz).trans h1,hl.1,by rw[hl.2,h3,hm.hd]⟩
 |.tup _,_,_,_,_,_,h=>by simp only[Loc]at h
theorem zG1(hm:MovesE G w G' w' s p s' p'):(xs:List T)→ ∀(z:List Nat)(j b o:Nat),(∃y,G.ow b=aB (s,y))→wD G w s xs (z++p) j b o→wD G' w' s' xs (z++p') j b o
 | [],_,_,_,_,_,_=>by simp only[wD]
 |x::xs,z,j,b,o,gT,h=>by
  simp only[wD]at h ⊢
  exact⟨zDc hm x (j::z) b o (by simp) gT h.1,zG1 hm xs z (j+1) b _ gT h.2⟩
end
mutual
theorem zDd(hm:MovesE G w G' w' s p s' p'):(t:T)→ ∀(z:List Nat),z≠[]→yF (kY G G') t→R St G w s t (z++p)→R St G' w' s' t (z++p')
 |.any,_,_,_,_=>by simp only[R]
 |.lit _,z,_,_,h=>by simp only[R]at h ⊢;rw[hm.hd];exact h
 |.ro _,z,_,_,h=>by simp only[R]at h ⊢;rw[hm.hd];exact h
 |.same r q,z,_,hk,h=>by simp only[R]at h ⊢;rw[hm.hd,hk.1];exact h
 |.addr r q,z,_,hk,h=>by simp only[R]at h ⊢;rw[hm.hd,hk.2];exact h
 |.sub r q k lo hi,z,_,hk,h=>by simp only[R]at h ⊢;rw[hm.hd,hk.1];exact h
 |.agg xs,z,_,hk,h=>by simp only[R,yF]at h hk ⊢;exact zDe hm xs z 0 hk h
 |.tup xs,z,_,hk,h=>by simp only[R,yF]at h hk ⊢;exact zDe hm xs z 0 hk h
 |.sl k xs,z,hz,hk,h=>by
  simp only[R,yF]at h hk ⊢
  rw[hm.hd];rcases h with h|⟨b,o0,cap,cs,e,h1,h2,h3,h4,h5,h6,h7,h8⟩
  ·exact .inl h
  ·obtain⟨cs',eW,gx⟩:=hm.blk b cs e h2
   exact .inr ⟨b,o0,cap,cs',e,h1,eW,h3,h4,by omega,hm.ow b z hz h6,fun o ho fy=>(hm.lb b o aD z hz ⟨_,h6⟩ (h7 o ho (by omega))).1,zHf hm xs z 0 b o0 k ⟨_,h6⟩ hk h8⟩
 |.ptr t,z,hz,hk,h=>by
  simp only[R,yF]at h hk ⊢
  rw[hm.hd];obtain⟨b,cs,e,h1,h2,h3,h6,h4,h5⟩:=h;obtain⟨cs',eW,gx⟩:=hm.blk b cs e h2;exact⟨b,cs',e,h1,eW,by omega,hm.ow b z hz h6,zDc hm t (0::z) b 0 (by simp) ⟨_,h6⟩ h4,zDd hm t (0::z) (by simp) hk h5⟩
theorem zHf(hm:MovesE G w G' w' s p s' p'):(xs:List T)→ ∀(z:List Nat)(i b o k:Nat),(∃y,G.ow b=aB (s,y))→yP (kY G G') xs→RL St G w s xs (z++p) i b o k→RL St G' w' s' xs (z++p') i b o k
 | [],_,_,_,_,_,_,_,_=>by simp only[RL]
 |x::xs,z,i,b,o,k,gT,hk,h=>by
  simp only[RL,yP]at h hk ⊢
  exact⟨⟨zDc hm x (i::z) b o (by simp) gT h.1.1,h.1.2⟩,zDd hm x (i::z) (by simp) hk.1 h.2.1,zHf hm xs z (i+1) b _ k gT hk.2 h.2.2⟩
theorem zDe(hm:MovesE G w G' w' s p s' p'):(xs:List T)→ ∀(z:List Nat)(j:Nat),yP (kY G G') xs→RF St G w s xs (z++p) j→RF St G' w' s' xs (z++p') j
 | [],_,_,_,_=>by simp only[RF]
 |x::xs,z,j,hk,h=>by
  simp only[RF,yP]at h hk ⊢
  exact⟨zDd hm x (j::z) (by simp) hk.1 h.1,zDe hm xs z (j+1) hk.2 h.2⟩
end
theorem zAc(hm:zG0 G w G' w' s p s' p')(t:T)(hk:yF (kY G G') t)(h:R St G w s t p):R St G' w' s' t p':=by
 have hd0:G'.hd s' p'=G.hd s p:=by simpa using hm.hd []
 cases t with
 |any=>simp only[R]
 |lit _=>simp only[R]at h ⊢;rw[hd0];exact h
 |ro _=>simp only[R]at h ⊢;rw[hd0];exact h
 |same r q=>simp only[R]at h ⊢;rw[hd0,hk.1];exact h
 |addr r q=>simp only[R]at h ⊢;rw[hd0,hk.2];exact h
 |sub r q k lo hi=>simp only[R]at h ⊢;rw[hd0,hk.1];exact h
 |agg xs=>simp only[R,yF]at h hk ⊢;simpa using zDe hm.toMovesE xs [] 0 hk (by simpa using h)
 |tup xs=>simp only[R,yF]at h hk ⊢;simpa using zDe hm.toMovesE xs [] 0 hk (by simpa using h)
 |sl k xs=>
  simp only[R,yF]at h hk ⊢
  rw[hd0];rcases h with h|⟨b,o0,cap,cs,e,h1,h2,h3,h4,h5,h6,h7,h8⟩
  ·exact .inl h
  ·obtain⟨cs',eW,gx⟩:=hm.blk b cs e h2
   exact .inr ⟨b,o0,cap,cs',e,h1,eW,h3,h4,by omega,hm.ow0 b h6,fun o ho fy=>(hm.sp b o ⟨_,h6⟩ (h7 o ho (by omega))).1,by simpa using zHf hm.toMovesE xs [] 0 b o0 k ⟨_,h6⟩ hk (by simpa using h8)⟩
 |ptr t=>
  simp only[R,yF]at h hk ⊢
  rw[hd0];obtain⟨b,cs,e,h1,h2,h3,h6,h4,h5⟩:=h;obtain⟨cs',eW,gx⟩:=hm.blk b cs e h2;exact⟨b,cs',e,h1,eW,by omega,hm.ow0 b h6,zDc hm.toMovesE t [0] b 0 (by simp) ⟨_,h6⟩ h4,zDd hm.toMovesE t [0] (by simp) hk h5⟩
theorem zNp(hm:zG0 G w G' w' s p s' p')(t:T)(z:List Nat)(hk:yF (kY G G') t)(h:R St G w s t (z++p)):R St G' w' s' t (z++p'):=by
 cases z with
 |nil=>exact zAc hm t hk h
 |cons i z=>exact zDd hm.toMovesE t (i::z) (by simp) hk h
end
end Go.Ab

namespace Go.Ab
open Go
def T.get:T→List Nat→Option T
 |t,[]=>aB t
 |.sl _ xs,i::f|.agg xs,i::f|.tup xs,i::f=>match xs[i]? with
  |some x=>x.get f
  |none=>aC
 |.ptr t,i::f=>if i=0 then t.get f else aC
 |.any,_::_|.lit _,_::_|.ro _,_::_|.same _ _,_::_|.addr _ _,_::_|.sub _ _ _ _ _,_::_=>aC
termination_by structural _ f=>f
def T.set:T→List Nat→T→T
 |_,[],u=>u
 |.sl k xs,i::f,u=>match xs[i]? with
  |some x=>.sl k (xs.set i (x.set f u))
  |none=>.sl k xs
 |.agg xs,i::f,u=>match xs[i]? with
  |some x=>.agg (xs.set i (x.set f u))
  |none=>.agg xs
 |.tup xs,i::f,u=>match xs[i]? with
  |some x=>.tup (xs.set i (x.set f u))
  |none=>.tup xs
 |.ptr t,i::f,u=>if i=0 then .ptr (t.set f u)else .ptr t
 |.any,_::_,_=>.any
 |.lit v,_::_,_=>.lit v
 |.ro t,_::_,_=>.ro t
 |.same r q,_::_,_=>.same r q
 |.addr r q,_::_,_=>.addr r q
 |.sub r q k lo hi,_::_,_=>.sub r q k lo hi
termination_by structural _ f _=>f
def T.locd:T→List Nat→Bool
 |_,[]=>aE
 |.sl _ _,_::_|.ptr _,_::_=>aD
 |.agg xs,i::f|.tup xs,i::f=>match xs[i]? with
  |some x=>x.locd f
  |none=>aE
 |.any,_::_|.lit _,_::_|.ro _,_::_|.same _ _,_::_|.addr _ _,_::_|.sub _ _ _ _ _,_::_=>aE
termination_by structural _ f=>f
abbrev rp(f p:List Nat):List Nat:=f.reverse++p
theorem zA6(i:Nat)(f p:List Nat):rp (i::f) p=rp f (i::p):=by simp[rp]
section
variable {St:Stb}{G:Gh}{w:World}{s:Nat}
theorem qG:(xs:List T)→ ∀(p:List Nat)(i0 b o k i:Nat)(x:T),RL St G w s xs p i0 b o k→xs[i]? =aB x→
  Loc G w s x ((i0+i)::p) b (o+i*k)∧x.size=k∧R St G w s x ((i0+i)::p)
 | [],_,_,_,_,_,_,_,_,h=>by simp at h
 |y::ys,p,i0,b,o,k,i,x,hr,h=>by
  simp only[RL]at hr;cases i with
  |zero=>
   simp at h;subst h;simpa using⟨hr.1.1,hr.1.2,hr.2.1⟩
  |succ i=>
   have:=qG ys p (i0+1) b (o+k) k i x hr.2.2 (by simpa using h);rw[show i0+(i+1)=i0+1+i from by omega,show o+(i+1)*k=o+k+i*k from by rw[Lt];omega];exact this
theorem zAG:(xs:List T)→ ∀(p:List Nat)(j i:Nat)(x:T),RF St G w s xs p j→xs[i]? =aB x→R St G w s x ((j+i)::p)
 | [],_,_,_,_,_,h=>by simp at h
 |y::ys,p,j,i,x,hr,h=>by
  simp only[RF]at hr;cases i with
  |zero=>simp at h;subst h;simpa using hr.1
  |succ i=>
   have:=zAG ys p (j+1) i x hr.2 (by simpa using h)
   rwa [show j+(i+1)=j+1+i from by omega]
theorem zHV:(xs:List T)→ ∀(p:List Nat)(j b o i:Nat)(x:T),wD G w s xs p j b o→xs[i]? =aB x→
  ∃o',Loc G w s x ((j+i)::p) b o'∧o≤o'∧o'+x.size≤o+T.sizes xs
 | [],_,_,_,_,_,_,_,h=>by simp at h
 |y::ys,p,j,b,o,i,x,hr,h=>by
  simp only[wD]at hr;cases i with
  |zero=>simp at h;subst h;exact⟨o,by simpa using hr.1,by omega,by simp[T.sizes]⟩
  |succ i=>
   obtain⟨o',h1,h2,h3⟩:=zHV ys p (j+1) b (o+y.size) i x hr.2 (by simpa using h);refine⟨o',?_,by omega,by simp only[T.sizes];omega⟩
   rwa [show j+(i+1)=j+1+i from by omega]
def At(G:Gh)(w:World)(s:Nat)(t:T)(p:List Nat):Prop:=
 ∃b o cs e,Loc G w s t p b o∧w.heap[b]? =aB (.cells cs e (0,0))∧o+t.size≤cs.size
theorem At.field{xs:List T}{p:List Nat}(h:At G w s (.agg xs) p){i:Nat}{x:T}(hx:xs[i]? =aB x):At G w s x (i::p):=by obtain⟨b,o,cs,e,hl,hh,hs⟩:=h;simp only[Loc]at hl;obtain⟨o',h1,h2,h3⟩:=zHV xs p 0 b o i x hl.2 hx;simp only[T.size]at hs;exact⟨b,o',cs,e,by simpa using h1,hh,by omega⟩
theorem zCc{k:Nat}{xs:List T}{p:List Nat}(h:R St G w s (.sl k xs) p){i:Nat}{x:T}(hx:xs[i]? =aB x):
  At G w s x (i::p)∧R St G w s x (i::p):=by
 simp only[R]at h;have hi:=(Jc.1 hx).1;rcases h with⟨rfl,_⟩|⟨b,o0,cap,cs,e,h1,h2,h3,h4,h5,h6,h7,h8⟩
 ·simp at hx
 ·obtain⟨a1,a2,a3⟩:=qG xs p 0 b o0 k i x h8 hx
  simp only[J7]at a1 a3;refine⟨⟨b,o0+i*k,cs,e,a1,h2,?_⟩,a3⟩;rw[a2,Lf,←Lt];exact H0 (Nat.add_le_add_left (Ke _ (by omega)) _) h5
theorem zAO{t:T}{p:List Nat}(h:R St G w s (.ptr t) p):At G w s t (0::p)∧R St G w s t (0::p):=by simp only[R]at h;obtain⟨b,cs,e,h1,h2,h3,h6,h4,h5⟩:=h;exact⟨⟨b,0,cs,e,h4,h2,by omega⟩,h5⟩
theorem zAp:(f:List Nat)→ ∀(t u:T)(p:List Nat),At G w s t p→R St G w s t p→t.get f=aB u→At G w s u (rp f p)∧R St G w s u (rp f p)
 | [],t,u,p,ha,h,hg=>by simp[T.get]at hg;subst hg;simpa[rp]using⟨ha,h⟩
 |i::f,t,u,p,ha,h,hg=>by
  rw[zA6];cases t with
  |sl k xs=>
   simp only[T.get]at hg;cases hx:xs[i]? with
   |none=>simp[hx]at hg
   |some x=>rw[hx]at hg;exact zAp f x u _ (zCc h hx).1 (zCc h hx).2 hg
  |ptr t=>
   simp only[T.get]at hg;split at hg
   ·rename_i hi;subst hi;exact zAp f t u _ (zAO h).1 (zAO h).2 hg
   ·cases hg
  |agg xs=>
   simp only[T.get]at hg;cases hx:xs[i]? with
   |none=>simp[hx]at hg
   |some x=>rw[hx]at hg;exact zAp f x u _ (ha.field hx) (by simp only[R]at h;simpa using zAG xs p 0 i x h hx) hg
  |tup xs=>obtain⟨b,o,cs,e,hl,_⟩:=ha;simp only[Loc]at hl
  |_=>simp[T.get]at hg
theorem zBA:(f:List Nat)→ ∀(t u:T)(p:List Nat),R St G w s t p→t.get f=aB u→R St G w s u (rp f p)∧(t.locd f=aD→At G w s u (rp f p))
 | [],t,u,p,h,hg=>by simp[T.get]at hg;subst hg;simpa[rp,T.locd]using h
 |i::f,t,u,p,h,hg=>by
  rw[zA6];cases t with
  |sl k xs=>
   simp only[T.get]at hg;cases hx:xs[i]? with
   |none=>simp[hx]at hg
   |some x=>rw[hx]at hg;exact⟨(zAp f x u _ (zCc h hx).1 (zCc h hx).2 hg).2,fun _=>(zAp f x u _ (zCc h hx).1 (zCc h hx).2 hg).1⟩
  |ptr t=>
   simp only[T.get]at hg;split at hg
   ·rename_i hi;subst hi;exact⟨(zAp f t u _ (zAO h).1 (zAO h).2 hg).2,fun _=>(zAp f t u _ (zAO h).1 (zAO h).2 hg).1⟩
   ·cases hg
  |agg xs=>
   simp only[T.get,T.locd]at hg ⊢
   cases hx:xs[i]? with
   |none=>simp[hx]at hg
   |some x=>rw[hx]at hg;exact zBA f x u _ (by simp only[R]at h;simpa using zAG xs p 0 i x h hx) hg
  |tup xs=>
   simp only[T.get,T.locd]at hg ⊢
   cases hx:xs[i]? with
   |none=>simp[hx]at hg
   |some x=>rw[hx]at hg;exact zBA f x u _ (by simp only[R]at h;simpa using zAG xs p 0 i x h hx) hg
  |_=>simp[T.get]at hg
end
structure Upd (G:Gh) (w:World) (G':Gh) (w':World) (s:Nat) (tgt:List Nat):Prop where
 hd:∀p,¬tgt<:+p→G'.hd s p=G.hd s p
 ad:∀p,¬tgt<:+p→G'.ad s p=G.ad s p
 lb:∀b o f p,G.lb b o=aB (f,s,p)→ ¬tgt<:+p→G'.lb b o=aB (f,s,p)∧zV w' b o=zV w b o
 ow:∀b p,G.ow b=aB (s,p)→ ¬tgt<:+p→G'.ow b=aB (s,p)
 blk:Blk w w'
section
variable {St:Stb}{G:Gh}{w:World}{G':Gh}{w':World}{s:Nat}{tgt:List Nat}
theorem Upd.moves(h:Upd G w G' w' s tgt){p:List Nat}(hp:∀z,¬tgt<:+z++p):zG0 G w G' w' s p s p where
 hd z:=h.hd _ (hp z)
 ad z _:=h.ad _ (hp z)
 lb b o f z _ _ hl:=h.lb b o f _ hl (hp z)
 ow b z _ hl:=h.ow b _ hl (hp z)
 sp b o _ hl:=h.lb b o aD p hl (hp [])
 ow0 b hl:=h.ow b p hl (hp [])
 blk:=h.blk
mutual
theorem zDf(hm:Upd G w G' w' s tgt):(t:T)→ ∀(p:List Nat)(b o:Nat),(∀z,¬tgt<:+z++p)→Loc G w s t p b o→Loc G' w' s t p b o
 |.agg xs,p,b,o,hz,h=>by
  simp only[Loc]at h ⊢
  exact⟨(hm.ad p (hz [])).trans h.1,zHW hm xs p 0 b o hz h.2⟩
 |.any,p,b,o,hz,h|.lit _,p,b,o,hz,h|.ro _,p,b,o,hz,h|.same _ _,p,b,o,hz,h|.addr _ _,p,b,o,hz,h|.sub _ _ _ _ _,p,b,o,hz,h|.sl _ _,p,b,o,hz,h|.ptr _,p,b,o,hz,h=>by
  simp only[Loc]at h ⊢
  obtain⟨h1,h2,h3⟩:=h;have hl:=hm.lb b o aE p h2 (hz []);exact⟨(hm.ad p (hz [])).trans h1,hl.1,by rw[hl.2,h3,hm.hd p (hz [])]⟩
 |.tup _,_,_,_,_,h=>by simp only[Loc]at h
theorem zHW(hm:Upd G w G' w' s tgt):(xs:List T)→ ∀(p:List Nat)(j b o:Nat),(∀z,¬tgt<:+z++p)→wD G w s xs p j b o→wD G' w' s xs p j b o
 | [],_,_,_,_,_,_=>by simp only[wD]
 |x::xs,p,j,b,o,hz,h=>by
  simp only[wD]at h ⊢
  exact⟨zDf hm x (j::p) b o (fun z=>by have:=hz (z++[j]);simpa using this) h.1,zHW hm xs p (j+1) b _ hz h.2⟩
end
theorem zHX(hm:Upd G w G' w' s tgt)(t u:T)(p:List Nat)(b o:Nat)(ht:∀xs,t≠.agg xs)(hu:∀xs,u≠.agg xs)(fR:∀xs,u≠.tup xs)(hz:¬tgt<:+p)(h:Loc G w s t p b o):Loc G' w' s u p b o:=by
 have h3:G.ad s p=⟨b,o,aC⟩∧G.lb b o=aB (aE,s,p)∧zV w b o=aB (G.hd s p):=by
  cases t with
  |agg xs=>exact absurd rfl (ht xs)
  |tup xs=>simp only[Loc]at h
  |_=>simpa only[Loc]using h
 obtain⟨h1,h2,h3⟩:=h3;have hl:=hm.lb b o aE p h2 hz;have h4:G'.ad s p=⟨b,o,aC⟩∧G'.lb b o=aB (aE,s,p)∧zV w' b o=aB (G'.hd s p):=⟨(hm.ad p hz).trans h1,hl.1,by rw[hl.2,h3,hm.hd p hz]⟩;cases u with
 |agg xs=>exact absurd rfl (hu xs)
 |tup xs=>exact absurd rfl (fR xs)
 |_=>simpa only[Loc]using h4
theorem qH{f p:List Nat}{i i':Nat}(hi:i'≠i)(z:List Nat):¬f.reverse++(i::p)<:+z++(i'::p):=by
 rintro⟨y,hy⟩
 rw[←Je]at hy;have:=List.append_inj_right' hy rfl;simp at this;exact hi this.symm
theorem jS{f p:List Nat}{i:Nat}:¬f.reverse++(i::p)<:+p:=by intro h;have:=h.length_le;simp at this;omega
theorem zG2:(xs:List T)→ ∀(i:Nat)(x y:T),xs[i]? =aB x→y.size=x.size→T.sizes (xs.set i y)=T.sizes xs
 | [],_,_,_,h,_=>by simp at h
 |z::zs,i,x,y,h,hs=>by
  cases i with
  |zero=>simp at h;subst h;simp[T.sizes,hs]
  |succ i=>simp only[Kh,T.sizes,zG2 zs i x y (by simpa using h) hs]
theorem zDg:(f:List Nat)→ ∀(t u u0:T),t.get f=aB u0→u.size=u0.size→(t.set f u).size=t.size
 | [],t,u,u0,h,hs=>by simp[T.get]at h;subst h;simpa[T.set]using hs
 |i::f,t,u,u0,h,hs=>by
  cases t with
  |sl k xs=>simp only[T.get]at h;cases hx:xs[i]? <;>simp[hx,T.set,T.size]at h ⊢
  |tup xs=>simp only[T.get]at h;cases hx:xs[i]? <;>simp[hx,T.set,T.size]at h ⊢
  |agg xs=>
   simp only[T.get]at h;cases hx:xs[i]? with
   |none=>simp[hx]at h
   |some x=>
    rw[hx]at h;simp only[T.set,hx,T.size];exact zG2 xs i x _ hx (zDg f x u u0 h hs)
  |ptr t=>simp only[T.get]at h;split at h<;>simp_all [T.set,T.size]
  |_=>simp[T.get]at h
theorem zHY(hm:Upd G w G' w' s tgt):(xs:List T)→ ∀(p:List Nat)(j b o i:Nat)(x y:T),wD G w s xs p j b o→xs[i]? =aB x→y.size=x.size→
  (∀i',i'≠j+i→ ∀z,¬tgt<:+z++(i'::p))→(∀o',Loc G w s x ((j+i)::p) b o'→Loc G' w' s y ((j+i)::p) b o')→wD G' w' s (xs.set i y) p j b o
 | [],_,_,_,_,_,_,_,_,h,_,_,_=>by simp at h
 |z::zs,p,j,b,o,i,x,y,hl,h,hs,hz,hy=>by
  simp only[wD]at hl;cases i with
  |zero=>
   simp at h;subst h;simp only[L6,wD,hs];exact⟨by simpa using hy o (by simpa using hl.1),LocF_upd' hm zs p (j+1) b _ (fun i' gQ=>hz i' (by omega)) hl.2⟩
  |succ i=>
   simp only[Kh,wD];refine⟨zDf hm z _ b o (hz j (by omega)) hl.1,zHY hm zs p (j+1) b _ i x y hl.2 (by simpa using h) hs (fun i' gQ=>hz i' (by omega)) ?_⟩;rw[show j+1+i=j+(i+1)from by omega];exact hy
where LocF_upd' (hm:Upd G w G' w' s tgt):(xs:List T)→ ∀(p:List Nat)(j b o:Nat),(∀i',j≤i'→ ∀z,¬tgt<:+z++(i'::p))→wD G w s xs p j b o→wD G' w' s xs p j b o
 | [],_,_,_,_,_,_=>by simp only[wD]
 |x::xs,p,j,b,o,hz,h=>by
  simp only[wD]at h ⊢
  exact⟨zDf hm x (j::p) b o (hz j (Ji _)) h.1,LocF_upd' hm xs p (j+1) b _ (fun i' gQ=>hz i' (by omega)) h.2⟩
theorem zHg:(f:List Nat)→ ∀(t u u0:T)(p:List Nat)(b o:Nat),Upd G w G' w' s (rp f p)→Loc G w s t p b o→t.get f=aB u0→u.size=u0.size→
  (∀o',Loc G w s u0 (rp f p) b o'→Loc G' w' s u (rp f p) b o')→Loc G' w' s (t.set f u) p b o
 | [],t,u,u0,p,b,o,hm,hl,hg,hs,hu=>by simp[T.get]at hg;subst hg;simpa[T.set,rp]using hu o (by simpa[rp]using hl)
 |i::f,t,u,u0,p,b,o,hm,hl,hg,hs,hu=>by
  have gu:=hm;rw[zA6]at gu;cases t with
  |sl k xs=>
   have:∃ys,(T.sl k xs).set (i::f) u=.sl k ys:=by simp only[T.set];split<;>exact⟨_,rfl⟩
   obtain⟨ys,hy⟩:=this;rw[hy];exact zHX gu (.sl k xs) (.sl k ys) p b o (by simp) (by simp) (by simp) jS hl
  |ptr t=>
   have:∃ys,(T.ptr t).set (i::f) u=.ptr ys:=by simp only[T.set];split<;>exact⟨_,rfl⟩
   obtain⟨ys,hy⟩:=this;rw[hy];exact zHX gu (.ptr t) (.ptr ys) p b o (by simp) (by simp) (by simp) jS hl
  |agg xs=>
   simp only[T.get]at hg;cases hx:xs[i]? with
   |none=>simp[hx]at hg
   |some x=>
    rw[hx]at hg;simp only[T.set,hx];simp only[Loc]at hl ⊢
    refine⟨(gu.ad p jS).trans hl.1,zHY gu xs p 0 b o i x _ hl.2 hx (zDg f x u u0 hg hs) (fun i' gQ z=>qH (by omega) z) ?_⟩;intro o' ho';simp only[J7]at ho' ⊢
    exact zHg f x u u0 (i::p) b o' gu ho' hg hs (by simpa only[zA6]using hu)
  |tup xs=>simp only[Loc]at hl
  |_=>simp[T.get]at hg
end
end Go.Ab

namespace Go.Ab
open Go
section
variable {St:Stb}{G:Gh}{w:World}{G':Gh}{w':World}{s:Nat}{tgt:List Nat}
theorem zKH(hm:Upd G w G' w' s tgt)(t:T)(p:List Nat)(hz:∀z,¬tgt<:+z++p)(hk:yF (kY G G') t)(h:R St G w s t p):R St G' w' s t p:=by simpa using zNp (hm.moves hz) t [] hk (by simpa using h)
theorem zNq(hm:Upd G w G' w' s tgt):(xs:List T)→ ∀(p:List Nat)(i b o k:Nat),(∀i',i≤i'→ ∀z,¬tgt<:+z++(i'::p))→yP (kY G G') xs→RL St G w s xs p i b o k→RL St G' w' s xs p i b o k
 | [],_,_,_,_,_,_,_,_=>by simp only[RL]
 |x::xs,p,i,b,o,k,hz,hk,h=>by
  simp only[RL,yP]at h hk ⊢
  exact⟨⟨zDf hm x (i::p) b o (hz i (Ji _)) h.1.1,h.1.2⟩,zKH hm x (i::p) (hz i (Ji _)) hk.1 h.2.1,
   zNq hm xs p (i+1) b _ k (fun i' gQ=>hz i' (by omega)) hk.2 h.2.2⟩
theorem zNr(hm:Upd G w G' w' s tgt):(xs:List T)→ ∀(p:List Nat)(i0 b o k i:Nat)(x y:T),RL St G w s xs p i0 b o k→xs[i]? =aB x→y.size=x.size→yP (kY G G') xs→
  (∀i',i'≠i0+i→ ∀z,¬tgt<:+z++(i'::p))→(∀o',Loc G w s x ((i0+i)::p) b o'→Loc G' w' s y ((i0+i)::p) b o')→R St G' w' s y ((i0+i)::p)→
  RL St G' w' s (xs.set i y) p i0 b o k
 | [],_,_,_,_,_,_,_,_,_,h,_,_,_,_,_=>by simp at h
 |z::zs,p,i0,b,o,k,i,x,y,hr,h,hs,hk,hz,hl,hy=>by
  simp only[RL,yP]at hr hk;cases i with
  |zero=>
   simp at h;subst h;simp only[L6,RL];exact⟨⟨by simpa using hl o (by simpa using hr.1.1),by omega⟩,by simpa using hy,zNq hm zs p (i0+1) b _ k (fun i' gQ=>hz i' (by omega)) hk.2 hr.2.2⟩
  |succ i=>
   simp only[Kh,RL];rw[show i0+(i+1)=i0+1+i from by omega]at hl hy hz;exact⟨⟨zDf hm z _ b o (hz i0 (by omega)) hr.1.1,hr.1.2⟩,zKH hm z _ (hz i0 (by omega)) hk.1 hr.2.1,zNr hm zs p (i0+1) b _ k i x y hr.2.2 (by simpa using h) hs hk.2 hz hl hy⟩
theorem zNs(hm:Upd G w G' w' s tgt):(xs:List T)→ ∀(p:List Nat)(i:Nat),(∀i',i≤i'→ ∀z,¬tgt<:+z++(i'::p))→yP (kY G G') xs→RF St G w s xs p i→RF St G' w' s xs p i
 | [],_,_,_,_,_=>by simp only[RF]
 |x::xs,p,i,hz,hk,h=>by
  simp only[RF,yP]at h hk ⊢
  exact⟨zKH hm x (i::p) (hz i (Ji _)) hk.1 h.1,zNs hm xs p (i+1) (fun i' gQ=>hz i' (by omega)) hk.2 h.2⟩
theorem zJ5(hm:Upd G w G' w' s tgt):(xs:List T)→ ∀(p:List Nat)(i0 i:Nat)(x y:T),RF St G w s xs p i0→xs[i]? =aB x→yP (kY G G') xs→
  (∀i',i'≠i0+i→ ∀z,¬tgt<:+z++(i'::p))→R St G' w' s y ((i0+i)::p)→
  RF St G' w' s (xs.set i y) p i0
 | [],_,_,_,_,_,_,h,_,_,_=>by simp at h
 |z::zs,p,i0,i,x,y,hr,h,hk,hz,hy=>by
  simp only[RF,yP]at hr hk;cases i with
  |zero=>
   simp at h;subst h;simp only[L6,RF];exact⟨by simpa using hy,zNs hm zs p (i0+1) (fun i' gQ=>hz i' (by omega)) hk.2 hr.2⟩
  |succ i=>
   simp only[Kh,RF];rw[show i0+(i+1)=i0+1+i from by omega]at hy hz;exact⟨zKH hm z _ (hz i0 (by omega)) hk.1 hr.1,zJ5 hm zs p (i0+1) i x y hr.2 (by simpa using h) hk.2 hz hy⟩
theorem vH{φ:Nat→List Nat→Prop}:(xs:List T)→yP φ xs→ ∀(i:Nat)(x:T),xs[i]? =aB x→yF φ x
 | [],_,_,_,h=>by simp at h
 |y::ys,hk,i,x,h=>by
  simp only[yP]at hk;cases i with
  |zero=>simp at h;subst h;exact hk.1
  |succ i=>exact vH ys hk.2 i x (by simpa using h)
theorem zEX:(f:List Nat)→ ∀(t u u0:T)(p:List Nat),Upd G w G' w' s (rp f p)→R St G w s t p→t.get f=aB u0→u.size=u0.size→yF (kY G G') t→
  (∀b o,Loc G w s u0 (rp f p) b o→Loc G' w' s u (rp f p) b o)→R St G' w' s u (rp f p)→R St G' w' s (t.set f u) p
 | [],t,u,u0,p,hm,hr,hg,hs,hk,hl,hu=>by simpa[T.set,rp]using hu
 |i::f,t,u,u0,p,hm,hr,hg,hs,hk,hl,hu=>by
  have gu:=hm;rw[zA6]at gu hl hu;cases t with
  |sl k xs=>
   simp only[T.get]at hg;cases hx:xs[i]? with
   |none=>simp[hx]at hg
   |some x=>
    rw[hx]at hg;simp only[T.set,hx];simp only[R,yF]at hr hk ⊢
    rcases hr with⟨rfl,_⟩|⟨b,o0,cap,cs,e,h1,h2,h3,h4,h5,h6,h7,h8⟩
    ·simp at hx
    ·obtain⟨cs',eW,gx⟩:=gu.blk b cs e h2
     refine .inr ⟨b,o0,cap,cs',e,by rw[gu.hd p jS,Lm];exact h1,eW,by rw[Lm];exact h3,h4,by omega,gu.ow b p h6 jS,?_,?_⟩
     ·intro o ho fy
      rw[Lm]at ho;exact(gu.lb b o aD p (h7 o ho (by omega)) jS).1
     ·have md:=qG xs p 0 b o0 k i x h8 hx
      simp only[J7]at md;refine zNr gu xs p 0 b o0 k i x _ h8 hx (zDg f x u u0 hg hs) hk (fun i' gQ z=>qH (by omega) z) ?_ ?_
      ·intro o' ho'
       simp only[J7]at ho' ⊢
       exact zHg f x u u0 (i::p) b o' gu ho' hg hs (fun o''=>hl b o'')
      ·simp only[J7]
       exact zEX f x u u0 (i::p) gu md.2.2 hg hs (vH xs hk i x hx) hl hu
  |ptr t=>
   simp only[T.get]at hg;split at hg
   ·rename_i hi;subst hi
    simp only[T.set,if_true];simp only[R,yF]at hr hk ⊢
    obtain⟨b,cs,e,h1,h2,h3,h6,h4,h5⟩:=hr;obtain⟨cs',eW,gx⟩:=gu.blk b cs e h2;refine⟨b,cs',e,by rw[gu.hd p jS];exact h1,eW,by rw[zDg f t u u0 hg hs];omega,gu.ow b p h6 jS,zHg f t u u0 (0::p) b 0 gu h4 hg hs (fun o''=>hl b o''),zEX f t u u0 (0::p) gu h5 hg hs hk hl hu⟩
   ·cases hg
  |agg xs=>
   simp only[T.get]at hg;cases hx:xs[i]? with
   |none=>simp[hx]at hg
   |some x=>
    rw[hx]at hg;simp only[T.set,hx];simp only[R,yF]at hr hk ⊢
    refine zJ5 gu xs p 0 i x _ hr hx hk (fun i' gQ z=>qH (by omega) z) ?_;simp only[J7];exact zEX f x u u0 (i::p) gu (by simpa using zAG xs p 0 i x hr hx) hg hs (vH xs hk i x hx) hl hu
  |tup xs=>
   simp only[T.get]at hg;cases hx:xs[i]? with
   |none=>simp[hx]at hg
   |some x=>
    rw[hx]at hg;simp only[T.set,hx];simp only[R,yF]at hr hk ⊢
    refine zJ5 gu xs p 0 i x _ hr hx hk (fun i' gQ z=>qH (by omega) z) ?_;simp only[J7];exact zEX f x u u0 (i::p) gu (by simpa using zAG xs p 0 i x hr hx) hg hs (vH xs hk i x hx) hl hu
  |_=>simp[T.get]at hg
end
end Go.Ab

namespace Go.Ab
open Go
mutual
def vals(G:Gh)(s:Nat):T→List Nat→List Value
 |.agg xs,p=>zR G s xs p 0
 |.any,p|.lit _,p|.ro _,p|.same _ _,p|.addr _ _,p|.sub _ _ _ _ _,p|.sl _ _,p|.ptr _,p|.tup _,p=>[G.hd s p]
def zR(G:Gh)(s:Nat):List T→List Nat→Nat→List Value
 | [],_,_=>[]
 |x::xs,p,j=>vals G s x (j::p)++zR G s xs p (j+1)
end
def uW(G:Gh)(s:Nat)(t:T)(p:List Nat):Value:=
 match t with
 |.agg xs=>.agg (zR G s xs p 0).toArray
 |_=>G.hd s p
def kD(G:Gh)(s:Nat):List T→List Nat→Nat→List Value
 | [],_,_=>[]
 |x::xs,p,j=>uW G s x (j::p)::kD G s xs p (j+1)
def mkV(G:Gh)(s:Nat)(t:T)(p:List Nat):Value:=
 match t with
 |.agg xs=>.agg (zR G s xs p 0).toArray
 |.tup xs=>.tuple (kD G s xs p 0).toArray
 |_=>G.hd s p
mutual
def Top:T→Prop
 |.sl _ xs=>yI xs
 |.ptr t=>zQ t
 |.agg xs|.tup xs=>vE xs
 |.any|.lit _|.ro _|.same _ _|.addr _ _|.sub _ _ _ _ _=>True
def vE:List T→Prop
 | []=>True
 |x::xs=>Top x∧vE xs
end
mutual
theorem Top.of_clean:(t:T)→zQ t→Top t
 |.sl _ xs,h=>by simpa only[Top,zQ,yF]using h
 |.ptr t,h=>by simpa only[Top,zQ,yF]using h
 |.agg xs,h|.tup xs,h=>by simp only[Top];exact vE.of_clean xs (by simpa only[zQ,yF]using h)
 |.any,_|.lit _,_|.ro _,_|.same _ _,_|.addr _ _,_|.sub _ _ _ _ _,_=>by simp only[Top]
theorem vE.of_clean:(xs:List T)→yI xs→vE xs
 | [],_=>by simp only[vE]
 |x::xs,h=>by simp only[vE];exact⟨Top.of_clean x h.1,vE.of_clean xs h.2⟩
end
abbrev Chg:=List (Nat×Nat)
def Off(chg:Chg)(s:Nat)(p:List Nat):Prop:=∀n,(s,n)∈chg→p.length<n
def zC5(chg:Chg)(r:Nat)(p:List Nat):Bool:=chg.all fun c=>c.1 != r||decide (p.length<c.2)
theorem zMk{chg:Chg}{r:Nat}{p:List Nat}(h:zC5 chg r p=aD):Off chg r p:=by
 intro n hn;have:=Jt.1 h _ hn
 grind
mutual
def T.okB(chg:Chg):T→Bool
 |.same r p|.addr r p|.sub r p _ _ _=>zC5 chg r p
 |.agg xs|.tup xs=>zHZ chg xs
 |.any|.lit _|.ro _|.sl _ _|.ptr _=>aD
def zHZ(chg:Chg):List T→Bool
 | []=>aD
 |x::xs=>x.okB chg&&zHZ chg xs
end
mutual
theorem zA7{chg:Chg}:(t:T)→Top t→t.okB chg=aD→yF (Off chg) t
 |.same r p,_,h|.addr r p,_,h|.sub r p _ _ _,_,h=>by simp only[T.okB]at h;simp only[yF];exact zMk h
 |.agg xs,ht,h|.tup xs,ht,h=>by simp only[T.okB,Top]at h ht;simp only[yF];exact zEY xs ht h
 |.sl _ xs,ht,_=>by simp only[Top]at ht;simp only[yF];grind[yP.mono]
 |.ptr t,ht,_=>by simp only[Top]at ht;simp only[yF];grind[yF.mono]
 |.any,_,_|.lit _,_,_|.ro _,_,_=>by simp only[yF]
theorem zEY{chg:Chg}:(xs:List T)→vE xs→zHZ chg xs=aD→yP (Off chg) xs
 | [],_,_=>by simp only[yP]
 |x::xs,ht,h=>by simp only[zHZ,vE,J3]at h ht;simp only[yP];exact⟨zA7 x ht.1 h.1,zEY xs ht.2 h.2⟩
end
abbrev Env:=Nat→Option T
abbrev Wr:=List (Nat×Option T)
def Wr.find(wr:Wr)(s:Nat):Option (Option T):=
 match wr with
 | []=>aC
 |(k,x)::r=>if k=s then aB x else Wr.find r s
def Env.app(E:Env)(wr:Wr)(chg:Chg):Env:=fun s=>
 match wr.find s with
 |some x=>x
 |none=>match E s with
  |some t=>if t.okB chg then aB t else aC
  |none=>aC
structure Ctx where
 St:Stb
 W:Nat→Prop
 w0:World
 N:Nat
def zBB(Γ:Ctx)(w:World)(b:Nat):Prop:=b<w.heap.size∧(Γ.w0.heap.size≤b∨Γ.W b)∧Γ.St b=aC
structure zQq (w w':World):Prop where
 blk:Blk w w'
 os:w'.os=w.os
 out:w'.output=w.output
structure Mem (Γ:Ctx) (G:Gh) (w:World):Prop where
 one:∀s p,(G.hd s p).oneCell'=aD
 lb:∀b o l,G.lb b o=aB l→zBB Γ w b
 ow:∀b l,G.ow b=aB l→zBB Γ w b
 st:∀b x,Γ.St b=aB x→w.heap[b]? =aB x
 fr:∀b,b<Γ.w0.heap.size→ ¬Γ.W b→w.heap[b]? =Γ.w0.heap[b]?
 sz:Γ.w0.heap.size≤w.heap.size
 bk:zQq Γ.w0 w
theorem Blk.trans{w w' w'':World}(h:Blk w w')(h':Blk w' w''):Blk w w'':=fun b cs e hb=>by
 obtain⟨cs',h1,h2⟩:=h b cs e hb;obtain⟨cs'',h3,h4⟩:=h' b cs' e h1
 grind
theorem zQq.trans{w w' w'':World}(h:zQq w w')(h':Blk w' w'')(ho:w''.os=w'.os)(hq:w''.output=w'.output):zQq w w'':=⟨h.blk.trans h',ho.trans h.os,hq.trans h.out⟩
def Ent(Γ:Ctx)(G:Gh)(w:World)(v:Option Value)(s:Nat)(t:T):Prop:=v=aB (mkV G s t [])∧R Γ.St G w s t []∧Top t
structure Rep (Γ:Ctx) (E:Env) (G:Gh) (tmps:Array Value) (w:World):Prop where
 size:tmps.size=Γ.N
 ent:∀s t,E s=aB t→Ent Γ G w tmps[s]? s t
 mem:Mem Γ G w
def Sim(Γ:Ctx)(E:Env)(a:Act)(w:World):Prop:=a.defers=[]∧ ∃G,Rep Γ E G a.tmps w
structure zCw (S S':Stb) (W:Nat→Prop) (n:Nat):Prop where
 le:∀b x,S b=aB x→S' b=aB x
 nw:∀b,S b=aC→S' b≠aC→n≤b∨W b
theorem zCw.refl{S:Stb}{W:Nat→Prop}{n:Nat}:zCw S S W n:=⟨fun _ _ h=>h,by grind⟩
theorem zCw.trans{S S' S'':Stb}{W:Nat→Prop}{n:Nat}(h:zCw S S' W n)(h':zCw S' S'' W n):zCw S S'' W n:=
 ⟨fun b x hb=>h'.le b x (h.le b x hb),fun b hb ej=>by
  cases hs:S' b with
  |none=>exact h'.nw b hs ej
  |some x=>exact h.nw b hb (by grind)⟩
abbrev Ctx.at(Γ:Ctx)(S:Stb):Ctx:={ Γ with St:=S }
def qI(Γ:Ctx)(E:Env)(a:Act)(w:World):Prop:=∃S,zCw Γ.St S Γ.W Γ.w0.heap.size∧Sim (Γ.at S) E a w
theorem qI.of{Γ:Ctx}{E:Env}{a:Act}{w:World}(h:Sim Γ E a w):qI Γ E a w:=⟨Γ.St,.refl,h⟩
theorem qI.up{Γ:Ctx}{E:Env}{a:Act}{w:World}{S:Stb}(hS:zCw Γ.St S Γ.W Γ.w0.heap.size)(h:qI (Γ.at S) E a w):qI Γ E a w:=by obtain⟨S',h1,h2⟩:=h;exact⟨S',hS.trans h1,h2⟩
structure kE (chg:Chg) (G:Gh) (w:World) (G':Gh) (w':World):Prop where
 hd:∀s p,Off chg s p→G'.hd s p=G.hd s p
 ad:∀s p,Off chg s p→G'.ad s p=G.ad s p
 lb:∀b o f s p,(∃y,G.ow b=aB (s,y))→G.lb b o=aB (f,s,p)→(∀n,(s,n)∉chg)→G'.lb b o=aB (f,s,p)∧zV w' b o=zV w b o
 ow:∀b s p,G.ow b=aB (s,p)→(∀n,(s,n)∉chg)→G'.ow b=aB (s,p)
 blk:Blk w w'
theorem Off.of_not{chg:Chg}{s:Nat}(h:∀n,(s,n)∉chg)(p:List Nat):Off chg s p:=fun n hn=>absurd hn (h n)
section
variable {Γ:Ctx}{G G':Gh}{w w':World}{s:Nat}{chg:Chg}
mutual
theorem zA8{s':Nat}:(t:T)→ ∀(p p':List Nat),(∀z,G'.hd s' (z++p')=G.hd s (z++p))→vals G' s' t p'=vals G s t p
 |.agg xs,p,p',h=>by simp only[vals];exact zDh xs p p' 0 h
 |.any,p,p',h|.lit _,p,p',h|.ro _,p,p',h|.same _ _,p,p',h|.addr _ _,p,p',h|.sub _ _ _ _ _,p,p',h|.sl _ _,p,p',h|.ptr _,p,p',h|.tup _,p,p',h=>by simp only[vals];rw[show G'.hd s' p'=G.hd s p from by simpa using h []]
theorem zDh{s':Nat}:(xs:List T)→ ∀(p p':List Nat)(j:Nat),(∀z,G'.hd s' (z++p')=G.hd s (z++p))→zR G' s' xs p' j=zR G s xs p j
 | [],_,_,_,_=>by rfl
 |x::xs,p,p',j,h=>by simp only[zR];rw[zA8 x (j::p) (j::p') (fun z=>by have:=h (z++[j]);grind),zDh xs p p' (j+1) h]
end
theorem zBf{s':Nat}(t:T)(p p':List Nat)(h:∀z,G'.hd s' (z++p')=G.hd s (z++p)):uW G' s' t p'=uW G s t p:=by
 unfold uW;split
 ·grind[zDh]
 ·simpa using h []
theorem zKI{s':Nat}:(xs:List T)→ ∀(p p':List Nat)(j:Nat),(∀z,G'.hd s' (z++p')=G.hd s (z++p))→kD G' s' xs p' j=kD G s xs p j
 | [],_,_,_,_=>by rfl
 |x::xs,p,p',j,h=>by simp only[kD];rw[zBf x (j::p) (j::p') (fun z=>by have:=h (z++[j]);simpa using this),zKI xs p p' (j+1) h]
theorem zDF{s':Nat}(t:T)(p p':List Nat)(h:∀z,G'.hd s' (z++p')=G.hd s (z++p)):mkV G' s' t p'=mkV G s t p:=by
 unfold mkV;split
 ·grind[zDh]
 ·grind[zKI]
 ·simpa using h []
theorem kE.moves(hk:kE chg G w G' w')(hs:∀n,(s,n)∉chg)(p:List Nat):zG0 G w G' w' s p s p where
 hd _:=hk.hd _ _ (.of_not hs _)
 ad _ _:=hk.ad _ _ (.of_not hs _)
 lb b o f _ _ gT hl:=hk.lb b o f s _ gT hl hs
 ow b _ _ hl:=hk.ow b s _ hl hs
 sp b o gT hl:=hk.lb b o aD s _ gT hl hs
 ow0 b hl:=hk.ow b s _ hl hs
 blk:=hk.blk
theorem kE.keepR(hk:kE chg G w G' w'){t:T}(h:yF (Off chg) t):yF (kY G G') t:=
 yF.mono (fun r p hr=>⟨hk.hd r p hr,hk.ad r p hr⟩) t h
theorem Ent.keep(hk:kE chg G w G' w')(hs:∀n,(s,n)∉chg){v:Option Value}{t:T}(ht:t.okB chg=aD)(h:Ent Γ G w v s t):Ent Γ G' w' v s t:=by
 obtain⟨h1,h2,h3⟩:=h;refine⟨?_,?_,h3⟩
 ·rw[h1,zDF t [] [] (fun z=>hk.hd _ _ (.of_not hs _))]
 ·simpa using zNp (hk.moves hs []) t [] (hk.keepR (zA7 t h3 ht)) (by grind)
end
theorem vK{Γ:Ctx}{E:Env}{G G':Gh}{tmps tmps':Array Value}{w w':World}{wr:Wr}{chg:Chg}(h:Rep Γ E G tmps w)
  (gI:tmps'.size=tmps.size)(hk:kE chg G w G' w')(gw:Mem Γ G' w')
  (gy:∀s,wr.find s=aC→(∀n,(s,n)∉chg)∧tmps'[s]? =tmps[s]?)
  (hH:∀s t,wr.find s=aB (aB t)→Ent Γ G' w' tmps'[s]? s t):Rep Γ (E.app wr chg) G' tmps' w' where
 size:=by rw[gI,h.size]
 mem:=gw
 ent s t hs:=by
  unfold Env.app at hs;cases hf:wr.find s with
  |some x=>
   grind
  |none=>
   rw[hf]at hs;simp at hs;cases he:E s with
   |none=>grind
   |some u=>
    simp[he]at hs;obtain⟨gE,rfl⟩:=hs;rw[(gy s hf).2];exact Ent.keep hk (gy s hf).1 gE (h.ent s u he)
end Go.Ab

namespace Go.Ab
open Go
mutual
def cpT(s:Nat):T→List Nat→T
 |.lit v,_=>.lit v
 |.ro t,_=>.ro t
 |.same r q,_=>.same r q
 |.addr r q,_=>.addr r q
 |.sub r q k lo hi,_=>.sub r q k lo hi
 |.agg xs,p=>.agg (cpF s xs p 0)
 |.any,p|.sl _ _,p|.ptr _,p|.tup _,p=>.same s p
def cpF(s:Nat):List T→List Nat→Nat→List T
 | [],_,_=>[]
 |x::xs,p,j=>cpT s x (j::p)::cpF s xs p (j+1)
end
mutual
theorem sC(s:Nat):(t:T)→ ∀p,Top (cpT s t p)
 |.agg xs,p=>by simp only[cpT,Top];exact zKJ s xs p 0
 |.lit _,_|.ro _,_|.same _ _,_|.addr _ _,_|.sub _ _ _ _ _,_|.any,_|.sl _ _,_|.ptr _,_|.tup _,_=>by simp only[cpT,Top]
theorem zKJ(s:Nat):(xs:List T)→ ∀p j,vE (cpF s xs p j)
 | [],_,_=>by simp only[cpF,vE]
 |x::xs,p,j=>by simp only[cpF,vE];exact⟨sC s x _,zKJ s xs p _⟩
end
section
variable {St:Stb}{G G':Gh}{w w':World}{s d:Nat}
mutual
theorem zCH(hs:∀p,G'.hd s p=G.hd s p):(t:T)→ ∀(p p':List Nat),(∀z,G'.hd d (z++p')=G.hd s (z++p))→(∀xs,t≠.tup xs)→yF (kY G G') (cpT s t p)→R St G w s t p→R St G' w' d (cpT s t p) p'
 |.lit _,p,p',hd,_,_,h=>by simp only[cpT,R]at h ⊢;rw[show G'.hd d p'=_ from by simpa using hd []];exact h
 |.ro _,p,p',hd,_,_,h=>by simp only[cpT,R]at h ⊢;rw[show G'.hd d p'=_ from by simpa using hd []];exact h
 |.same r q,p,p',hd,_,hk,h=>by simp only[cpT,R,yF]at h hk ⊢;rw[show G'.hd d p'=_ from by simpa using hd [],hk.1];exact h
 |.addr r q,p,p',hd,_,hk,h=>by simp only[cpT,R,yF]at h hk ⊢;rw[show G'.hd d p'=_ from by simpa using hd [],hk.2];exact h
 |.sub r q k lo hi,p,p',hd,_,hk,h=>by simp only[cpT,R,yF]at h hk ⊢;rw[show G'.hd d p'=_ from by simpa using hd [],hk.1];exact h
 |.any,p,p',hd,_,_,_|.sl _ _,p,p',hd,_,_,_|.ptr _,p,p',hd,_,_,_=>by simp only[cpT,R];rw[show G'.hd d p'=_ from by simpa using hd [],hs]
 |.tup xs,_,_,_,h,_,_=>absurd rfl (h xs)
 |.agg xs,p,p',hd,_,hk,h=>by simp only[cpT,R,yF]at h hk ⊢;exact zHh hs xs p p' 0 hd hk h
theorem zHh(hs:∀p,G'.hd s p=G.hd s p):(xs:List T)→ ∀(p p':List Nat)(j:Nat),(∀z,G'.hd d (z++p')=G.hd s (z++p))→yP (kY G G') (cpF s xs p j)→RF St G w s xs p j→RF St G' w' d (cpF s xs p j) p' j
 | [],_,_,_,_,_,_=>by simp only[cpF,RF]
 |x::xs,p,p',j,hd,hk,h=>by
  simp only[cpF,RF,yP]at h hk ⊢
  refine⟨?_,zHh hs xs p p' (j+1) hd hk.2 h.2⟩
  by_cases hx:∃ys,x=.tup ys
  ·obtain⟨ys,rfl⟩:=hx
   simp only[cpT,R];rw[show G'.hd d (j::p')=_ from by simpa using hd [j],hs]
  ·exact zCH hs x (j::p) (j::p') (fun z=>by have:=hd (z++[j]);simpa using this) (fun ys e=>hx ⟨ys,e⟩) hk.1 h.1
end
mutual
theorem zMl:(t:T)→ ∀(p p':List Nat),(∀z,G'.hd d (z++p')=G.hd s (z++p))→vals G' d (cpT s t p) p'=vals G s t p
 |.agg xs,p,p',h=>by simp only[cpT,vals];exact zCI xs p p' 0 h
 |.any,p,p',h|.lit _,p,p',h|.ro _,p,p',h|.same _ _,p,p',h|.addr _ _,p,p',h|.sub _ _ _ _ _,p,p',h|.sl _ _,p,p',h|.ptr _,p,p',h|.tup _,p,p',h=>by simp only[cpT,vals];rw[show G'.hd d p'=G.hd s p from by simpa using h []]
theorem zCI:(xs:List T)→ ∀(p p':List Nat)(j:Nat),(∀z,G'.hd d (z++p')=G.hd s (z++p))→zR G' d (cpF s xs p j) p' j=zR G s xs p j
 | [],_,_,_,_=>by rfl
 |x::xs,p,p',j,h=>by simp only[cpF,zR];rw[zMl x (j::p) (j::p') (fun z=>by have:=h (z++[j]);grind),zCI xs p p' (j+1) h]
end
theorem zAq(t:T)(p p':List Nat)(ht:∀xs,t≠.tup xs)(h:∀z,G'.hd d (z++p')=G.hd s (z++p)):mkV G' d (cpT s t p) p'=uW G s t p:=by
 cases t with
 |agg xs=>grind[cpT,mkV,uW,zCI]
 |tup xs=>grind
 |_=>simpa[cpT,mkV,uW]using h []
end
theorem kF(G:Gh)(s:Nat)(t:T)(p:List Nat)(ht:∀xs,t≠.tup xs):mkV G s t p=uW G s t p:=by
 cases t with
 |tup xs=>grind
 |_=>rfl
def Gh.put(G:Gh)(d:Nat)(f:List Nat→Value):Gh:={ G with hd:=fun s z=>if s=d then f z else G.hd s z }
theorem Gh.put_other(G:Gh){d s:Nat}(f:List Nat→Value)(p:List Nat)(h:s≠d):(G.put d f).hd s p=G.hd s p:=by simp[Gh.put,h]
theorem Gh.put_self(G:Gh)(d:Nat)(f:List Nat→Value)(p:List Nat):(G.put d f).hd d p=f p:=by simp[Gh.put]
theorem zTc{d s:Nat}{p:List Nat}(h:Off [(d,0)] s p):s≠d:=by
 rintro rfl
 exact absurd (h 0 (by simp)) (by simp)
theorem Gh.put_keep(G:Gh){w w':World}(hw:w'.heap=w.heap)(d:Nat)(f:List Nat→Value):kE [(d,0)] G w (G.put d f) w' where
 hd s p h:=G.put_other f p (zTc h)
 ad _ _ _:=rfl
 lb b o f' s p _ h _:=⟨h,by grind[zV,World.cell?]⟩
 ow b s p h _:=h
 blk b cs e h:=by grind
theorem Mem.put{Γ:Ctx}{G:Gh}{w w':World}(h:Mem Γ G w)(hw:w'.heap=w.heap)(d:Nat)(f:List Nat→Value)(hf:∀z,(f z).oneCell'=aD)(ho:w'.os=w.os:=by rfl)(hq:w'.output=w.output:=by rfl):Mem Γ (G.put d f) w' where
 one s p:=by unfold Gh.put;dsimp only;split;exact hf p;exact h.one s p
 lb b o l hl:=by have:=h.lb b o l hl;exact⟨by rw[hw];exact this.1,this.2⟩
 ow b l hl:=by have:=h.ow b l hl;exact⟨by rw[hw];exact this.1,this.2⟩
 st b x hx:=by rw[hw];exact h.st b x hx
 fr b h1 h2:=by rw[hw];exact h.fr b h1 h2
 sz:=by rw[hw];exact h.sz
 bk:=h.bk.trans (fun b cs e hb=>by grind) ho hq
theorem uK(d:Nat)(x:Option T)(s:Nat):Wr.find [(d,x)] s=if d=s then aB x else aC:=by rfl
theorem wK{Γ:Ctx}{E:Env}{G:Gh}{tmps:Array Value}{w w':World}(h:Rep Γ E G tmps w)(hw:w'.heap=w.heap){d:Nat}(hd:d<Γ.N)
  (f:List Nat→Value)(hf:∀z,(f z).oneCell'=aD)(t:T)(v:Value)(hv:v=mkV (G.put d f) d t [])(hr:R Γ.St (G.put d f) w' d t [])(ht:Top t)(ho:w'.os=w.os:=by rfl)(hq:w'.output=w.output:=by rfl):
  Rep Γ (E.app [(d,aB t)] [(d,0)]) (G.put d f) (tmps.setIfInBounds d v) w':=by
 refine vK h (by simp) (G.put_keep hw d f) (h.mem.put hw d f hf ho hq) ?_ ?_
 ·grind[uK]
 ·intro s t' hs
  rw[uK]at hs;split at hs
  ·rename_i he
   subst he;simp at hs;subst hs;refine⟨?_,hr,ht⟩;rw[J8];simp[h.size,hd,hv]
  ·cases hs
def xF(P:Program)(Γ:Ctx)(o:Oper)(E E':Env):Prop:=
 ∀(a:Act)(w:World)(K:Act→World→Prop)(Q:Exit→Act→World→Prop),Sim Γ E a w→(∀a' w',qI Γ E' a' w'→K a' w')→o.wp P a w K Q
def opT(E:Env):Operand→Option T
 |.tmp s=>E s
 |.const v=>if v.oneCell' then aB (.lit v)else aC
 |.func f=>aB (.lit (.func (.func f) #[] #[]))
 |.global _=>aC
def vV(x:Operand)(t:T):T:=match x with
 |.tmp s=>cpT s t []
 |_=>t
section
variable {P:Program}{Γ:Ctx}{E E':Env}{o:Oper}{d:Nat}
theorem xD{a:Act}{s:Nat}{v:Value}(h:a.tmps[s]? =aB v):a.eval (.tmp s)=v:=by simp[Act.eval,K0,h]
theorem xF.value(ho:o.dst=aB d)
  (h:∀(a:Act)(w:World)(G:Gh),Rep Γ E G a.tmps w→ ∃v w',(execOp a.eval o).run P w=.ok (.value v) w'∧ ∃G',Rep Γ E' G' (a.tmps.setIfInBounds d v) w'):xF P Γ o E E':=by
 intro a w K Q ⟨ed,G,ga⟩ hK;obtain⟨v,w',gp,G',eA⟩:=h a w G ga;unfold Oper.wp;rw[gp,Oper.upon_value];refine hK _ _ ?_;rw[ho];exact .of ⟨ed,G',eA⟩
theorem xF.skip(ho:o.dst=aC)
  (h:∀(a:Act)(w:World)(G:Gh),Rep Γ E G a.tmps w→ ∃w',(execOp a.eval o).run P w=.ok .skip w'∧ ∃G',Rep Γ E' G' a.tmps w'):xF P Γ o E E':=by
 intro a w K Q ⟨ed,G,ga⟩ hK;obtain⟨w',gp,G',eA⟩:=h a w G ga;unfold Oper.wp;rw[gp,Oper.upon_skip];refine hK _ _ ?_;rw[ho];exact .of ⟨ed,G',eA⟩
theorem opd{G:Gh}{a:Act}{w:World}(ga:Rep Γ E G a.tmps w){x:Operand}{t:T}(hx:opT E x=aB t)(ht:∀xs,t≠.tup xs):
  ∃f:List Nat→Value,(∀z,(f z).oneCell'=aD)∧(∀d,(∀s,x=.tmp s→s≠d)→T.okB [(d,0)] (vV x t)=aD→
   a.eval x=mkV (G.put d f) d (vV x t) []∧R Γ.St (G.put d f) w d (vV x t) [])∧Top (vV x t):=by
 cases x with
 |tmp s=>
  obtain⟨h1,h2,h3⟩:=ga.ent s t hx;refine⟨fun z=>G.hd s z,fun z=>ga.mem.one s z,?_,sC s t []⟩;intro d gf gE;have ek:=gf s rfl;have hk:=G.put_keep (w:=w) (w':=w) rfl d (fun z=>G.hd s z);have hz:∀z,(G.put d (fun z=>G.hd s z)).hd d (z++[])=G.hd s (z++[]):=by grind[Gh.put_self]
  refine⟨?_,?_⟩
  ·grind[xD,vV,zAq,kF]
  ·exact zCH (fun p=>G.put_other _ p ek) t [] [] hz ht (hk.keepR (zA7 _ (sC s t []) gE)) h2
 |const v=>
  simp only[opT]at hx;split at hx
  ·rename_i gk
   simp at hx;subst hx;exact⟨fun _=>v,fun _=>gk,fun d _ _=>⟨by simp[Act.eval,vV,mkV,Gh.put],by simp[vV,R,Gh.put]⟩,by simp[vV,Top]⟩
  ·cases hx
 |func f=>
  simp only[opT]at hx;simp at hx;subst hx;exact⟨fun _=>.func (.func f) #[] #[],fun _=>rfl,fun d _ _=>⟨by simp[Act.eval,vV,mkV,Gh.put],by simp[vV,R,Gh.put]⟩,by simp[vV,Top]⟩
 |global g=>cases hx
theorem zKK(x:Operand)(t:T)(ho:o.op=.move x∨o.op=.assign x)(gb:o.dst=aB d)(hd:d<Γ.N)(hx:opT E x=aB t)(ht:∀xs,t≠.tup xs)
  (gf:∀s,x=.tmp s→s≠d)(gE:T.okB [(d,0)] (vV x t)=aD):xF P Γ o E (E.app [(d,aB (vV x t))] [(d,0)]):=by
 refine xF.value gb fun a w G ga=>?_
 obtain⟨f,hf,h1,h2⟩:=opd ga hx ht;obtain⟨h3,h4⟩:=h1 d gf gE;refine⟨a.eval x,w,?_,_,wK ga rfl hd f hf _ _ h3 h4 h2⟩;rcases ho with ho|ho<;>simp[execOp,ho]
theorem yL{G:Gh}{a:Act}{w:World}(ga:Rep Γ E G a.tmps w){x:Operand}{v:Value}(hx:opT E x=aB (.lit v)):a.eval x=v∧v.oneCell'=aD:=by
 cases x with
 |tmp s=>
  obtain⟨h1,h2,_⟩:=ga.ent s _ hx;simp only[R]at h2;refine⟨?_,by rw[←h2];exact ga.mem.one s []⟩
  grind[xD,mkV]
 |const u=>
  simp only[opT]at hx;split at hx
  ·simp at hx;subst hx;exact⟨rfl,by assumption⟩
  ·cases hx
 |func f=>simp only[opT]at hx;simp at hx;subst hx;exact⟨rfl,rfl⟩
 |global g=>cases hx
theorem uT(v:Value)(hv:v.oneCell'=aD)(gb:o.dst=aB d)(hd:d<Γ.N)
  (h:∀(a:Act)(w:World)(G:Gh),Rep Γ E G a.tmps w→(execOp a.eval o).run P w=.ok (.value v) w):xF P Γ o E (E.app [(d,aB (.lit v))] [(d,0)]):=by
 refine xF.value gb fun a w G ga=>?_
 exact⟨v,w,h a w G ga,_,wK ga rfl hd (fun _=>v) (fun _=>hv) (.lit v) v (by simp[mkV,Gh.put]) (by simp[R,Gh.put]) (by simp[Top])⟩
def zHi(op:BinOp)(k:IntKind)(a b:Int):Option Value:=
 match op with
 |.add=>aB (.int k (k.wrap (a+b)))
 |.sub=>aB (.int k (k.wrap (a-b)))
 |.mul=>aB (.int k (k.wrap (a*b)))
 |.quo=>if b=0 then aC else aB (.int k (k.wrap (a.tdiv b)))
 |.rem=>if b=0 then aC else aB (.int k (a.tmod b))
 |.eql=>aB (.bool (a==b))
 |.neq=>aB (.bool (a != b))
 |.lss=>aB (.bool (decide (a<b)))
 |.leq=>aB (.bool (decide (a≤b)))
 |.gtr=>aB (.bool (decide (a> b)))
 |.geq=>aB (.bool (decide (a≥b)))
 |_=>aC
theorem zNt{op:BinOp}{k:IntKind}{a b:Int}{v:Value}(h:zHi op k a b=aB v):v.oneCell'=aD:=by cases op<;>simp[zHi]at h<;>first|(subst h;rfl)|(obtain⟨_,rfl⟩:=h;rfl)
theorem wY(op:BinOp)(xt yt:TypeId)(x y:Operand)(k:IntKind)(m n:Int)(v:Value)(ho:o.op=.binOp op xt x y yt)(gb:o.dst=aB d)(hd:d<Γ.N)
  (hx:opT E x=aB (.lit (.int k m)))(hy:opT E y=aB (.lit (.int k n)))(hv:zHi op k m n=aB v):xF P Γ o E (E.app [(d,aB (.lit v))] [(d,0)]):=by
 refine uT v (zNt hv) gb hd fun a w G ga=>?_
 have h1:=(yL ga hx).1;have h2:=(yL ga hy).1;cases op<;>simp[zHi]at hv<;>
  first
   |(subst hv;simp[execOp,ho,h1,h2,eqGuard,binOp,Op.intArith,Op.intCmp];done)
   |(obtain⟨h0,rfl⟩:=hv;simp[execOp,ho,h1,h2,eqGuard,binOp,Op.intDiv,h0])
theorem zTd(xt:TypeId)(x:Operand)(b:Bool)(ho:o.op=.unOp .not xt x)(gb:o.dst=aB d)(hd:d<Γ.N)
  (hx:opT E x=aB (.lit (.bool b))):xF P Γ o E (E.app [(d,aB (.lit (.bool !b)))] [(d,0)]):=by
 refine uT _ rfl gb hd fun a w G ga=>?_
 have h1:=(yL ga hx).1;simp[execOp,ho,h1,Op.unary]
theorem zTe(xt:TypeId)(x:Operand)(k:IntKind)(n:Int)(ho:o.op=.unOp .neg xt x)(gb:o.dst=aB d)(hd:d<Γ.N)
  (hx:opT E x=aB (.lit (.int k n))):xF P Γ o E (E.app [(d,aB (.lit (.int k (k.wrap (0-n)))))] [(d,0)]):=by
 refine uT _ rfl gb hd fun a w G ga=>?_
 have h1:=(yL ga hx).1;simp[execOp,ho,h1,Op.unary,Op.intArith]
theorem zQr(src dst:TypeId)(ds:TypeDesc)(x:Operand)(k k':IntKind)(n:Int)(ho:o.op=.convert src dst x)(gb:o.dst=aB d)(hd:d<Γ.N)
  (hs:P.underlying src=aB ds)(ht:P.underlying dst=aB (.int k'))(hx:opT E x=aB (.lit (.int k n))):
  xF P Γ o E (E.app [(d,aB (.lit (.int k' (k'.wrap n))))] [(d,0)]):=by
 refine uT _ rfl gb hd fun a w G ga=>?_
 have h1:=(yL ga hx).1;simp[execOp,ho,h1,convert,run_underlying hs,run_underlying ht,Conv.intToInt]
theorem zQs(c x y:Operand)(b:Bool)(t:T)(ho:o.op=.pick c x y)(gb:o.dst=aB d)(hd:d<Γ.N)
  (hc:opT E c=aB (.lit (.bool b)))(hx:opT E (if b then x else y)=aB t)(ht:∀xs,t≠.tup xs)
  (gf:∀s,(if b then x else y)=.tmp s→s≠d)(gE:T.okB [(d,0)] (vV (if b then x else y) t)=aD):xF P Γ o E (E.app [(d,aB (vV (if b then x else y) t))] [(d,0)]):=by
 refine xF.value gb fun a w G ga=>?_
 obtain⟨f,hf,h1,h2⟩:=opd ga hx ht;obtain⟨h3,h4⟩:=h1 d gf gE;refine⟨a.eval (if b then x else y),w,?_,_,wK ga rfl hd f hf _ _ h3 h4 h2⟩;have h5:=(yL ga hc).1;cases b<;>simp[execOp,ho,h5,asBool]
end
end Go.Ab

namespace Go.Ab
open Go
def sG(E:Env):Nat→Nat→List Nat→Option (Nat×List Nat×T)
 |0,_,_=>aC
 |n+1,r,q=>match E r with
  |some t=>match t.get q.reverse with
   |some (.same r' q')=>sG E n r' q'
   |some u=>aB (r,q,u)
   |none=>aC
  |none=>aC
def uL(E:Env):Operand→Option (Nat×List Nat×T)
 |.tmp s=>sG E 4 s []
 |_=>aC
def T.single:T→Bool
 |.agg _|.tup _=>aE
 |_=>aD
theorem yR{G:Gh}{s:Nat}{t:T}{p:List Nat}(h:t.single=aD):mkV G s t p=G.hd s p:=by cases t<;>simp[T.single]at h<;>rfl
section
variable {P:Program}{Γ:Ctx}{E:Env}{o:Oper}{d:Nat}
theorem zCd{G:Gh}{a:Act}{w:World}(ga:Rep Γ E G a.tmps w):∀(n s:Nat)(p:List Nat)(r:Nat)(q:List Nat)(u:T),sG E n s p=aB (r,q,u)→
  R Γ.St G w r u q∧G.hd s p=G.hd r q∧(∃t,E r=aB t∧t.get q.reverse=aB u)
 |0,_,_,_,_,_,h=>by simp[sG]at h
 |n+1,s,p,r,q,u,h=>by
  simp only[sG]at h;split at h
  ·rename_i t ht
   obtain⟨_,h4,_⟩:=ga.ent _ _ ht;split at h
   ·rename_i r' q' hg
    obtain⟨h1,h2,h3⟩:=zCd ga n r' q' r q u h;have h5:=(zBA p.reverse t _ [] h4 hg).1;simp only[rp,Kk,Jf,R]at h5;exact⟨h1,h5.trans h2,h3⟩
   ·rename_i u' hns hg
    simp at h;obtain⟨rfl,rfl,rfl⟩:=h;have h5:=(zBA p.reverse t _ [] h4 hg).1;simp only[rp,Kk,Jf]at h5;exact⟨h5,rfl,t,ht,hg⟩
   ·cases h
  ·cases h
theorem sH{G:Gh}{a:Act}{w:World}(ga:Rep Γ E G a.tmps w){x:Operand}{r:Nat}{q:List Nat}{u:T}(h:uL E x=aB (r,q,u))(hu:u.single=aD):
  R Γ.St G w r u q∧a.eval x=G.hd r q:=by
 cases x with
 |tmp s=>
  obtain⟨h1,h2,_⟩:=zCd ga 4 s [] r q u h;refine⟨h1,?_⟩;rw[←h2];simp only[uL,sG]at h;split at h
  ·rename_i t ht
   obtain⟨h3,_,_⟩:=ga.ent s _ ht;rw[xD h3];simp only[Hq,T.get]at h;have:t.single=aD:=by cases t<;>first|rfl|(simp at h;obtain⟨_,_,rfl⟩:=h;simp[T.single]at hu)
   exact yR this
  ·cases h
 |_=>simp[uL]at h
theorem zHj{St:Stb}{G:Gh}{w:World}{s:Nat}{k:Nat}{xs:List T}{p:List Nat}(h:R St G w s (.sl k xs) p):∃a c,G.hd s p=.slice a xs.length c:=by
 simp only[R]at h;rcases h with⟨rfl,a,h⟩|⟨b,_,cap,_,_,h,_⟩
 ·exact⟨a,0,h⟩
 ·exact⟨_,_,h⟩
theorem zCe{St:Stb}{G:Gh}{w:World}{s:Nat}{k:Nat}{xs:List T}{p:List Nat}(h:R St G w s (.ro (.sl k xs)) p):∃a c,G.hd s p=.slice a xs.length c∧xs.length≤c∧c≤maxLen∧
   (xs≠[]→ ∃b o' cs' e fr,a=aB ⟨b,o',aC⟩∧St b=aB (.cells cs' e fr)∧RoL St xs cs' o' k):=by
 simp only[R,RoC]at h;obtain⟨a,c,h1,h2,h3,h4⟩:=h;exact⟨a,c,by simpa using h1,h2,h3,h4⟩
def zIa:T→Option Nat
 |.sl _ xs|.ro (.sl _ xs)=>aB xs.length
 |.lit (.slice _ n _)=>aB n
 |.lit (.string s)=>aB s.size
 |_=>aC
def zQt:T→TypeDesc→Bool
 |.lit (.string _),.string=>aD
 |.sl _ _,.slice _|.ro (.sl _ _),.slice _|.lit (.slice _ _ _),.slice _=>aD
 |_,_=>aE
theorem zNu(x:Operand)(t:TypeId)(ds:TypeDesc)(r:Nat)(q:List Nat)(u:T)(n:Nat)(ho:o.op=.call { callee:=.builtin .len,args:=#[x],argTypes:=#[t] })(gb:o.dst=aB d)(hd:d<Γ.N)
  (ht:P.underlying t=aB ds)(hx:uL E x=aB (r,q,u))(hl:zIa u=aB n)(fY:zQt u ds=aD):
  xF P Γ o E (E.app [(d,aB (.lit (.int .i64 n)))] [(d,0)]):=by
 refine uT (.int .i64 n) rfl gb hd fun a w G ga=>?_
 have hu:u.single=aD:=by cases u<;>simp[zIa]at hl<;>rfl
 obtain⟨h1,h2⟩:=sH ga hx hu;have h3:(Builtin.len_ #[t] o.type #[G.hd r q]).run P w=.ok (.int .i64 n) w:=by
  cases u with
  |sl k xs=>
   obtain⟨a',c,h4⟩:=zHj h1;simp[zIa]at hl;subst hl;cases ds<;>simp[zQt]at fY
   simp[Builtin.len_,run_underlying ht,h4,goInt]
  |ro t'=>
   cases t'<;>simp[zIa]at hl
   obtain⟨a',c,h4,_⟩:=zCe h1;subst hl;cases ds<;>simp[zQt]at fY
   simp[Builtin.len_,run_underlying ht,h4,goInt]
  |lit v=>
   simp only[R]at h1;cases v<;>simp[zIa]at hl<;>(subst hl;cases ds<;>simp[zQt]at fY;simp[Builtin.len_,run_underlying ht,h1,goInt])
  |_=>simp[zIa]at hl
 simp[execOp,ho,resolve,invoke,builtin,h2,h3]
theorem zCJ{G:Gh}{w:World}{s:Nat}{t:T}{p:List Nat}{b o:Nat}(h:Loc G w s t p b o):G.ad s p=⟨b,o,aC⟩:=by cases t<;>simp only[Loc]at h<;>first|exact h.1|exact h.elim
theorem wZ(b o n:Nat):(⟨b,o,aC⟩:Addr).add n=⟨b,o+n,aC⟩:=by
 unfold Addr.add;split
 ·rename_i h;subst h;rfl
 ·rfl
theorem zQu{St:Stb}{G:Gh}{w:World}{s:Nat}{k:Nat}{xs:List T}{p:List Nat}(h:R St G w s (.sl k xs) p){i:Nat}(hi:i<xs.length):
  ∃b o0 cap,G.hd s p=.slice (aB ⟨b,o0,aC⟩) xs.length cap∧G.ad s (i::p)=⟨b,o0+i*k,aC⟩:=by
 simp only[R]at h;rcases h with⟨rfl,_⟩|⟨b,o0,cap,cs,e,h1,h2,h3,h4,h5,h6,h7,h8⟩
 ·simp at hi
 ·have:=(qG xs p 0 b o0 k i xs[i] h8 (by simp[hi])).1
  simp only[J7]at this;exact⟨b,o0,cap,h1,zCJ this⟩
theorem zUI(x y:Operand)(t e:TypeId)(ti:TypeInfo)(r:Nat)(q:List Nat)(k:Nat)(xs:List T)(kd:IntKind)(i:Int)(ho:o.op=.indexAddr t x y)(gb:o.dst=aB d)(hd:d<Γ.N)
  (ht:P.underlying t=aB (.slice e))(he:P.info? e=aB ti)(hk:ti.size=k)(hx:uL E x=aB (r,q,.sl k xs))(hy:opT E y=aB (.lit (.int kd i)))(h0:0≤i)(h1:i.toNat<xs.length):
  xF P Γ o E (E.app [(d,aB (.addr r (i.toNat::q)))] [(d,0)]):=by
 refine xF.value gb fun a w G ga=>?_
 obtain⟨g1,g2⟩:=sH ga hx rfl;have g3:=(yL ga hy).1;obtain⟨b,o0,cap,g4,g5⟩:=zQu g1 h1;refine⟨.pointer (aB (G.ad r (i.toNat::q))),w,?_,_,wK ga rfl hd (fun _=>.pointer (aB (G.ad r (i.toNat::q)))) (fun _=>rfl) _ _ (by simp[mkV,Gh.put]) (by simp[R,Gh.put]) (by simp[Top])⟩;have gP:i<(xs.length:Int):=by omega
 simp[execOp,ho,Instr.indexAt,g3,g2,g4,asIntOf,run_underlying ht,h0,gP,sizeOf,typeInfo,he,hk,wZ,g5]
theorem zEI{St:Stb}:(xs:List T)→ ∀(cs:Array Value)(o k i:Nat)(x:T),RoL St xs cs o k→xs[i]? =aB x→RoC St x cs (o+i*k)
 | [],_,_,_,_,_,_,h=>by simp at h
 |y::ys,cs,o,k,i,x,hr,h=>by
  simp only[RoL]at hr;cases i with
  |zero=>simp at h;subst h;simpa using hr.1
  |succ i=>
   have:=zEI ys cs (o+k) k i x hr.2 (by simpa using h)
   rwa [show o+(i+1)*k=o+k+i*k from by rw[Lt];omega]
theorem zKL{St:Stb}:(xs:List T)→ ∀(cs:Array Value)(o i:Nat)(x:T),RoF St xs cs o→xs[i]? =aB x→RoC St x cs (o+T.sizes (xs.take i))
 | [],_,_,_,_,_,h=>by simp at h
 |y::ys,cs,o,i,x,hr,h=>by
  simp only[RoF]at hr;cases i with
  |zero=>simp at h;subst h;simpa[T.sizes]using hr.1
  |succ i=>
   have:=zKL ys cs (o+y.size) i x hr.2 (by simpa using h)
   rwa [K6,T.sizes,←Lf]
theorem zNv(x y:Operand)(t e:TypeId)(ti:TypeInfo)(r:Nat)(q:List Nat)(k:Nat)(xs:List T)(kd:IntKind)(i:Int)(u:T)(ho:o.op=.indexAddr t x y)(gb:o.dst=aB d)(hd:d<Γ.N)
  (ht:P.underlying t=aB (.slice e))(he:P.info? e=aB ti)(hk:ti.size=k)(hx:uL E x=aB (r,q,.ro (.sl k xs)))(hy:opT E y=aB (.lit (.int kd i)))(h0:0≤i)(h1:xs[i.toNat]? =aB u):
  xF P Γ o E (E.app [(d,aB (.ro (.ptr u)))] [(d,0)]):=by
 refine xF.value gb fun a w G ga=>?_
 obtain⟨g1,g2⟩:=sH ga hx rfl;have g3:=(yL ga hy).1;have tq:i.toNat<xs.length:=(Jc.1 h1).1;obtain⟨a',c,g4,_,_,g5⟩:=zCe g1;obtain⟨b,o',cs',e',fr,rfl,g6,g7⟩:=g5 (by rintro rfl;simp at tq);have g8:=zEI xs cs' o' k i.toNat u g7 h1;refine⟨.pointer (aB ⟨b,o'+i.toNat*k,aC⟩),w,?_,_,wK ga rfl hd (fun _=>.pointer (aB ⟨b,o'+i.toNat*k,aC⟩)) (fun _=>rfl) _ _ (by simp[mkV,Gh.put]) ?_ (by simp[Top])⟩
 ·have gP:i<(xs.length:Int):=by omega
  simp[execOp,ho,Instr.indexAt,g3,g2,g4,asIntOf,run_underlying ht,h0,gP,sizeOf,typeInfo,he,hk,wZ]
 ·simp only[R,Gh.put_self,RoC]
  exact⟨b,_,cs',e',fr,by simp,g6,g8⟩
theorem zDi:(xs:List T)→ ∀{G:Gh}{w:World}{s:Nat}(p:List Nat)(j b o i:Nat)(x:T),wD G w s xs p j b o→xs[i]? =aB x→
  Loc G w s x ((j+i)::p) b (o+T.sizes (xs.take i))
 | [],_,_,_,_,_,_,_,_,_,_,h=>by simp at h
 |y::ys,G,w,s,p,j,b,o,i,x,hr,h=>by
  simp only[wD]at hr;cases i with
  |zero=>simp at h;subst h;simpa[T.sizes]using hr.1
  |succ i=>
   have:=zDi ys p (j+1) b (o+y.size) i x hr.2 (by simpa using h)
   rwa [show j+(i+1)=j+1+i from by omega,K6,T.sizes,←Lf]
theorem uR{P:Program}{w:World}(a:Addr):(Instr.sureAddr (.pointer (aB a))).run P w=.ok a w:=rfl
theorem zEp{P:Program}{w:World}{S:TypeId}{fs:Array Field}{f:Field}{fi:TypeInfo}{j:Nat}{b o':Nat}(hS:P.underlying S=aB (.struct fs))(hf:fs[j]? =aB f)(hi:P.info? f.type=aB fi)(hz:fi.size≠0):
  (Instr.fieldAt S (.pointer (aB ⟨b,o',aC⟩)) j).run P w=.ok (.pointer (aB ⟨b,o'+f.offset,aC⟩)) w:=by
 simp[Instr.fieldAt,run_underlying hS,hf,uR,fieldPlace,sizeOf,typeInfo,hi,hz,wZ]
theorem zUJ(x:Operand)(S:TypeId)(fs:Array Field)(f:Field)(fi:TypeInfo)(j:Nat)(r:Nat)(q:List Nat)(xs:List T)(u:T)(ho:o.op=.fieldAddr S x j)(gb:o.dst=aB d)(hd:d<Γ.N)
  (hS:P.underlying S=aB (.struct fs))(hf:fs[j]? =aB f)(hi:P.info? f.type=aB fi)(hz:fi.size≠0)(hx:uL E x=aB (r,q,.ptr (.agg xs)))(hu:xs[j]? =aB u)(gH:T.sizes (xs.take j)=f.offset):
  xF P Γ o E (E.app [(d,aB (.addr r (j::0::q)))] [(d,0)]):=by
 refine xF.value gb fun a w G ga=>?_
 obtain⟨g1,g2⟩:=sH ga hx rfl;simp only[R]at g1;obtain⟨b,cs,e,g4,_,_,_,g5,_⟩:=g1;simp only[Loc]at g5;have g6:=zDi xs (0::q) 0 b 0 j u g5.2 hu;simp only[J7]at g6;refine⟨.pointer (aB (G.ad r (j::0::q))),w,?_,_,wK ga rfl hd (fun _=>.pointer (aB (G.ad r (j::0::q)))) (fun _=>rfl) _ _ (by simp[mkV,Gh.put]) (by simp[R,Gh.put]) (by simp[Top])⟩;have g7:=zEp (w:=w) (b:=b) (o':=0) hS hf hi hz;simp[execOp,ho,g2,g4,g7,zCJ g6,gH]
theorem zJ6{G:Gh}{a:Act}{w:World}(ga:Rep Γ E G a.tmps w){x:Operand}{u:T}(hx:opT E x=aB (.ro u)):RoC Γ.St u #[a.eval x] 0:=by
 cases x with
 |tmp s=>
  obtain⟨h1,h2,_⟩:=ga.ent s _ hx;simp only[R]at h2;rw[xD h1,yR rfl];exact h2
 |const v=>simp only[opT]at hx;split at hx<;>simp at hx
 |func f=>simp[opT]at hx
 |global g=>simp[opT]at hx
theorem zNw(x:Operand)(S:TypeId)(fs:Array Field)(f:Field)(fi:TypeInfo)(j:Nat)(xs:List T)(u:T)(ho:o.op=.fieldAddr S x j)(gb:o.dst=aB d)(hd:d<Γ.N)
  (hS:P.underlying S=aB (.struct fs))(hf:fs[j]? =aB f)(hi:P.info? f.type=aB fi)(hz:fi.size≠0)(hx:opT E x=aB (.ro (.ptr (.agg xs))))(hu:xs[j]? =aB u)(gH:T.sizes (xs.take j)=f.offset):
  xF P Γ o E (E.app [(d,aB (.ro (.ptr u)))] [(d,0)]):=by
 refine xF.value gb fun a w G ga=>?_
 have h1:=zJ6 ga hx;simp only[RoC]at h1;obtain⟨b,o',cs',e,fr,h2,h3,h4⟩:=h1;have h5:=zKL xs cs' o' j u h4 hu;refine⟨.pointer (aB ⟨b,o'+f.offset,aC⟩),w,?_,_,wK ga rfl hd (fun _=>.pointer (aB ⟨b,o'+f.offset,aC⟩)) (fun _=>rfl) _ _ (by simp[mkV,Gh.put]) ?_ (by simp[Top])⟩
 ·have g7:=zEp (w:=w) (b:=b) (o':=o') hS hf hi hz
  have h6:a.eval x=.pointer (aB ⟨b,o',aC⟩):=by simpa using h2
  simp[execOp,ho,h6,g7]
 ·simp only[R,Gh.put_self,RoC]
  exact⟨b,o'+f.offset,cs',e,fr,by simp,h3,by rw[←gH];exact h5⟩
def zDG:TypeDesc→Bool
 |.struct _|.array _ _=>aD
 |_=>aE
theorem qJ{P:Program}{w:World}{t:TypeId}{ds:TypeDesc}(ht:P.underlying t=aB ds):(isAgg t).run P w=.ok (zDG ds) w:=by cases ds<;>simp[isAgg,run_underlying ht,zDG]
theorem xW{G:Gh}{w:World}{s:Nat}{t:T}{p:List Nat}{b o:Nat}(ht:t.single=aD)(h:Loc G w s t p b o):G.ad s p=⟨b,o,aC⟩∧G.lb b o=aB (aE,s,p)∧zV w b o=aB (G.hd s p):=by cases t<;>simp[T.single]at ht<;>simpa only[Loc]using h
mutual
theorem zNx{G:Gh}{w:World}{s:Nat}:(t:T)→ ∀(p:List Nat)(b o:Nat),Loc G w s t p b o→ ∀(i:Nat)(v:Value),(vals G s t p)[i]? =aB v→zV w b (o+i)=aB v
 |.agg xs,p,b,o,h,i,v,hv=>by simp only[Loc,vals]at h hv;exact zAk xs p 0 b o h.2 i v hv
 |.any,p,b,o,h,i,v,hv|.lit _,p,b,o,h,i,v,hv|.ro _,p,b,o,h,i,v,hv|.same _ _,p,b,o,h,i,v,hv|.addr _ _,p,b,o,h,i,v,hv|.sub _ _ _ _ _,p,b,o,h,i,v,hv|.sl _ _,p,b,o,h,i,v,hv|.ptr _,p,b,o,h,i,v,hv=>by
  simp only[Loc,vals]at h hv;cases i with
  |zero=>simp at hv;rw[←hv];exact h.2.2
  |succ i=>simp at hv
 |.tup _,_,_,_,h,_,_,_=>by simp only[Loc]at h
theorem zAk{G:Gh}{w:World}{s:Nat}:(xs:List T)→ ∀(p:List Nat)(j b o:Nat),wD G w s xs p j b o→ ∀(i:Nat)(v:Value),(zR G s xs p j)[i]? =aB v→zV w b (o+i)=aB v
 | [],_,_,_,_,_,i,v,hv=>by simp[zR]at hv
 |x::xs,p,j,b,o,h,i,v,hv=>by
  simp only[wD,zR]at h hv;rw[K4]at hv;split at hv
  ·exact zNx x (j::p) b o h.1 i v hv
  ·rename_i hge
   have gc:=wA (G:=G) (s:=s) x (j::p) (fun ys e=>by subst e;simp only[Loc]at h;exact h.1);have:=zAk xs p (j+1) b (o+x.size) h.2 _ v hv
   rwa [show o+x.size+(i-(vals G s x (j::p)).length)=o+i from by omega]at this
theorem wA{G:Gh}{s:Nat}:(t:T)→ ∀(p:List Nat),(∀xs,t≠.tup xs)→(vals G s t p).length=t.size
 |.agg xs,p,_=>by simp only[vals,T.size];exact xJ xs p 0
 |.any,_,_|.lit _,_,_|.ro _,_,_|.same _ _,_,_|.addr _ _,_,_|.sub _ _ _ _ _,_,_|.sl _ _,_,_|.ptr _,_,_|.tup _,_,_=>by simp[vals,T.size]
theorem xJ{G:Gh}{s:Nat}:(xs:List T)→ ∀(p:List Nat)(j:Nat),(zR G s xs p j).length=T.sizes xs
 | [],_,_=>by simp[zR,T.sizes]
 |x::xs,p,j=>by
  simp only[zR,Jb,T.sizes,xJ xs p (j+1)]
  by_cases hx:∃ys,x=.tup ys
  ·obtain⟨ys,rfl⟩:=hx;simp[vals,T.size]
  ·rw[wA x (j::p) (fun ys e=>hx ⟨ys,e⟩)]
end
theorem zEq{P:Program}{G:Gh}{w:World}{s:Nat}{t:T}{p:List Nat}{b o':Nat}{T':TypeId}{ds:TypeDesc}{ti:TypeInfo}(hT:P.underlying T'=aB ds)(hi:P.info? T'=aB ti)(hl:Loc G w s t p b o')
  (ez:zDG ds= !t.single)(gx:ti.size=t.size):(loadVar T' ⟨b,o',aC⟩).run P w=.ok (uW G s t p) w:=by
 cases t with
 |agg xs=>
  have h1:=run_loadCells_list (P:=P) (w:=w) ⟨b,o',aC⟩ (zR G s xs p 0) (fun j v hv=>by rw[wZ];simp only[Loc]at hl;exact zAk xs p 0 b o' hl.2 j v hv)
  rw[xJ]at h1;simp only[T.size]at gx;simp[T.single]at ez;simp[loadVar,qJ hT,ez,sizeOf,typeInfo,hi,gx,h1,uW]
 |tup xs=>simp only[Loc]at hl
 |_=>
  have h1:=(xW rfl hl).2.2;simp[T.single]at ez;simp only[zV]at h1;simp[loadVar,qJ hT,ez,load,Sem.run,h1,uW]
def zB0(Γ:Ctx)(E:Env)(x:Operand)(r:Nat)(q:List Nat):Prop:=∀(a:Act)(w:World)(G:Gh),Rep Γ E G a.tmps w→a.eval x=.pointer (aB (G.ad r q))
theorem zB0.addr{x:Operand}{r:Nat}{q:List Nat}(hx:opT E x=aB (.addr r q)):zB0 Γ E x r q:=fun a w G ga=>by
 cases x with
 |tmp s=>
  obtain⟨h1,h2,_⟩:=ga.ent s _ hx;simp only[R]at h2;rw[xD h1];exact h2
 |const v=>simp only[opT]at hx;split at hx<;>simp at hx
 |func f=>simp[opT]at hx
 |global g=>simp[opT]at hx
theorem zB0.ptr{x:Operand}{r:Nat}{q:List Nat}{t:T}(hx:uL E x=aB (r,q,.ptr t)):zB0 Γ E x r (0::q):=fun a w G ga=>by obtain⟨g1,g2⟩:=sH ga hx rfl;simp only[R]at g1;obtain⟨b,cs,e,g4,_,_,_,g5,_⟩:=g1;rw[g2,g4,zCJ g5]
theorem zIb(x:Operand)(T':TypeId)(ds:TypeDesc)(ti:TypeInfo)(r:Nat)(q:List Nat)(t u:T)(ho:o.op=.load T' x)(gb:o.dst=aB d)(hd:d<Γ.N)
  (hT:P.underlying T'=aB ds)(hi:P.info? T'=aB ti)(ez:zDG ds= !u.single)(gx:ti.size=u.size)
  (hx:zB0 Γ E x r q)(hr:E r=aB t)(hg:t.get q.reverse=aB u)(hl:t.locd q.reverse=aD)(gJ:r≠d)(gE:T.okB [(d,0)] (cpT r u q)=aD):
  xF P Γ o E (E.app [(d,aB (cpT r u q))] [(d,0)]):=by
 refine xF.value gb fun a w G ga=>?_
 have pE:=hx a w G ga;obtain⟨_,h4,_⟩:=ga.ent r _ hr;obtain⟨h5,h6⟩:=zBA q.reverse t u [] h4 hg;obtain⟨b,o',cs,e,h6,_,_⟩:=h6 hl;simp only[rp,Kk,Jf]at h5 h6;have gU:∀xs,u≠.tup xs:=by rintro xs rfl;simp only[Loc]at h6
 have h7:=zCJ h6;have hz:∀z,(G.put d (fun z=>G.hd r (z++q))).hd d (z++[])=G.hd r (z++q):=fun z=>by rw[Gh.put_self,Jf]
 have hk:=G.put_keep (w:=w) (w':=w) rfl d (fun z=>G.hd r (z++q));refine⟨uW G r u q,w,?_,_,wK ga rfl hd (fun z=>G.hd r (z++q)) (fun z=>ga.mem.one _ _) _ _ (zAq u q [] gU hz).symm
  (zCH (fun p=>G.put_other _ p gJ) u q [] hz gU (hk.keepR (zA7 _ (sC r u q) gE)) h5) (sC r u q)⟩
 have h8:=zEq (T':=T') hT hi h6 ez gx;simp[execOp,ho,pE,h7,Instr.loadAt,uR,h8]
theorem zQv(x:Operand)(T':TypeId)(ds:TypeDesc)(ti:TypeInfo)(r:Nat)(q:List Nat)(t u:T)(ho:o.op=.load T' x)(gb:o.dst=aB d)(hd:d<Γ.N)
  (hT:P.underlying T'=aB ds)(hi:P.info? T'=aB ti)(ez:zDG ds= !u.single)(gx:ti.size=u.size)
  (hx:opT E x=aB (.addr r q))(hr:E r=aB t)(hg:t.get q.reverse=aB u)(hl:t.locd q.reverse=aD)(gJ:r≠d)(gE:T.okB [(d,0)] (cpT r u q)=aD):
  xF P Γ o E (E.app [(d,aB (cpT r u q))] [(d,0)]):=zIb x T' ds ti r q t u ho gb hd hT hi ez gx (zB0.addr hx) hr hg hl gJ gE
def roT:T→T
 |.lit v=>.lit v
 |.agg xs=>.agg (roTs xs)
 |.ro t=>.ro (.ro t)
 |.any=>.any
 |.same r q=>.ro (.same r q)
 |.addr r q=>.ro (.addr r q)
 |.sub r q k lo hi=>.ro (.sub r q k lo hi)
 |.sl k xs=>.ro (.sl k xs)
 |.ptr t=>.ro (.ptr t)
 |.tup xs=>.ro (.tup xs)
where roTs:List T→List T
 | []=>[]
 |x::xs=>roT x::roTs xs
end
end Go.Ab

namespace Go.Ab
open Go
def qK(v:Value):Value:=if v.oneCell' then v else .bool aE
theorem zAP(v:Value):(qK v).oneCell'=aD:=by
 unfold qK;split
 ·assumption
 ·rfl
theorem zAd{v:Value}(h:v.oneCell'=aD):qK v=v:=by simp[qK,h]
def zCK:T→Array Value→Nat→List Nat→Value
 |.agg xs,cs,o,i::f=>match xs[i]? with
  |some x=>zCK x cs (o+T.sizes (xs.take i)) f
  |none=>.bool aE
 |_,cs,o,_=>cs.getD o (.bool aE)
termination_by structural _ _ _ f=>f
theorem zA9{t:T}(h:t.single=aD)(cs:Array Value)(o:Nat)(f:List Nat):zCK t cs o f=cs.getD o (.bool aE):=by cases t<;>simp[T.single]at h<;>cases f<;>rfl
mutual
theorem zDj:(u:T)→(∀xs,u≠.tup xs)→(roT u).size=u.size
 |.agg xs,_=>by simp only[roT,T.size];exact zDH xs
 |.lit _,_|.any,_|.sl _ _,_|.ptr _,_|.ro _,_|.same _ _,_|.addr _ _,_|.sub _ _ _ _ _,_|.tup _,_=>by simp[roT,T.size]
theorem zDH:(xs:List T)→T.sizes (roT.roTs xs)=T.sizes xs
 | []=>by simp only[roT.roTs]
 |x::xs=>by
  simp only[roT.roTs,T.sizes,zDH xs]
  by_cases hx:∃ys,x=.tup ys
  ·obtain⟨ys,rfl⟩:=hx;simp[roT,T.size]
  ·rw[zDj x (fun ys e=>hx ⟨ys,e⟩)]
end
section
variable {St:Stb}{G:Gh}{w:World}{d:Nat}
theorem zEZ{u:T}{cs:Array Value}{o:Nat}(hu:u.single=aD)(h:RoC St u cs o):∃v,cs[o]? =aB v∧v.oneCell'=aD∧RoC St u #[v] 0:=by
 cases u<;>simp[T.single]at hu<;>simp only[RoC]at h ⊢
 ·obtain⟨v,h1,h2⟩:=h;exact⟨v,h1,h2,v,by simp,h2⟩
 ·exact⟨_,h.1,h.2,by simp,h.2⟩
 ·obtain⟨f,vs,h1,h2⟩:=h;exact⟨_,h1,rfl,f,vs,by simp,h2⟩
 ·obtain⟨a,c,h1,h2⟩:=h;exact⟨_,h1,rfl,a,c,by simp,h2⟩
 ·obtain⟨b,o',cs',e,fr,h1,h2⟩:=h;exact⟨_,h1,rfl,b,o',cs',e,fr,by simp,h2⟩
mutual
theorem zNy:(u:T)→ ∀(cs:Array Value)(o:Nat)(p:List Nat),(∀z,G.hd d (z++p)=qK (zCK u cs o z.reverse))→RoC St u cs o→R St G w d (roT u) p
 |.agg xs,cs,o,p,hd,h=>by
  simp only[roT,R,RoC]at h ⊢
  exact zNz xs cs o p 0 o (by simp) (fun z j x hx=>by have:=hd (z++[j]);simp only[Je,Hn,Js,Uk,Gk,Hq,zCK]at this;rw[J7,this];simp[hx]) h
 |.lit v,cs,o,p,hd,h=>by
  simp only[roT,R,RoC]at h ⊢
  have:=hd [];rw[Js,zA9 rfl]at this;rw[this];simp[K0,h.1,zAd h.2]
 |.any,_,_,_,_,_=>by simp only[roT,R]
 |.ro _,cs,o,p,hd,h|.sl _ _,cs,o,p,hd,h|.ptr _,cs,o,p,hd,h=>by obtain⟨v,h1,h2,h3⟩:=zEZ rfl h;have:=hd [];rw[Js,zA9 rfl]at this;simp only[roT,R];rw[this];simpa[K0,h1,zAd h2]using h3
 |.same _ _,_,_,_,_,h|.addr _ _,_,_,_,_,h|.sub _ _ _ _ _,_,_,_,_,h|.tup _,_,_,_,_,h=>by simp only[RoC]at h
theorem zNz:(xs:List T)→ ∀(cs:Array Value)(o0:Nat)(p:List Nat)(j o:Nat),o0≤o→(∀z i x,xs[i]? =aB x→G.hd d (z++((j+i)::p))=qK (zCK x cs (o+T.sizes (xs.take i)) z.reverse))→RoF St xs cs o→RF St G w d (roT.roTs xs) p j
 | [],_,_,_,_,_,_,_,_=>by simp only[roT.roTs,RF]
 |x::xs,cs,o0,p,j,o,ho,hd,h=>by
  simp only[roT.roTs,RF,RoF]at h ⊢
  refine⟨zNy x cs o (j::p) (fun z=>by simpa[T.sizes]using hd z 0 x (by simp)) h.1,zNz xs cs o0 p (j+1) (o+x.size) (by omega) (fun z i y hy=>?_) h.2⟩;have:=hd z (i+1) y (by simpa using hy);simp only[K6,T.sizes]at this;rw[show j+1+i=j+(i+1)from by omega,show o+x.size+T.sizes (xs.take i)=o+(x.size+T.sizes (xs.take i))from Lf ..];exact this
end
mutual
theorem zFa:(u:T)→ ∀(cs:Array Value)(o:Nat)(p:List Nat),(∀z,G.hd d (z++p)=qK (zCK u cs o z.reverse))→RoC St u cs o→ ∀(i:Nat)(v:Value),(vals G d (roT u) p)[i]? =aB v→cs[o+i]? =aB v
 |.agg xs,cs,o,p,hd,h,i,v,hv=>by
  simp only[roT,vals,RoC]at h hv;exact zG3 xs cs p 0 o (fun z j x hx=>by have:=hd (z++[j]);simp only[Je,Hn,Js,Uk,Gk,Hq,zCK]at this;rw[J7,this];simp[hx]) h i v hv
 |.lit _,cs,o,p,hd,h,i,v,hv|.ro _,cs,o,p,hd,h,i,v,hv|.any,cs,o,p,hd,h,i,v,hv|.sl _ _,cs,o,p,hd,h,i,v,hv|.ptr _,cs,o,p,hd,h,i,v,hv=>by
  obtain⟨v',h1,h2,h3⟩:=zEZ rfl h;have:=hd [];rw[Js,zA9 rfl]at this;simp only[roT,vals]at hv;cases i with
  |zero=>
   simp at hv;rw[←hv,this];simp[K0,h1,zAd h2]
  |succ i=>simp at hv
 |.same _ _,_,_,_,_,h,_,_,_|.addr _ _,_,_,_,_,h,_,_,_|.sub _ _ _ _ _,_,_,_,_,h,_,_,_|.tup _,_,_,_,_,h,_,_,_=>by simp only[RoC]at h
theorem zG3:(xs:List T)→ ∀(cs:Array Value)(p:List Nat)(j o:Nat),(∀z i x,xs[i]? =aB x→G.hd d (z++((j+i)::p))=qK (zCK x cs (o+T.sizes (xs.take i)) z.reverse))→RoF St xs cs o→ ∀(i:Nat)(v:Value),(zR G d (roT.roTs xs) p j)[i]? =aB v→cs[o+i]? =aB v
 | [],_,_,_,_,_,_,i,v,hv=>by simp[roT.roTs,zR]at hv
 |x::xs,cs,p,j,o,hd,h,i,v,hv=>by
  simp only[roT.roTs,zR,RoF]at h hv;have hx:∀z,G.hd d (z++(j::p))=qK (zCK x cs o z.reverse):=fun z=>by simpa[T.sizes]using hd z 0 x (by simp)
  have gc:(vals G d (roT x) (j::p)).length=x.size:=by have hs:(roT x).size=x.size:=zDj x (fun ys e=>by subst e;simp only[RoC]at h;exact h.1);rw[wA (roT x) (j::p) (fun ys e=>by cases x<;>simp[roT]at e),hs]
  rw[K4]at hv;split at hv
  ·exact zFa x cs o (j::p) hx h.1 i v hv
  ·have:=zG3 xs cs p (j+1) (o+x.size) (fun z i y hy=>by
    have:=hd z (i+1) y (by simpa using hy);simp only[K6,T.sizes]at this;rw[show j+1+i=j+(i+1)from by omega,show o+x.size+T.sizes (xs.take i)=o+(x.size+T.sizes (xs.take i))from Lf ..];exact this) h.2 _ v hv
   rwa [gc,show o+x.size+(i-x.size)=o+i from by omega]at this
end
mutual
theorem zKM:(u:T)→Top (roT u)
 |.agg xs=>by simp only[roT,Top];exact zIc xs
 |.lit _|.any|.sl _ _|.ptr _|.ro _|.same _ _|.addr _ _|.sub _ _ _ _ _|.tup _=>by simp[roT,Top]
theorem zIc:(xs:List T)→vE (roT.roTs xs)
 | []=>by simp only[roT.roTs,vE]
 |x::xs=>by simp only[roT.roTs,vE];exact⟨zKM x,zIc xs⟩
end
end
section
variable {P:Program}{Γ:Ctx}{E:Env}{o:Oper}{d:Nat}
theorem zKN{G:Gh}{w:World}(hm:Mem Γ G w){b:Nat}{cs:Array Value}{e:TypeId}{fr:Nat×Nat}(h:Γ.St b=aB (.cells cs e fr))(i:Nat):w.cell? ⟨b,i,aC⟩=cs[i]?:=by simp[World.cell?,hm.st b _ h]
theorem zJ7(x:Operand)(T':TypeId)(ds:TypeDesc)(ti:TypeInfo)(u:T)(ho:o.op=.load T' x)(gb:o.dst=aB d)(hd:d<Γ.N)
  (hT:P.underlying T'=aB ds)(hi:P.info? T'=aB ti)(ez:zDG ds= !u.single)(gx:ti.size=u.size)
  (hx:opT E x=aB (.ro (.ptr u))):xF P Γ o E (E.app [(d,aB (roT u))] [(d,0)]):=by
 refine xF.value gb fun a w G ga=>?_
 have h1:=zJ6 ga hx;simp only[RoC]at h1;obtain⟨b,o',cs',e,fr,h2,h3,h4⟩:=h1;have eW:a.eval x=.pointer (aB ⟨b,o',aC⟩):=by simpa using h2
 have gU:∀xs,u≠.tup xs:=by rintro xs rfl;simp only[RoC]at h4
 let f:List Nat→Value:=fun z=>qK (zCK u cs' o' z.reverse)
 have hz:∀z,(G.put d f).hd d (z++[])=qK (zCK u cs' o' z.reverse):=fun z=>by rw[Gh.put_self,Jf]
 refine⟨mkV (G.put d f) d (roT u) [],w,?_,_,wK ga rfl hd f (fun z=>zAP _) _ _ rfl (zNy u cs' o' [] hz h4) (zKM u)⟩;cases u with
 |agg xs=>
  have h5:∀j v,(zR (G.put d f) d (roT.roTs xs) [] 0)[j]? =aB v→w.cell? ((⟨b,o',aC⟩:Addr).add j)=aB v:=by intro j v hv;rw[wZ,zKN ga.mem h3];exact zFa (.agg xs) cs' o' [] hz h4 j v (by simpa only[roT,vals]using hv)
  have h6:=run_loadCells_list (P:=P) (w:=w) ⟨b,o',aC⟩ _ h5;rw[xJ,zDH]at h6;simp only[T.size]at gx;simp[T.single]at ez;simp[execOp,ho,eW,Instr.loadAt,uR,loadVar,qJ hT,ez,sizeOf,typeInfo,hi,gx,h6,mkV,roT]
 |tup xs=>exact absurd rfl (gU xs)
 |_=>
  obtain⟨v,h5,h6,h7⟩:=zEZ rfl h4;have h8:w.cell? ⟨b,o',aC⟩=aB v:=by rw[zKN ga.mem h3];exact h5
  simp[T.single]at ez;have h9:f []=v:=by show qK (zCK _ cs' o' _)=v;rw[zA9 rfl];simp[K0,h5,zAd h6]
  simp[execOp,ho,eW,Instr.loadAt,uR,loadVar,qJ hT,ez,load,Sem.run,h8,mkV,roT,Gh.put_self,h9]
def zEr(E:Env)(x:Operand):Bool:=
 match opT E x with
 |some (.addr _ _)|some (.ro (.ptr _))=>aD
 |_=>match uL E x with
  |some (_,_,.ptr _)=>aD
  |some (_,_,.ro (.ptr _))=>aD
  |_=>aE
theorem zN0{G:Gh}{a:Act}{w:World}(ga:Rep Γ E G a.tmps w){x:Operand}(h:zEr E x=aD):∃ad,a.eval x=.pointer (aB ad):=by
 unfold zEr at h;split at h
 ·rename_i r q hx
  cases x with
  |tmp s=>
   obtain⟨h1,h2,_⟩:=ga.ent s _ hx;simp only[R]at h2;exact⟨_,by rw[xD h1,yR rfl,h2]⟩
  |const v=>simp only[opT]at hx;split at hx<;>simp at hx
  |func f=>simp[opT]at hx
  |global g=>simp[opT]at hx
 ·rename_i u hx
  have:=zJ6 ga hx;simp only[RoC]at this;obtain⟨b,o',_,_,_,h1,_⟩:=this;exact⟨_,by simpa using h1⟩
 ·split at h
  ·rename_i hl
   obtain⟨h1,h2⟩:=sH ga hl rfl;simp only[R]at h1;obtain⟨b,cs,e,h3,_⟩:=h1;exact⟨_,by rw[h2,h3]⟩
  ·rename_i hl
   obtain⟨h1,h2⟩:=sH ga hl rfl;simp only[R,RoC]at h1;obtain⟨b,o',_,_,_,h3,_⟩:=h1;exact⟨_,by rw[h2];simpa using h3⟩
  ·cases h
theorem zTf(x:Operand)(t:T)(ho:o.op=.nilCheck x)(gb:o.dst=aB d)(hd:d<Γ.N)(hx:opT E x=aB t)(hp:zEr E x=aD)(ht:∀xs,t≠.tup xs)
  (gf:∀s,x=.tmp s→s≠d)(gE:T.okB [(d,0)] (vV x t)=aD):xF P Γ o E (E.app [(d,aB (vV x t))] [(d,0)]):=by
 refine xF.value gb fun a w G ga=>?_
 obtain⟨f,hf,h1,h2⟩:=opd ga hx ht;obtain⟨h3,h4⟩:=h1 d gf gE;obtain⟨ad,h5⟩:=zN0 ga hp;refine⟨a.eval x,w,?_,_,wK ga rfl hd f hf _ _ h3 h4 h2⟩;simp[execOp,ho,h5]
theorem zId{G:Gh}{s:Nat}:(xs:List T)→ ∀(p:List Nat)(j i:Nat)(x:T),xs[i]? =aB x→(kD G s xs p j)[i]? =aB (uW G s x ((j+i)::p))
 | [],_,_,_,_,h=>by simp at h
 |y::ys,p,j,i,x,h=>by
  cases i with
  |zero=>simp at h;subst h;simp[kD]
  |succ i=>
   have:=zId (G:=G) (s:=s) ys p (j+1) i x (by simpa using h);rw[show j+(i+1)=j+1+i from by omega];simpa[kD]using this
theorem zJ8(s i:Nat)(ts:List T)(t:T)(ho:o.op=.extract (.tmp s) i)(gb:o.dst=aB d)(hd:d<Γ.N)(hs:E s=aB (.tup ts))(hi:ts[i]? =aB t)(ht:∀xs,t≠.tup xs)
  (gf:s≠d)(gE:T.okB [(d,0)] (cpT s t [i])=aD):xF P Γ o E (E.app [(d,aB (cpT s t [i]))] [(d,0)]):=by
 refine xF.value gb fun a w G ga=>?_
 obtain⟨h1,h2,_⟩:=ga.ent s _ hs;simp only[R]at h2;have h3:=zAG ts [] 0 i t h2 hi;simp only[J7]at h3;have h4:=zId (G:=G) (s:=s) ts [] 0 i t hi;simp only[J7]at h4;have hk:=G.put_keep (w:=w) (w':=w) rfl d (fun z=>G.hd s (z++[i]));have hz:∀z,(G.put d (fun z=>G.hd s (z++[i]))).hd d (z++[])=G.hd s (z++[i]):=fun z=>by rw[Gh.put_self,Jf]
 refine⟨uW G s t [i],w,?_,_,wK ga rfl hd (fun z=>G.hd s (z++[i])) (fun z=>ga.mem.one _ _) _ _ (zAq t [i] [] ht hz).symm
  (zCH (fun p=>G.put_other _ p gf) t [i] [] hz ht (hk.keepR (zA7 _ (sC s t [i]) gE)) h3) (sC s t [i])⟩
 simp[execOp,ho,xD h1,mkV,Instr.extract,h4]
def kG(E:Env)(x:Option Operand)(dflt n:Nat):Prop:=
 match x with
 |none=>n=dflt
 |some y=> ∃kd,opT E y=aB (.lit (.int kd n))
theorem zFb{St:Stb}:(xs:List T)→ ∀(cs:Array Value)(o k l:Nat),RoL St xs cs o k→RoL St (xs.drop l) cs (o+l*k) k
 | [],_,_,_,_,_=>by simp[RoL]
 |x::xs,cs,o,k,l,h=>by
  cases l with
  |zero=>simpa using h
  |succ l=>
   simp only[RoL]at h;have:=zFb xs cs (o+k) k l h.2
   rwa [List.drop_succ_cons,show o+(l+1)*k=o+k+l*k from by rw[Lt];omega]
theorem zFc{St:Stb}:(xs:List T)→ ∀(cs:Array Value)(o k l:Nat),RoL St xs cs o k→RoL St (xs.take l) cs o k
 | [],_,_,_,_,_=>by simp[RoL]
 |x::xs,cs,o,k,l,h=>by
  cases l with
  |zero=>simp[RoL]
  |succ l=>simp only[RoL,K6]at h ⊢;exact⟨h.1,zFc xs cs _ k l h.2⟩
theorem sO{P:Program}{G:Gh}{a:Act}{w:World}(ga:Rep Γ E G a.tmps w){x:Operand}{kd:IntKind}{n y:Nat}{c:BoundsCode}(hx:opT E x=aB (.lit (.int kd n)))(h:n≤y):
  (Instr.sliceBound (a.eval x) y c).run P w=.ok n w:=by
 rw[(yL ga hx).1];have:(n:Int)≤(y:Int):=by omega
 simp[Instr.sliceBound,asIntOf,this]
theorem zFd{P:Program}{G:Gh}{a:Act}{w:World}(ga:Rep Γ E G a.tmps w){lo hi:Option Operand}{l h n c:Nat}(gX:kG E lo 0 l)(ec:kG E hi n h)(h1:l≤h)(h2:h≤c):
  (Instr.sliceBounds aD n c (lo.map a.eval) (hi.map a.eval) aC).run P w=.ok (l,h,c) w:=by
 cases lo with
 |none=>
  cases hi with
  |none=>simp only[kG]at gX ec;subst gX;subst ec;simp[Instr.sliceBounds]
  |some y=>simp only[kG]at gX ec;obtain⟨kd,hy⟩:=ec;subst gX;simp[Instr.sliceBounds,sO ga hy h2]
 |some x=>
  obtain⟨kd,hx⟩:=gX;cases hi with
  |none=>simp only[kG]at ec;subst ec;simp[Instr.sliceBounds,sO ga hx h1]
  |some y=>obtain⟨kd',hy⟩:=ec;simp[Instr.sliceBounds,sO ga hy h2,sO ga hx h1]
theorem zIe(x:Operand)(lo hi:Option Operand)(t e:TypeId)(ti:TypeInfo)(r:Nat)(q:List Nat)(k:Nat)(xs:List T)(l h:Nat)(ho:o.op=.slice t x lo hi aC)(gb:o.dst=aB d)(hd:d<Γ.N)
  (ht:P.underlying t=aB (.slice e))(he:P.info? e=aB ti)(hk:ti.size=k)(hx:uL E x=aB (r,q,.ro (.sl k xs)))(gX:kG E lo 0 l)(ec:kG E hi xs.length h)(h1:l≤h)(h2:h≤xs.length):
  xF P Γ o E (E.app [(d,aB (.ro (.sl k ((xs.drop l).take (h-l)))))] [(d,0)]):=by
 refine xF.value gb fun a w G ga=>?_
 obtain⟨g1,g2⟩:=sH ga hx rfl;obtain⟨a',c,g4,g5,g6,g7⟩:=zCe g1;have g8:=zFd (P:=P) ga gX ec h1 (H0 h2 g5);have gc:((xs.drop l).take (h-l)).length=h-l:=by simp;omega
 refine⟨.slice (if c=l then a' else a'.map (·.add (l*k))) (h-l) (c-l),w,?_,_,wK ga rfl hd (fun _=>.slice (if c=l then a' else a'.map (·.add (l*k))) (h-l) (c-l)) (fun _=>rfl) _ _ (by simp[mkV,Gh.put]) ?_ (by simp[Top])⟩
 ·simp only[execOp,ho,Q5]
  simp[Instr.sliceAt,Instr.slice,run_underlying ht,g2,g4,g8,sizeOf,typeInfo,he,hk]
 ·simp only[R,Gh.put_self,RoC]
  refine⟨_,_,by rw[gc];rfl,by omega,by omega,?_⟩;intro gf;have pf:xs≠[]:=by rintro rfl;simp at gf
  obtain⟨b,o',cs',e',fr,rfl,h3,h4⟩:=g7 pf;have gC:c≠l:=by rintro rfl;apply gf;apply Jr;omega
  exact⟨b,o'+l*k,cs',e',fr,by simp[gC,wZ],h3,zFc _ _ _ _ _ (zFb _ _ _ _ _ h4)⟩
theorem zHk(x:Operand)(lo hi:Option Operand)(t e:TypeId)(ti:TypeInfo)(r:Nat)(q:List Nat)(k:Nat)(xs:List T)(l h:Nat)(ho:o.op=.slice t x lo hi aC)(gb:o.dst=aB d)(hd:d<Γ.N)
  (ht:P.underlying t=aB (.slice e))(he:P.info? e=aB ti)(hk:ti.size=k)(hx:uL E x=aB (r,q,.sl k xs))(gX:kG E lo 0 l)(ec:kG E hi xs.length h)(h1:l≤h)(h2:h≤xs.length)(gJ:r≠d):
  xF P Γ o E (E.app [(d,aB (.sub r q k l h))] [(d,0)]):=by
 refine xF.value gb fun a w G ga=>?_
 obtain⟨g1,g2⟩:=sH ga hx rfl;obtain⟨a',c,g4⟩:=zHj g1;have g5:xs.length≤c:=by
  simp only[R]at g1;rcases g1 with⟨rfl,_⟩|⟨b,o0,cap,cs,e,g,_,g',_⟩
  ·simp
  ·rw[g4]at g;simp at g;omega
 have g8:=zFd (P:=P) ga gX ec h1 (H0 h2 g5);refine⟨zAN (G.hd r q) k l h,w,?_,_,wK ga rfl hd (fun _=>zAN (G.hd r q) k l h) (fun _=>by rw[g4];rfl) _ _ (by simp[mkV,Gh.put]) ?_ (by simp[Top])⟩
 ·simp only[execOp,ho,Q5]
  simp[Instr.sliceAt,Instr.slice,run_underlying ht,g2,g4,g8,sizeOf,typeInfo,he,hk,zAN]
 ·simp only[R,Gh.put_self]
  rw[Gh.put_other _ _ _ gJ]
end
end Go.Ab

namespace Go.Ab
open Go
def T.inT:T→List Nat→Bool
 |_,[]=>aD
 |.agg xs,i::f=>match xs[i]? with
  |some x=>x.inT f
  |none=>aE
 |.any,_::_|.lit _,_::_|.ro _,_::_|.same _ _,_::_|.addr _ _,_::_|.sub _ _ _ _ _,_::_|.sl _ _,_::_|.ptr _,_::_|.tup _,_::_=>aE
termination_by structural _ f=>f
def T.offT:T→List Nat→Nat
 |_,[]=>0
 |.agg xs,i::f=>match xs[i]? with
  |some x=>T.sizes (xs.take i)+x.offT f
  |none=>0
 |.any,_::_|.lit _,_::_|.ro _,_::_|.same _ _,_::_|.addr _ _,_::_|.sub _ _ _ _ _,_::_|.sl _ _,_::_|.ptr _,_::_|.tup _,_::_=>0
termination_by structural _ f=>f
theorem zFe{t:T}(h:t.single=aD){f:List Nat}(hf:f≠[]):t.inT f=aE:=by
 cases f with
 |nil=>grind
 |cons i f=>cases t<;>simp[T.single]at h<;>rfl
mutual
def zN1:T→List Nat→Nat→Option (List Nat)
 |.agg xs,p,o=>zBC xs p 0 o
 |.any,p,o|.lit _,p,o|.ro _,p,o|.same _ _,p,o|.addr _ _,p,o|.sub _ _ _ _ _,p,o|.sl _ _,p,o|.ptr _,p,o|.tup _,p,o=>if o=0 then aB p else aC
def zBC:List T→List Nat→Nat→Nat→Option (List Nat)
 | [],_,_,_=>aC
 |x::xs,p,j,o=>if o<x.size then zN1 x (j::p) o else zBC xs p (j+1) (o-x.size)
end
mutual
def T.okTup:T→Bool
 |.tup _=>aE
 |.agg xs=>zW xs
 |.any|.lit _|.ro _|.same _ _|.addr _ _|.sub _ _ _ _ _|.sl _ _|.ptr _=>aD
def zW:List T→Bool
 | []=>aD
 |x::xs=>x.okTup&&zW xs
end
theorem zCL:(xs:List T)→ ∀(p:List Nat)(j o:Nat),T.sizes xs≤o→zBC xs p j o=aC
 | [],_,_,_,_=>by rfl
 |x::xs,p,j,o,h=>by simp only[T.sizes]at h;simp only[zBC];rw[if_neg (by omega)];exact zCL xs p (j+1) _ (by omega)
section
variable {G:Gh}{w:World}{d:Nat}
mutual
theorem zTg:(x:T)→ ∀(p:List Nat)(B o:Nat),(∀xs,x≠.tup xs)→x.okTup=aD→
  (∀f,x.inT f=aD→G.ad d (f.reverse++p)=⟨B,o+x.offT f,aC⟩)→(∀j p',j<x.size→zN1 x p j=aB p'→G.lb B (o+j)=aB (aE,d,p'))→
  (∀j v,(vals G d x p)[j]? =aB v→zV w B (o+j)=aB v)→Loc G w d x p B o
 |.agg xs,p,B,o,_,hn,ha,hl,hc=>by
  simp only[Loc];refine⟨by simpa[T.offT]using ha [] rfl,zEJ xs p 0 B o (by grind[T.okTup]) (fun i x hx f hf=>?_) (fun j p' hj hp=>?_) (by grind[vals])⟩
  ·have:=ha (i::f) (by grind[T.inT])
   grind[T.offT]
  grind[T.size,zN1]
 |.any,p,B,o,_,_,ha,hl,hc|.lit _,p,B,o,_,_,ha,hl,hc|.ro _,p,B,o,_,_,ha,hl,hc|.same _ _,p,B,o,_,_,ha,hl,hc|.addr _ _,p,B,o,_,_,ha,hl,hc|.sub _ _ _ _ _,p,B,o,_,_,ha,hl,hc|.sl _ _,p,B,o,_,_,ha,hl,hc|.ptr _,p,B,o,_,_,ha,hl,hc=>by simp only[Loc];exact⟨by simpa[T.offT]using ha [] rfl,by simpa using hl 0 p (by simp[T.size]) (by rfl),by simpa using hc 0 (G.hd d p) (by simp[vals])⟩
 |.tup xs,_,_,_,h,_,_,_,_=>absurd rfl (h xs)
theorem zEJ:(xs:List T)→ ∀(p:List Nat)(j B o:Nat),zW xs=aD→
  (∀i x,xs[i]? =aB x→ ∀f,x.inT f=aD→G.ad d (f.reverse++((j+i)::p))=⟨B,o+(T.sizes (xs.take i)+x.offT f),aC⟩)→
  (∀i p',i<T.sizes xs→zBC xs p j i=aB p'→G.lb B (o+i)=aB (aE,d,p'))→
  (∀i v,(zR G d xs p j)[i]? =aB v→zV w B (o+i)=aB v)→wD G w d xs p j B o
 | [],_,_,_,_,_,_,_,_=>by simp only[wD]
 |x::xs,p,j,B,o,hn,ha,hl,hc=>by
  simp only[zW,J3]at hn;have gU:∀ys,x≠.tup ys:=by rintro ys rfl;grind[T.okTup]
  simp only[wD];refine⟨zTg x (j::p) B o gU hn.1 (fun f hf=>by simpa[T.sizes]using ha 0 x (by simp) f hf) (fun i p' hi hp=>hl i p' (by grind[T.sizes]) (by simp only[zBC,hi,if_true];exact hp)) (fun i v hv=>hc i v ?_),
   zEJ xs p (j+1) B (o+x.size) hn.2 (fun i y hy f hf=>?_) (fun i p' hi hp=>?_) (fun i v hv=>?_)⟩
  ·grind[zR]
  ·have:=ha (i+1) y (by grind) f hf
   grind[T.sizes]
  ·have:=hl (x.size+i) p' (by grind[T.sizes]) (by simp only[zBC];grind)
   grind
  ·have:=hc (x.size+i) v (by
    grind[zR,wA])
   grind
end
end
structure MvC (G:Gh) (w:World) (G':Gh) (w':World) (s:Nat) (p:List Nat) (s':Nat) (p':List Nat) (t:T):Prop where
 hd:∀z,G'.hd s' (z++p')=G.hd s (z++p)
 ad:∀z,t.inT z.reverse=aE→G'.ad s' (z++p')=G.ad s (z++p)
 lb:∀b o f z,(f=aD∨t.inT z.reverse=aE)→G.lb b o=aB (f,s,z++p)→G'.lb b o=aB (f,s',z++p')∧zV w' b o=zV w b o
 ow:∀b z,G.ow b=aB (s,z++p)→G'.ow b=aB (s',z++p')
 blk:Blk w w'
section
variable {St:Stb}{G:Gh}{w:World}{G':Gh}{w':World}{s:Nat}{s':Nat}
theorem MvC.moves{p p':List Nat}{t:T}(h:MvC G w G' w' s p s' p' t)(ht:t.single=aD):zG0 G w G' w' s p s' p' where
 hd:=h.hd
 ad z hz:=h.ad z (zFe ht (by simp_all))
 lb b o f z hz _ hl:=h.lb b o f z (.inr (zFe ht (by simp_all))) hl
 ow b z _ hl:=h.ow b z hl
 blk:=h.blk
 sp b o _ hl:=by simpa using h.lb b o aD [] (.inl rfl) (by grind)
 ow0 b hl:=by simpa using h.ow b [] (by grind)
theorem MvC.field{p p':List Nat}{xs:List T}(h:MvC G w G' w' s p s' p' (.agg xs)){j:Nat}{x:T}(hx:xs[j]? =aB x):MvC G w G' w' s (j::p) s' (j::p') x where
 hd z:=by have:=h.hd (z++[j]);grind
 ad z hz:=by
  have:=h.ad (z++[j]) (by grind[T.inT])
  grind
 lb b o f z hf hl:=by
  have:=h.lb b o f (z++[j]) (by grind[T.inT]) (by grind)
  grind
 ow b z hl:=by
  have:=h.ow b (z++[j]) (by grind)
  grind
 blk:=h.blk
mutual
theorem zIf:(t:T)→ ∀(p p':List Nat),t.okTup=aD→MvC G w G' w' s p s' p' t→yF (kY G G') t→R St G w s t p→R St G' w' s' t p'
 |.agg xs,p,p',hn,h,hk,hr=>by
  simp only[R,yF,T.okTup]at hr hk hn ⊢
  exact zN2 xs p p' 0 hn (fun j x hx=>by rw[J7];exact h.field hx) hk hr
 |.any,p,p',_,h,hk,hr|.lit _,p,p',_,h,hk,hr|.ro _,p,p',_,h,hk,hr|.same _ _,p,p',_,h,hk,hr|.addr _ _,p,p',_,h,hk,hr|.sub _ _ _ _ _,p,p',_,h,hk,hr|.sl _ _,p,p',_,h,hk,hr|.ptr _,p,p',_,h,hk,hr=>
  zAc (h.moves rfl) _ hk hr
 |.tup _,_,_,hn,_,_,_=>by grind[T.okTup]
theorem zN2:(xs:List T)→ ∀(p p':List Nat)(j:Nat),zW xs=aD→(∀i x,xs[i]? =aB x→MvC G w G' w' s ((j+i)::p) s' ((j+i)::p') x)→yP (kY G G') xs→RF St G w s xs p j→RF St G' w' s' xs p' j
 | [],_,_,_,_,_,_,_=>by simp only[RF]
 |x::xs,p,p',j,hn,h,hk,hr=>by
  simp only[RF,yP,zW,J3]at hr hk hn ⊢
  exact⟨zIf x (j::p) (j::p') hn.1 (by simpa using h 0 x (by simp)) hk.1 hr.1,zN2 xs p p' (j+1) hn.2 (fun i y hy=>by
   have:=h (i+1) y (by grind)
   grind) hk.2 hr.2⟩
end
end
theorem zKO{St:Stb}{G:Gh}{w:World}{s:Nat}:(xs:List T)→ ∀(p:List Nat)(j:Nat),(∀i x,xs[i]? =aB x→R St G w s x ((j+i)::p))→RF St G w s xs p j
 | [],_,_,_=>by simp only[RF]
 |x::xs,p,j,h=>by
  simp only[RF];exact⟨by simpa using h 0 x (by simp),zKO xs p (j+1) (fun i y hy=>by
   have:=h (i+1) y (by grind)
   grind)⟩
theorem zN3{St:Stb}{G:Gh}{w:World}{s:Nat}{k:Nat}:(xs:List T)→ ∀(p:List Nat)(j b o:Nat),(∀x∈xs,x.size=k)→wD G w s xs p j b o→RF St G w s xs p j→RL St G w s xs p j b o k
 | [],_,_,_,_,_,_,_=>by simp only[RL]
 |x::xs,p,j,b,o,hk,hl,hr=>by
  simp only[RL,wD,RF]at hl hr ⊢
  have h1:=hk x (by simp);exact⟨⟨hl.1,h1⟩,hr.1,zN3 xs p (j+1) b (o+k) (by grind) (by grind) hr.2⟩
theorem xP{k:Nat}:(xs:List T)→(∀x∈xs,x.size=k)→T.sizes xs=xs.length*k
 | [],_=>by simp[T.sizes]
 |x::xs,h=>by simp[T.sizes,xP xs (fun y hy=>h y (by simp[hy])),h x (by simp),Lt];omega
def Gh.nb(G:Gh)(d B:Nat)(xs:List T)(src:Nat→Option (Nat×List Nat))(φ:Nat→List Nat→Option (List Nat))(f:Nat→List Nat→Value)(gS:Value):Gh where
 hd s z:=if s=d then(match z.getLast? with
  |some i=>f i z.dropLast
  |none=>gS)else G.hd s z
 ad s z:=if s=d then(if(T.agg xs).inT z.reverse then⟨B,(T.agg xs).offT z.reverse,aC⟩else match z.getLast? with
  |some i=>(match src i with
   |some (x,q)=>G.ad x (z.dropLast++q)
   |none=>default)
  |none=>default)else G.ad s z
 lb b o:=if b=B then aB (match zBC xs [] 0 o with
  |some p=>(aE,d,p)
  |none=>(aD,d,[]))else match G.lb b o with
  |some (fl,s,z)=>(match φ s z with
   |some z'=>aB (fl,d,z')
   |none=>aB (fl,s,z))
  |none=>aC
 ow b:=if b=B then aB (d,[])else match G.ow b with
  |some (s,z)=>(match φ s z with
   |some z'=>aB (d,z')
   |none=>aB (s,z))
  |none=>aC
theorem zCf{Γ:Ctx}{G:Gh}{w w':World}(hm:Mem Γ G w){cells:Array Value}{e:TypeId}(hw:w'.heap=w.heap.push (.cells cells e))(d:Nat)(xs:List T)
  (src:Nat→Option (Nat×List Nat))(φ:Nat→List Nat→Option (List Nat))(f:Nat→List Nat→Value)(gS:Value)(chg:Chg)
  (gE:zW xs=aD)(hf:∀(i:Nat)(z:List Nat),(f i z).oneCell'=aD)(hh:gS.oneCell'=aD)
  (hφ:∀(i:Nat) u x q(z:List Nat),xs[i]? =aB u→src i=aB (x,q)→φ x (z++q)=aB (z++[i]))
  (bH:∀(i:Nat) u x q,xs[i]? =aB u→src i=aB (x,q)→(∀z,f i z=G.hd x (z++q))∧R Γ.St G w x u q∧zQ u∧x≠d)
  (mD:∀(i:Nat) u,xs[i]? =aB u→src i=aC→ ∀(G2:Gh)(w2:World),(∀z,G2.hd d (z++[i])=f i z)→R Γ.St G2 w2 d u [i])
  (eQ:∀(G2:Gh),(∀i z,G2.hd d (z++[i])=f i z)→ ∀(o:Nat)(v:Value),(zR G2 d xs [] 0)[o]? =aB v→cells[o]? =aB v)
  (mT:∀s p,(∀n,(s,n)∉(d,0)::chg)→φ s p=aC)(ho:w'.os=w.os:=by rfl)(hq:w'.output=w.output:=by rfl):
  kE ((d,0)::chg) G w (G.nb d w.heap.size xs src φ f gS) w'∧Mem Γ (G.nb d w.heap.size xs src φ f gS) w'∧
  wD (G.nb d w.heap.size xs src φ f gS) w' d xs [] 0 w.heap.size 0∧RF Γ.St (G.nb d w.heap.size xs src φ f gS) w' d xs [] 0∧
  w'.heap[w.heap.size]? =aB (.cells cells e):=by
 have hH:w'.heap[w.heap.size]? =aB (.cells cells e):=by grind
 have gy:∀b,b<w.heap.size→w'.heap[b]? =w.heap[b]?:=fun b hb=>by rw[hw,Array.getElem?_push];grind
 have gx:w'.heap.size=w.heap.size+1:=by grind
 have ev:∀b o,b<w.heap.size→zV w' b o=zV w b o:=fun b o hb=>by simp[zV,World.cell?,gy b hb]
 have gD:Blk w w':=fun b cs e' h=>⟨cs,by rw[gy b (by grind)];exact h,rfl⟩
 have gk:=hm.one
 generalize gj:G.nb d w.heap.size xs src φ f gS=G'
 have ghd:∀i z,G'.hd d (z++[i])=f i z:=fun i z=>by rw[←gj];simp[Gh.nb]
 have gad:∀g,(T.agg xs).inT g=aD→G'.ad d g.reverse=⟨w.heap.size,(T.agg xs).offT g,aC⟩:=fun g hg=>by rw[←gj];simp[Gh.nb,hg]
 have gadm:∀i x q z,src i=aB (x,q)→(T.agg xs).inT (i::z.reverse)=aE→G'.ad d (z++[i])=G.ad x (z++q):=fun i x q z hs gF=>by rw[←gj];simp[Gh.nb,gF,hs]
 have glb:∀o p,zBC xs [] 0 o=aB p→G'.lb w.heap.size o=aB (aE,d,p):=fun o p h=>by rw[←gj];simp[Gh.nb,h]
 have glbm:∀b o fl x z z',G.lb b o=aB (fl,x,z)→φ x z=aB z'→G'.lb b o=aB (fl,d,z'):=fun b o fl x z z' h1 h2=>by have:=(hm.lb b o _ h1).1;rw[←gj];simp[Gh.nb,h1,h2,show b≠w.heap.size from by omega]
 have gowm:∀b x z z',G.ow b=aB (x,z)→φ x z=aB z'→G'.ow b=aB (d,z'):=fun b x z z' h1 h2=>by have:=(hm.ow b _ h1).1;rw[←gj];simp[Gh.nb,h1,h2,show b≠w.heap.size from by omega]
 have gf:∀s p,Off ((d,0)::chg) s p→s≠d:=fun s p h e=>absurd (h 0 (by simp[e])) (by simp)
 have gn:kE ((d,0)::chg) G w G' w':=by
  refine⟨fun s p h=>?_,fun s p h=>?_,fun b o fl s p _ hl h=>⟨?_,ev b o (hm.lb b o _ hl).1⟩,fun b s p hl h=>?_,gD⟩
  ·rw[←gj];simp[Gh.nb,gf s p h]
  ·rw[←gj];simp[Gh.nb,gf s p h]
  ·have:=(hm.lb b o _ hl).1
   rw[←gj];simp[Gh.nb,hl,mT s p h,show b≠w.heap.size from by omega]
  ·have:=(hm.ow b _ hl).1
   rw[←gj];simp[Gh.nb,hl,mT s p h,show b≠w.heap.size from by omega]
 refine⟨gn,?_,?_,?_,hH⟩
 ·
  have hB:zBB Γ w' w.heap.size:=⟨by omega,.inl hm.sz,by
   cases gG:Γ.St w.heap.size with
   |none=>rfl
   |some x=>have:=hm.st _ x gG;simp at this⟩
  have eZ:∀b,zBB Γ w b→zBB Γ w' b:=fun b h=>⟨by have:=h.1;omega,h.2⟩
  refine⟨fun s p=>?_,fun b o l hl=>?_,fun b l hl=>?_,fun b x hx=>?_,fun b h1 h2=>?_,by have:=hm.sz;omega,hm.bk.trans gD ho hq⟩
  ·rw[←gj]
   simp only[Gh.nb];split
   ·split
    ·exact hf _ _
    ·exact hh
   ·exact gk s p
  ·rw[←gj]at hl
   simp only[Gh.nb]at hl;split at hl
   ·grind
   ·split at hl
    ·rename_i hg;exact eZ b (hm.lb b o _ hg)
    ·cases hl
  ·rw[←gj]at hl
   simp only[Gh.nb]at hl;split at hl
   ·grind
   ·split at hl
    ·rename_i hg;exact eZ b (hm.ow b _ hg)
    ·cases hl
  ·have:=hm.st b x hx
   rw[gy b (Hb.1 this).1];exact this
  ·rw[gy b (Uv h1 hm.sz)]
   exact hm.fr b h1 h2
 ·
  refine zEJ xs [] 0 w.heap.size 0 gE (fun i x hx g hg=>?_) (fun i p' _ hp=>by simpa using glb i p' hp) (fun i v hv=>?_)
  ·have:=gad (i::g) (by simp only[T.inT,hx];exact hg)
   simpa[T.offT,hx]using this
  ·have:=eQ G' ghd i v hv
   rw[J7];simp[zV,World.cell?,hH,this]
 ·
  refine zKO xs [] 0 (fun i u hu=>?_);rw[J7];cases hs:src i with
  |none=>exact mD i u hu hs G' w' (fun z=>ghd i z)
  |some xq=>
   obtain⟨x,q⟩:=xq;obtain⟨h1,h2,h3,h4⟩:=bH i u x q hu hs;have gF:∀g,(T.agg xs).inT (i::g)=u.inT g:=fun g=>by simp only[T.inT,hu]
   refine zIf u q [i] (okTups_get xs gE i u hu) ⟨fun z=>by rw[ghd,h1],fun z hz=>gadm i x q z hs (by rw[gF];exact hz),fun b o fl z hz hl=>⟨glbm b o fl x _ _ hl (hφ i u x q z hu hs),ev b o (hm.lb b o _ hl).1⟩,
    fun b z hl=>gowm b x _ _ hl (hφ i u x q z hu hs),gD⟩ (yF.mono (by simp) u h3) h2
where okTups_get:(xs:List T)→zW xs=aD→ ∀(i:Nat)(x:T),xs[i]? =aB x→x.okTup=aD
 | [],_,_,_,h=>by simp at h
 |y::ys,hk,i,x,h=>by
  simp only[zW,J3]at hk;cases i with
  |zero=>grind
  |succ i=>exact okTups_get ys hk.2 i x (by grind)
end Go.Ab

namespace Go.Ab
open Go
inductive zY where
 |slot (s:Nat) (t:T)
 |zero (u:T)
def zY.tree:zY→T
 |.slot _ t=>t
 |.zero u=>u
def tN:T→Bool
 |.lit _|.ro _=>aE
 |_=>aD
mutual
def T.zOk:T→Bool
 |.lit v=>v.oneCell'
 |.sl _ xs=>xs.isEmpty
 |.agg xs=>zAe xs
 |.any|.ro _|.same _ _|.addr _ _|.sub _ _ _ _ _|.ptr _|.tup _=>aE
def zAe:List T→Bool
 | []=>aD
 |x::xs=>x.zOk&&zAe xs
end
def zhd:T→List Nat→Value
 |.agg xs,i::f=>match xs[i]? with
  |some x=>zhd x f
  |none=>.bool aE
 |.lit v,_=>v
 |.sl _ _,_=>.slice aC 0 0
 |.agg _,[] |.any,_|.ro _,_|.same _ _,_|.addr _ _,_|.sub _ _ _ _ _,_|.ptr _,_|.tup _,_=>.bool aE
termination_by structural _ f=>f
mutual
def uV:T→List Value
 |.lit v=>[v]
 |.sl _ _=>[.slice aC 0 0]
 |.agg xs=>tO xs
 |.any|.ro _|.same _ _|.addr _ _|.sub _ _ _ _ _|.ptr _|.tup _=>[]
def tO:List T→List Value
 | []=>[]
 |x::xs=>uV x++tO xs
end
section
variable {St:Stb}{G:Gh}{w:World}{d:Nat}
mutual
theorem zHl:(u:T)→ ∀(p:List Nat),u.zOk=aD→(∀z,G.hd d (z++p)=qK (zhd u z.reverse))→R St G w d u p
 |.lit v,p,h,hd=>by
  simp only[T.zOk,R]at h ⊢
  have:=hd [];rw[Js]at this;rw[this];exact zAd h
 |.sl k xs,p,h,hd=>by simp only[T.zOk,Q3]at h;subst h;have:=hd [];rw[Js]at this;simp only[R];exact .inl ⟨trivial,aC,by rw[this];rfl⟩
 |.agg xs,p,h,hd=>by
  simp only[T.zOk,R]at h ⊢
  exact zKP xs p 0 h (fun i x hx z=>by
   rw[J7];have:=hd (z++[i])
   grind[zhd])
 |.any,_,h,_|.ro _,_,h,_|.same _ _,_,h,_|.addr _ _,_,h,_|.sub _ _ _ _ _,_,h,_|.ptr _,_,h,_|.tup _,_,h,_=>by grind[T.zOk]
theorem zKP:(xs:List T)→ ∀(p:List Nat)(j:Nat),zAe xs=aD→(∀i x,xs[i]? =aB x→ ∀z,G.hd d (z++((j+i)::p))=qK (zhd x z.reverse))→RF St G w d xs p j
 | [],_,_,_,_=>by simp only[RF]
 |x::xs,p,j,h,hd=>by
  simp only[zAe,J3,RF]at h ⊢
  exact⟨zHl x (j::p) h.1 (by simpa using hd 0 x (by simp)),zKP xs p (j+1) h.2 (fun i y hy z=>by
   have:=hd (i+1) y (by grind) z
   grind)⟩
end
end
section
variable {G:Gh}{d:Nat}
mutual
theorem zDI:(u:T)→ ∀(p:List Nat),u.zOk=aD→(∀z,G.hd d (z++p)=qK (zhd u z.reverse))→vals G d u p=uV u
 |.lit v,p,h,hd=>by
  simp only[T.zOk,vals,uV]at h ⊢
  have:=hd []
  grind[zhd,zAd]
 |.sl k xs,p,h,hd=>by
  have:=hd []
  grind[vals,uV,zhd,qK,Value.oneCell']
 |.agg xs,p,h,hd=>by
  simp only[T.zOk,vals,uV]at h ⊢
  exact zCM xs p 0 h (fun i x hx z=>by
   rw[J7];have:=hd (z++[i])
   grind[zhd])
 |.any,_,h,_|.ro _,_,h,_|.same _ _,_,h,_|.addr _ _,_,h,_|.sub _ _ _ _ _,_,h,_|.ptr _,_,h,_|.tup _,_,h,_=>by grind[T.zOk]
theorem zCM:(xs:List T)→ ∀(p:List Nat)(j:Nat),zAe xs=aD→(∀i x,xs[i]? =aB x→ ∀z,G.hd d (z++((j+i)::p))=qK (zhd x z.reverse))→zR G d xs p j=tO xs
 | [],_,_,_,_=>by rfl
 |x::xs,p,j,h,hd=>by
  simp only[zAe,J3,zR,tO]at h ⊢
  rw[zDI x (j::p) h.1 (by simpa using hd 0 x (by simp)),zCM xs p (j+1) h.2 (fun i y hy z=>by
   have:=hd (i+1) y (by grind) z
   grind)]
end
end
mutual
theorem zAQ:(u:T)→u.zOk=aD→zQ u∧u.okTup=aD
 |.lit _,_=>by simp[zQ,yF,T.okTup]
 |.sl _ xs,h=>by simp only[T.zOk,Q3]at h;subst h;simp[zQ,yF,yP,T.okTup]
 |.agg xs,h=>by simp only[T.zOk]at h;simpa only[zQ,yF,T.okTup]using zBg xs h
 |.any,h|.ro _,h|.same _ _,h|.addr _ _,h|.sub _ _ _ _ _,h|.ptr _,h|.tup _,h=>by grind[T.zOk]
theorem zBg:(xs:List T)→zAe xs=aD→yI xs∧zW xs=aD
 | [],_=>by simp[yI,yP,zW]
 |x::xs,h=>by simp only[zAe,J3]at h;simp only[yI,yP,zW,J3];exact⟨⟨(zAQ x h.1).1,(zBg xs h.2).1⟩,(zAQ x h.1).2,(zBg xs h.2).2⟩
end
mutual
theorem wF:(u:T)→u.zOk=aD→(uV u).length=u.size
 |.lit _,_|.sl _ _,_=>by rfl
 |.agg xs,h=>by simp only[T.zOk]at h;simp only[uV,T.size];exact zAH xs h
 |.any,h|.ro _,h|.same _ _,h|.addr _ _,h|.sub _ _ _ _ _,h|.ptr _,h|.tup _,h=>by grind[T.zOk]
theorem zAH:(xs:List T)→zAe xs=aD→(tO xs).length=T.sizes xs
 | [],_=>by rfl
 |x::xs,h=>by simp only[zAe,J3]at h;simp only[tO,Jb,T.sizes,wF x h.1,zAH xs h.2]
end
def zFf(ps:List zY)(i:Nat):Option (Nat×List Nat):=
 match ps[i]? with
 |some (.slot s t)=>if tN t then aB (s,[])else aC
 |_=>aC
def zGk:List zY→Nat→Nat→Option Nat
 | [],_,_=>aC
 |.slot x t::r,i,s=>if tN t&&x==s then aB i else zGk r (i+1) s
 |.zero _::r,i,s=>zGk r (i+1) s
def zGl(ps:List zY)(s:Nat)(z:List Nat):Option (List Nat):=
 match zGk ps 0 s with
 |some i=>aB (z++[i])
 |none=>aC
def pWr(d:Nat):List zY→Nat→Wr
 | [],_=>[]
 |.slot s t::r,i=>if tN t then(s,aB (cpT d t [i]))::pWr d r (i+1)else pWr d r (i+1)
 |.zero _::r,i=>pWr d r (i+1)
def yQ:List zY→List Nat
 | []=>[]
 |.slot s t::r=>if tN t then s::yQ r else yQ r
 |.zero _::r=>yQ r
def uX(ps:List zY):Chg:=(yQ ps).map fun s=>(s,1)
def tL(G:Gh):zY→List Value
 |.slot s t=>vals G s t []
 |.zero u=>uV u
def pHd(G:Gh)(ps:List zY)(i:Nat)(z:List Nat):Value:=
 match ps[i]? with
 |some (.slot s _)=>G.hd s z
 |some (.zero u)=>qK (zhd u z.reverse)
 |none=>.bool aE
structure uG (E:Env) (d:Nat) (ps:List zY):Prop where
 slot:∀s t,zY.slot s t∈ps→E s=aB t∧zQ t∧t.okTup=aD
 zero:∀u,zY.zero u∈ps→u.zOk=aD
 dist:(d::yQ ps).Nodup
theorem zAR:(ps:List zY)→ ∀(i0 i s:Nat)(t:T),ps[i]? =aB (.slot s t)→tN t=aD→(yQ ps).Nodup→zGk ps i0 s=aB (i0+i)
 | [],_,_,_,_,h,_,_=>by simp at h
 |.slot x u::r,i0,i,s,t,h,hm,hn=>by
  cases i with
  |zero=>simp at h;obtain⟨rfl,rfl⟩:=h;simp[zGk,hm]
  |succ i=>
   simp only[Q7]at h;have gF:s∈yQ r:=pSlots_mem r i s t h hm;simp only[zGk]
   by_cases hu:tN u=aD
   ·simp only[yQ,hu,if_true,Kf]at hn
    have:x≠s:=by grind
    simp only[hu,Qu,beq_iff_eq,this,if_false];rw[zAR r (i0+1) i s t h hm hn.2]
    grind
   ·simp only[yQ,hu]at hn
    simp only[hu,Qe,Ls,if_false];rw[zAR r (i0+1) i s t h hm (by grind)]
    grind
 |.zero u::r,i0,i,s,t,h,hm,hn=>by
  cases i with
  |zero=>simp at h
  |succ i=>
   simp only[Q7]at h;simp only[zGk];rw[zAR r (i0+1) i s t h hm (by grind[yQ])]
   grind
where pSlots_mem:(ps:List zY)→ ∀(i s:Nat)(t:T),ps[i]? =aB (.slot s t)→tN t=aD→s∈yQ ps
 | [],_,_,_,h,_=>by simp at h
 |.slot x u::r,i,s,t,h,hm=>by
  cases i with
  |zero=>simp at h;obtain⟨rfl,rfl⟩:=h;simp[yQ,hm]
  |succ i=>
   have:=pSlots_mem r i s t (by grind) hm
   grind[yQ]
 |.zero u::r,i,s,t,h,hm=>by
  cases i with
  |zero=>simp at h
  |succ i=>simpa only[yQ]using pSlots_mem r i s t (by grind) hm
theorem zCg:(ps:List zY)→ ∀(i0 s:Nat),s∉yQ ps→zGk ps i0 s=aC
 | [],_,_,_=>by rfl
 |.slot x u::r,i0,s,h=>by
  simp only[zGk]
  by_cases hu:tN u=aD
  ·simp only[yQ,hu,if_true,Jl,not_or]at h
   simp only[hu,Qu,beq_iff_eq,Ne.symm h.1,if_false];exact zCg r _ s h.2
  ·simp only[yQ,hu]at h
   simp only[hu,Qe,Ls,if_false];exact zCg r _ s (by grind)
 |.zero u::r,i0,s,h=>by simp only[zGk];exact zCg r _ s (by grind[yQ])
theorem zBD:(ps:List zY)→ ∀(d i0 s:Nat)(x:Option T),(pWr d ps i0).find s=aB x→ ∃i t,ps[i]? =aB (.slot s t)∧tN t=aD∧x=aB (cpT d t [i0+i])
 | [],_,_,_,_,h=>by grind[pWr,Wr.find]
 |.slot y u::r,d,i0,s,x,h=>by
  simp only[pWr]at h;split at h
  ·rename_i hu
   simp only[Wr.find]at h;split at h
   ·rename_i he;subst he;simp at h;exact⟨0,u,by simp,hu,by grind⟩
   ·obtain⟨i,t,h1,h2,h3⟩:=zBD r d (i0+1) s x h
    exact⟨i+1,t,by grind,h2,by grind⟩
  ·obtain⟨i,t,h1,h2,h3⟩:=zBD r d (i0+1) s x h
   exact⟨i+1,t,by grind,h2,by grind⟩
 |.zero u::r,d,i0,s,x,h=>by simp only[pWr]at h;obtain⟨i,t,h1,h2,h3⟩:=zBD r d (i0+1) s x h;exact⟨i+1,t,by grind,h2,by grind⟩
theorem zBE:(ps:List zY)→ ∀(d i0 s:Nat),(pWr d ps i0).find s=aC→s∉yQ ps
 | [],_,_,_,_=>by simp[yQ]
 |.slot y u::r,d,i0,s,h=>by
  simp only[pWr]at h;simp only[yQ];split at h
  ·rename_i hu
   simp only[Wr.find]at h;split at h
   ·cases h
   ·rename_i gf
    simp only[hu,if_true,Jl,not_or];exact⟨fun e=>gf e.symm,zBE r d _ s h⟩
  ·rename_i hu
   simp only[hu];simpa using zBE r d _ s h
 |.zero u::r,d,i0,s,h=>by simp only[pWr]at h;simpa only[yQ]using zBE r d _ s h
section
variable {Γ:Ctx}{E:Env}{G:Gh}{tmps:Array Value}{w:World}{d:Nat}{ps:List zY}
theorem zEs(ga:Rep Γ E G tmps w)(h:uG E d ps):
  zW (ps.map zY.tree)=aD∧yI (ps.map zY.tree)∧(∀i z,(pHd G ps i z).oneCell'=aD)∧
  (∀(i:Nat) u x q(z:List Nat),(ps.map zY.tree)[i]? =aB u→zFf ps i=aB (x,q)→zGl ps x (z++q)=aB (z++[i]))∧
  (∀(i:Nat) u x q,(ps.map zY.tree)[i]? =aB u→zFf ps i=aB (x,q)→(∀z,pHd G ps i z=G.hd x (z++q))∧R Γ.St G w x u q∧zQ u∧x≠d)∧
  (∀(i:Nat) u,(ps.map zY.tree)[i]? =aB u→zFf ps i=aC→ ∀(G2:Gh)(w2:World),(∀z,G2.hd d (z++[i])=pHd G ps i z)→R Γ.St G2 w2 d u [i])∧
  (∀s p,(∀n,(s,n)∉(d,0)::uX ps)→zGl ps s p=aC):=by
 have cE:=Kf.1 h.dist;refine⟨?_,?_,?_,?_,?_,?_,?_⟩
 ·have:∀qs:List zY,(∀p∈qs,p∈ps)→zW (qs.map zY.tree)=aD:=by
   intro qs
   induction qs with
   |nil=>intro _;rfl
   |cons q qs ih=>
    intro hq;simp only[Jg,zW,J3];refine⟨?_,by grind⟩;cases q with
    |slot s t=>exact(h.slot s t (hq _ (by simp))).2.2
    |zero u=>exact(zAQ u (h.zero u (hq _ (by simp)))).2
  grind
 ·have:∀qs:List zY,(∀p∈qs,p∈ps)→yI (qs.map zY.tree):=by
   intro qs
   induction qs with
   |nil=>intro _;trivial
   |cons q qs ih=>
    intro hq;simp only[Jg,yI,yP];refine⟨?_,by grind⟩;cases q with
    |slot s t=>exact(h.slot s t (hq _ (by simp))).2.1
    |zero u=>exact(zAQ u (h.zero u (hq _ (by simp)))).1
  grind
 ·intro i z
  unfold pHd;split
  ·exact ga.mem.one _ _
  ·exact zAP _
  ·rfl
 ·intro i u x q z hu hs
  rw[Jm]at hu;unfold zFf at hs;cases hp:ps[i]? with
  |none=>grind
  |some p=>
   cases p with
   |zero v=>grind
   |slot s t=>
    simp only[hp]at hs;split at hs
    ·rename_i hm
     simp at hs;obtain⟨rfl,rfl⟩:=hs;simp[zGl,zAR ps 0 i s t hp hm cE.2]
    ·cases hs
 ·intro i u x q hu hs
  rw[Jm]at hu;unfold zFf at hs;cases hp:ps[i]? with
  |none=>grind
  |some p=>
   cases p with
   |zero v=>grind
   |slot s t=>
    simp only[hp]at hs;split at hs
    ·rename_i hm
     simp at hs;obtain⟨rfl,rfl⟩:=hs;simp[hp,zY.tree]at hu;subst hu;obtain⟨h1,h2,h3⟩:=h.slot s t (by grind);refine⟨by grind[pHd],(ga.ent s t h1).2.1,h2,fun e=>cE.1 ?_⟩
     grind[zAR.pSlots_mem]
    ·cases hs
 ·intro i u hu hs G2 w2 eh
  rw[Jm]at hu;unfold zFf at hs;cases hp:ps[i]? with
  |none=>grind
  |some p=>
   cases p with
   |zero v=>
    simp[hp,zY.tree]at hu;subst hu;exact zHl v [i] (h.zero v (by grind)) (by grind[pHd])
   |slot s t=>
    simp only[hp]at hs;split at hs
    ·cases hs
    ·rename_i hm
     simp[hp,zY.tree]at hu;subst hu;have h1:=(ga.ent s t (h.slot s t (by grind)).1).2.1;have h2:G2.hd d [i]=G.hd s []:=by have:=eh [];grind[pHd]
     cases t<;>simp[tN]at hm<;>simp only[R]at h1 ⊢ <;>rw[h2]<;>exact h1
 ·intro s p gH
  have:s∉yQ ps:=fun gF=>gH 1 (by grind[uX])
  grind[zGl,zCg]
theorem zCN(ga:Rep Γ E G tmps w)(h:uG E d ps)(G2:Gh):∀(qs:List zY)(i0:Nat),(∀i q,qs[i]? =aB q→ps[i0+i]? =aB q)→(∀i z,G2.hd d (z++[i])=pHd G ps i z)→
  zR G2 d (qs.map zY.tree) [] i0=qs.flatMap (tL G)
 | [],_,_,_=>by rfl
 |q::qs,i0,hq,eh=>by
  have h0:ps[i0]? =aB q:=by simpa using hq 0 q (by simp)
  have ih:=zCN ga h G2 qs (i0+1) (fun i p hp=>by rw[show i0+1+i=i0+(i+1)from by omega];simp_all) eh;simp only[Jg,zR,L9,ih]
  congr 1
  cases q with
  |slot s t=>exact zA8 t [] [i0] (by grind[pHd])
  |zero u=>exact zDI u [i0] (h.zero u (by grind)) (by grind[pHd])
end
end Go.Ab

namespace Go.Ab
open Go
section
variable {P:Program}{Γ:Ctx}{E:Env}{o:Oper}{d:Nat}
theorem zG4{G G':Gh}{w':World}{s i:Nat}{t:T}{v:Option Value}(hv:v=aB (mkV G s t []))(gU:∀xs,t≠.tup xs)(hs:∀p,G'.hd s p=G.hd s p)(cG:∀z,G'.hd d (z++[i])=G.hd s z)
  (hr:R Γ.St G' w' d t [i]):Ent Γ G' w' v s (cpT d t [i]):=by
 have hz:∀z,G'.hd s (z++[])=G'.hd d (z++[i]):=fun z=>by rw[Jf,hs,cG]
 refine⟨?_,?_,sC d t [i]⟩
 ·rw[hv,zAq (G:=G') (G':=G') t [i] [] gU hz,kF G s t [] gU,zBf t [] [i] (fun z=>by rw[cG,Jf])]
 ·exact zCH (G:=G') (G':=G') (fun _=>rfl) t [i] [] hz gU (yF.triv (fun _ _=>⟨rfl,rfl⟩) _) hr
theorem zAS{G:Gh}{a:Act}{w w':World}{ps:List zY}(ga:Rep Γ E G a.tmps w)(h:uG E d ps)(hd:d<Γ.N){cells:Array Value}{e:TypeId}(hw:w'.heap=w.heap.push (.cells cells e))
  (eQ:∀(o:Nat)(v:Value),(ps.flatMap (tL G))[o]? =aB v→cells[o]? =aB v)
  (rt:T)(gS:Value)
  (eM:(∃k cap,rt=.sl k (ps.map zY.tree)∧(∀p∈ps,p.tree.size=k)∧gS=.slice (aB ⟨w.heap.size,0,aC⟩) ps.length cap∧ps.length≤cap∧cap≤maxLen∧cells.size=cap*k)∨
   ∃p,ps=[p]∧rt=.ptr p.tree∧gS=.pointer (aB ⟨w.heap.size,0,aC⟩)∧cells.size=p.tree.size)
  (ho:w'.os=w.os:=by rfl)(hq:w'.output=w.output:=by rfl):
  ∃G',Rep Γ (E.app ((d,aB rt)::pWr d ps 0) ((d,0)::uX ps)) G' (a.tmps.setIfInBounds d gS) w':=by
 obtain⟨f1,f0,f2,f3,f4,f5,f6⟩:=zEs ga h;have hh:gS.oneCell'=aD:=by rcases eM with⟨k,cap,_,_,rfl,_⟩|⟨p,_,_,rfl,_⟩<;>rfl
 have cE:=Kf.1 h.dist;obtain⟨g1,g2,g3,g4,g5⟩:=zCf ga.mem hw d (ps.map zY.tree) (zFf ps) (zGl ps) (pHd G ps) gS (uX ps) f1 f2 hh f3 f4 f5
  (fun G2 eh o v hv=>eQ o v (by rw[zCN ga h G2 ps 0 (fun i q hq=>by simpa using hq) eh]at hv;exact hv)) f6 (ho:=ho) (hq:=hq)
 refine⟨_,vK ga (by simp) g1 g2 ?_ ?_⟩
 ·intro s hs
  simp only[Wr.find]at hs;split at hs
  ·cases hs
  ·rename_i gf
   have hns:=zBE ps d 0 s hs;refine⟨fun n hn=>?_,by rw[J8];simp[gf]⟩;simp only[Jl,Uq.injEq,uX,Jd]at hn;rcases hn with⟨e1,_⟩|⟨y,hy,e1,_⟩
   ·exact gf e1.symm
   ·exact hns (e1▸hy)
 ·intro s t hs
  simp only[Wr.find]at hs;split at hs
  ·rename_i he
   subst he;simp at hs;subst hs;have fq:(G.nb d w.heap.size (ps.map zY.tree) (zFf ps) (zGl ps) (pHd G ps) gS).hd d []=gS:=by simp[Gh.nb]
   have how:(G.nb d w.heap.size (ps.map zY.tree) (zFf ps) (zGl ps) (pHd G ps) gS).ow w.heap.size=aB (d,[]):=by simp[Gh.nb]
   refine⟨?_,?_,?_⟩
   ·rw[J8]
    rcases eM with⟨k,cap,rfl,_⟩|⟨p,_,rfl,_⟩<;>simp[ga.size,hd,mkV,fq]
   ·rcases eM with⟨k,cap,rfl,hk,h1,h2,h3,h4⟩|⟨p,rfl,rfl,h1,h4⟩
    ·simp only[R]
     rw[fq];refine .inr ⟨w.heap.size,0,cap,cells,e,by simpa using h1,g5,by simpa using h2,h3,by omega,how,?_,zN3 _ _ _ _ _ (fun x hx=>?_) g3 g4⟩
     ·intro o ho _
      have gx:T.sizes (ps.map zY.tree)=(ps.map zY.tree).length*k:=xP _ (fun x hx=>by obtain⟨p,hp,rfl⟩:=Jd.1 hx;exact hk p hp)
      simp[Gh.nb,zCL (ps.map zY.tree) [] 0 o (by omega)]
     ·obtain⟨p,hp,rfl⟩:=Jd.1 hx
      exact hk p hp
    ·simp only[R]
     rw[fq];simp only[Jg,Gf,wD,RF]at g3 g4;exact⟨w.heap.size,cells,e,h1,g5,h4,how,g3.1,g4.1⟩
   ·rcases eM with⟨k,cap,rfl,_⟩|⟨p,rfl,rfl,_⟩
    ·simp only[Top];exact f0
    ·simp only[Top];exact f0.1
  ·rename_i gf
   obtain⟨i,u,h1,h2,h3⟩:=zBD ps d 0 s _ hs;simp only[J7]at h3;simp at h3;subst h3;obtain⟨h4,h5,h6⟩:=h.slot s u (Kx h1);have gU:∀xs,u≠.tup xs:=by rintro xs rfl;simp[T.okTup]at h6
   have hi:(ps.map zY.tree)[i]? =aB u:=by simp[h1,zY.tree]
   have hr:=zAG _ [] 0 i u g4 hi;simp only[J7]at hr;refine zG4 (G:=G) (by rw[J8];simp only[gf,if_false];exact(ga.ent s u h4).1) gU (fun p=>?_) (fun z=>?_) hr
   ·simp[Gh.nb,show s≠d from fun e=>gf e.symm]
   ·simp[Gh.nb,pHd,h1]
inductive kQ (E:Env):Operand→zY→Prop where
 |slot (s:Nat) (t:T):kQ E (.tmp s) (.slot s t)
 |zero (v:Value) (u:T) (h:uV u=v.cells.toList):kQ E (.const v) (.zero u)
theorem zAr{G:Gh}{a:Act}{w:World}{ps:List zY}(ga:Rep Γ E G a.tmps w)(h:uG E d ps){x:Operand}{p:zY}(hp:p∈ps)(hx:kQ E x p):
  (a.eval x).cells.toList=tL G p:=by
 cases hx with
 |slot s t=>
  obtain⟨h1,h2,h3⟩:=h.slot s t hp;obtain⟨h4,_,_⟩:=ga.ent s t h1;rw[xD h4];cases t with
  |agg xs=>simp[mkV,Value.cells,vals,tL]
  |tup xs=>simp[T.okTup]at h3
  |_=>
   have:=ga.mem.one s [];simp only[mkV,vals,tL]
   generalize G.hd s []=v at this
   cases v<;>simp[Value.oneCell',Value.cells]at this ⊢
 |zero v u h=>simp[Act.eval,h,tL]
def vA(E:Env):List Operand→List zY→Prop
 | [],[]=>True
 |x::xs,p::ps=>kQ E x p∧vA E xs ps
 |_,_=>False
theorem vA.length:(xs:List Operand)→(ps:List zY)→vA E xs ps→xs.length=ps.length
 | [],[],_=>rfl
 |_::xs,_::ps,h=>by simp[vA.length xs ps h.2]
 | [],_::_,h=>by simp[vA]at h
 |_::_,[],h=>by simp[vA]at h
theorem vA.mem:(xs:List Operand)→(ps:List zY)→vA E xs ps→ ∀x∈xs,∃p,p∈ps∧kQ E x p
 | [],_,_,x,hx=>by simp at hx
 |y::xs,p::ps,h,x,hx=>by
  rcases Jl.1 hx with rfl|hx
  ·exact⟨p,by simp,h.1⟩
  ·obtain⟨q,hq,hxq⟩:=vA.mem xs ps h.2 x hx;exact⟨q,by simp[hq],hxq⟩
 |_::_,[],h,_,_=>by simp[vA]at h
theorem zFg{G:Gh}{a:Act}{w:World}{ps:List zY}(ga:Rep Γ E G a.tmps w)(h:uG E d ps):∀(xs:List Operand)(qs:List zY),(∀q∈qs,q∈ps)→vA E xs qs→
  ((xs.map a.eval).flatMap fun v=>v.cells.toList)=qs.flatMap (tL G)
 | [],[],_,_=>rfl
 |x::xs,q::qs,hq,hx=>by simp only[Jg,L9,zAr ga h (hq q (by simp)) hx.1,zFg ga h xs qs (fun p hp=>hq p (by simp[hp])) hx.2]
 | [],_::_,_,hx=>by simp[vA]at hx
 |_::_,[],_,hx=>by simp[vA]at hx
theorem zN4(T':TypeId)(ti:TypeInfo)(z:Value)(u:T)(ho:o.op=.alloc T')(gb:o.dst=aB d)(hd:d<Γ.N)
  (hi:P.info? T'=aB ti)(hz:ti.zero=aB z)(hu:u.zOk=aD)(hv:uV u=z.cells.toList)(gx:z.cells.size=u.size):
  xF P Γ o E (E.app [(d,aB (.ptr u))] [(d,0)]):=by
 refine xF.value gb fun a w G ga=>?_
 have gL:uG E d [.zero u]:=⟨fun s t h=>by simp at h,fun v h=>by simp at h;subst h;exact hu,by simp[yQ]⟩;obtain⟨G',gj⟩:=zAS (w':=w.alloc (.cells z.cells T')) ga gL hd (cells:=z.cells) (e:=T') rfl (fun o v h=>by simpa[hv,tL]using h) (.ptr u) (.pointer (aB ⟨w.heap.size,0,aC⟩)) (.inr ⟨.zero u,rfl,rfl,rfl,gx⟩);refine⟨_,_,?_,G',by simpa[pWr,uX,yQ]using gj⟩;simp[execOp,ho,Instr.alloc,zeroValue,typeInfo,hi,hz,newVar,newRow]
theorem zTh(T':TypeId)(x:Operand)(p:zY)(ho:o.op=.box T' x)(gb:o.dst=aB d)(hd:d<Γ.N)(hx:kQ E x p)(gL:uG E d [p]):
  xF P Γ o E (E.app ((d,aB (.ptr p.tree))::pWr d [p] 0) ((d,0)::uX [p])):=by
 refine xF.value gb fun a w G ga=>?_
 have hc:=zAr ga gL (by simp) hx;have gx:(a.eval x).cells.size=p.tree.size:=by
  rw[←Jy,hc];cases p with
  |slot s t=>
   obtain⟨_,_,h3⟩:=gL.slot s t (by simp);show(vals G s t []).length=t.size;exact wA t [] (by rintro xs rfl;simp[T.okTup]at h3)
  |zero u=>exact wF u (gL.zero u (by simp))
 obtain⟨G',gj⟩:=zAS (w':=w.alloc (.cells (a.eval x).cells T')) ga gL hd (cells:=(a.eval x).cells) (e:=T') rfl (fun o v h=>by rw[←K5,hc];simpa using h) (.ptr p.tree) (.pointer (aB ⟨w.heap.size,0,aC⟩)) (.inr ⟨p,rfl,rfl,rfl,gx⟩)
 refine⟨_,_,?_,G',gj⟩;simp[execOp,ho,Instr.box,newVar,newRow]
theorem zGm(t e:TypeId)(ti:TypeInfo)(z:Value)(k n:Nat)(xs:List Operand)(ps:List zY)(ho:o.op=.buildSlice t n ((xs.zipIdx 0).map fun x=>(x.2,x.1)).toArray)(gb:o.dst=aB d)(hd:d<Γ.N)
  (ht:P.underlying t=aB (.slice e))(hi:P.info? e=aB ti)(hz:ti.zero=aB z)(hk:ti.size=k)(er:0<k)(hn:xs.length=n)(mF:0<n)(hsm:n*k≤2 ^ 24)
  (hx:vA E xs ps)(gL:uG E d ps)(gx:∀p∈ps,p.tree.size=k):
  xF P Γ o E (E.app ((d,aB (.sl k (ps.map zY.tree)))::pWr d ps 0) ((d,0)::uX ps)):=by
 refine xF.value gb fun a w G ga=>?_
 subst hk;have gc:xs.length=ps.length:=vA.length xs ps hx;have hc:=zFg ga gL xs ps (fun _ h=>h) hx;have ch:∀v∈xs.map a.eval,v.cells.size=ti.size:=by
  intro v hv;obtain⟨x,pL,rfl⟩:=Jd.1 hv;obtain⟨p,hp,hxp⟩:=vA.mem xs ps hx x pL;rw[←Jy,zAr ga gL hp hxp,←gx p hp];cases p with
  |slot s t=>
   obtain⟨_,_,h3⟩:=gL.slot s t hp;show(vals G s t []).length=t.size;exact wA t [] (by rintro xs rfl;simp[T.okTup]at h3)
  |zero u=>exact wF u (gL.zero u hp)
 have mO:=Great.fill_whole er (xs.map a.eval) ((Qj (n*ti.size)).map (z.cells[· %z.cells.size]!)) ch (by simp[hn]);have pc:((((xs.zipIdx 0).map fun x=>(x.2,x.1)).toArray).map fun(i,x)=>(i,a.eval x)).toList=((xs.map a.eval).zipIdx 0).map fun x=>(x.2,x.1):=by simp[List.zipIdx_map,Function.comp_def]
 have gp:=run_buildSlice (P:=P) w t e n _ _ ti z ht hi hz (by omega) (by have:=Nat.mul_pos mF er;omega) (by rw[pc];exact mO);have gI:((xs.map a.eval).flatMap fun v=>v.cells.toList).toArray.size=n*ti.size:=by rw[Uw,flat_len (k:=ti.size) _ (fun v hv=>by rw[Jy];exact ch v hv)];simp[hn]
 obtain⟨G',gj⟩:=zAS (w':=w.alloc (.cells ((xs.map a.eval).flatMap fun v=>v.cells.toList).toArray e)) ga gL hd rfl (fun o v h=>by rw[hc];simpa using h) (.sl ti.size (ps.map zY.tree)) (.slice (aB ⟨w.heap.size,0,aC⟩) n n) (.inl ⟨ti.size,n,rfl,gx,by rw[←gc,hn],by omega,by have:n≤n*ti.size:=Nat.le_mul_of_pos_right n er;simp only[maxLen];omega,gI⟩)
 refine⟨_,_,?_,G',gj⟩;simp only[execOp,ho,Sem.run_bind,gp,Result.andThen_ok];rfl
where
 flat_len {k:Nat} (vs:List Value) (h:∀v∈vs,v.cells.toList.length=k):(vs.flatMap fun v=>v.cells.toList).length=vs.length*k:=by
  induction vs with
  |nil=>simp
  |cons v vs ih=>simp[L9,ih (fun u hu=>h u (by simp[hu])),Lt];have:=h v (by simp);simp at this;omega
end
end Go.Ab

namespace Go.Ab
open Go
theorem zHm{α β:Type}(f:α→List β)(x:α)(k:Nat)(hk:(f x).length=k)(er:0<k):∀(n o:Nat)(v:β),((J1 n x).flatMap f)[o]? =aB v→o<n*k∧(f x)[o%k]? =aB v
 |0,o,v,h=>by simp at h
 |n+1,o,v,h=>by
  rw[Kv,L9,K4]at h;split at h
  ·grind[Nat.mod_eq_of_lt]
  ·rename_i hge
   rw[hk]at h hge;obtain⟨h1,h2⟩:=zHm f x k hk er n (o-k) v h
   grind[Nat.mod_eq_sub_mod]
section
variable {P:Program}{Γ:Ctx}{E:Env}{o:Oper}{d:Nat}
theorem zQw(t e:TypeId)(ti:TypeInfo)(z:Value)(u:T)(k:Nat)(x y:Operand)(n c:Nat)(kl kc:IntKind)(ho:o.op=.makeSlice t x y)(gb:o.dst=aB d)(hd:d<Γ.N)
  (ht:P.underlying t=aB (.slice e))(hi:P.info? e=aB ti)(hz:ti.zero=aB z)(hk:ti.size=k)(er:0<k)(hu:u.zOk=aD)(hv:uV u=z.cells.toList)(eJ:u.size=k)(hb:ti.bytes≤4096)
  (hx:opT E x=aB (.lit (.int kl n)))(hy:opT E y=aB (.lit (.int kc c)))(mE:n≤c)(hc:c≤68719476736):
  xF P Γ o E (E.app [(d,aB (.sl k (J1 n u)))] [(d,0)]):=by
 refine xF.value gb fun a w G ga=>?_
 have h1:=(yL ga hx).1;have h2:=(yL ga hy).1;subst hk;have gL:uG E d (J1 n (.zero u)):=⟨by simp,by grind,by
  have:∀m,yQ (J1 m (.zero u))=[]:=by intro m;induction m with|zero=>rfl|succ m ih=>grind[yQ]
  simp[this]⟩
 have hzs:z.cells.size=ti.size:=by grind[wF]
 have pB:(ti.bytes:Int)*(c:Int)≤281474976710656:=by have:ti.bytes*c≤4096*68719476736:=Gv hb hc;omega
 have gp:=run_make (P:=P) w t e ti z ht hi hz kl kc n c (by omega) (by omega) pB (by omega);simp only[Jj]at gp;obtain⟨G',gj⟩:=zAS (w':=w.alloc (.cells (madeCells z.cells (c*ti.size)) e)) ga gL hd rfl (fun i v h=>by
  obtain⟨h3,h4⟩:=zHm (tL G) (.zero u) ti.size (by grind[tL]) er n i v h
  grind[Uv,Ke,tL,madeCells]) (.sl ti.size (J1 n u)) (.slice (aB ⟨w.heap.size,0,aC⟩) n c)
  (.inl ⟨ti.size,c,by simp[zY.tree],fun p hp=>by simp at hp;obtain⟨_,rfl⟩:=hp;exact eJ,by simp,by grind,by grind[maxLen],by simp[madeCells]⟩)
 refine⟨.slice (aB ⟨w.heap.size,0,aC⟩) n c,w.alloc (.cells (madeCells z.cells (c*ti.size)) e),?_,G',?_⟩
 ·simp only[execOp,ho,h1,h2,Sem.run_bind,gp,Result.andThen_ok]
  rfl
 ·have h6:∀m i,pWr d (J1 m (.zero u)) i=[]:=by intro m;induction m with|zero=>intro i;rfl|succ m ih=>grind[pWr]
  have h7:uX (J1 n (.zero u))=[]:=by
   have:∀m,yQ (J1 m (.zero u))=[]:=by intro m;induction m with|zero=>rfl|succ m ih=>grind[yQ]
   grind[uX]
  grind
theorem zFh(t e:TypeId)(ti:TypeInfo)(k:Nat)(ho:o.op=.buildSlice t 0 #[])(gb:o.dst=aB d)(hd:d<Γ.N)
  (ht:P.underlying t=aB (.slice e))(hi:P.info? e=aB ti):xF P Γ o E (E.app [(d,aB (.sl k []))] [(d,0)]):=by
 refine xF.value gb fun a w G ga=>?_
 have gL:uG E d []:=⟨by simp,by simp,by simp[yQ]⟩;obtain⟨G',gj⟩:=zAS (w':=w.alloc (.cells #[] e)) ga gL hd (cells:=#[]) rfl (by simp) (.sl k []) (.slice (aB ⟨w.heap.size,0,aC⟩) 0 0)
  (by simp)
 refine⟨_,_,?_,G',gj⟩;have h0:(Qj 0:Array Nat)= #[]:=by rfl
 simp[execOp,ho,Instr.buildSlice,run_underlying ht,sizeOf,typeInfo,hi,Instr.fill,newRow,h0]
theorem zIg(k:Nat)(x:Operand)(ho:o.op=.move x∨o.op=.assign x)(hx:x=.const (.slice aC 0 0))(gb:o.dst=aB d)(hd:d<Γ.N):xF P Γ o E (E.app [(d,aB (.sl k []))] [(d,0)]):=by
 refine xF.value gb fun a w G ga=>?_
 refine⟨.slice aC 0 0,w,?_,_,wK ga rfl hd (fun _=>.slice aC 0 0) (fun _=>rfl) (.sl k []) (.slice aC 0 0) (by simp[mkV,Gh.put]) (by simp[R,Gh.put]) (by simp[Top,yI,yP])⟩;subst hx;rcases ho with ho|ho<;>simp[execOp,ho,Act.eval]
def Gh.nv(G:Gh)(d:Nat)(src:Nat→Option (Nat×List Nat))(φ:Nat→List Nat→Option (List Nat))(f:Nat→List Nat→Value):Gh where
 hd s z:=if s=d then(match z.getLast? with
  |some i=>f i z.dropLast
  |none=>.bool aE)else G.hd s z
 ad s z:=if s=d then(match z.getLast? with
  |some i=>(match src i with
   |some (x,q)=>G.ad x (z.dropLast++q)
   |none=>default)
  |none=>default)else G.ad s z
 lb b o:=match G.lb b o with
  |some (fl,s,z)=>(match φ s z with
   |some z'=>aB (fl,d,z')
   |none=>aB (fl,s,z))
  |none=>aC
 ow b:=match G.ow b with
  |some (s,z)=>(match φ s z with
   |some z'=>aB (d,z')
   |none=>aB (s,z))
  |none=>aC
theorem zQx{G:Gh}{a:Act}{w:World}{ps:List zY}(ga:Rep Γ E G a.tmps w)(h:uG E d ps)(hd:d<Γ.N):
  ∃G',Rep Γ (E.app ((d,aB (.agg (ps.map zY.tree)))::pWr d ps 0) ((d,0)::uX ps)) G' (a.tmps.setIfInBounds d (.agg (ps.flatMap (tL G)).toArray)) w:=by
 obtain⟨f1,f0,f2,f3,f4,f5,f6⟩:=zEs ga h;have hm:=ga.mem;have gD:Blk w w:=fun b cs e' h=>⟨cs,h,rfl⟩
 generalize gj:G.nv d (zFf ps) (zGl ps) (pHd G ps)=G'
 have ghd:∀i z,G'.hd d (z++[i])=pHd G ps i z:=by grind[Gh.nv]
 have ghd':∀s z,s≠d→G'.hd s z=G.hd s z:=by grind[Gh.nv]
 have glbm:∀b o fl x z z',G.lb b o=aB (fl,x,z)→zGl ps x z=aB z'→G'.lb b o=aB (fl,d,z'):=by grind[Gh.nv]
 have gowm:∀b x z z',G.ow b=aB (x,z)→zGl ps x z=aB z'→G'.ow b=aB (d,z'):=by grind[Gh.nv]
 have gf:∀s p,Off ((d,0)::uX ps) s p→s≠d:=fun s p h e=>absurd (h 0 (by simp[e])) (by simp)
 have gn:kE ((d,0)::uX ps) G w G' w:=by
  refine⟨by grind,fun s p h=>?_,fun b o fl s p _ hl h=>⟨?_,rfl⟩,fun b s p hl h=>?_,gD⟩
  ·grind[Gh.nv]
  all_goals grind[Gh.nv]
 have gw:Mem Γ G' w:=by
  refine⟨fun s p=>?_,fun b o l hl=>?_,fun b l hl=>?_,hm.st,hm.fr,hm.sz,hm.bk⟩
  ·rw[←gj]
   simp only[Gh.nv];split
   ·split
    ·grind
    ·rfl
   ·exact hm.one s p
  ·rw[←gj]at hl
   simp only[Gh.nv]at hl;split at hl
   ·rename_i hg;exact hm.lb b o _ hg
   ·cases hl
  ·rw[←gj]at hl
   simp only[Gh.nv]at hl;split at hl
   ·rename_i hg;exact hm.ow b _ hg
   ·cases hl
 have g4:RF Γ.St G' w d (ps.map zY.tree) [] 0:=by
  refine zKO _ [] 0 (fun i u hu=>?_);rw[J7];cases hs:zFf ps i with
  |none=>grind
  |some xq=>
   obtain⟨x,q⟩:=xq;obtain⟨h1,h2,h3,h4⟩:=f4 i u x q hu hs;refine zIf u q [i] (zCf.okTups_get _ f1 i u hu) ⟨by grind,by grind[Gh.nv],by grind,
    by grind,gD⟩ (by grind[yF.mono]) h2
 refine⟨G',vK ga (by simp) gn gw ?_ ?_⟩
 ·grind[Wr.find,zBE,uX]
 ·intro s t hs
  simp only[Wr.find]at hs;split at hs
  ·rename_i he
   subst he;simp at hs;subst hs;refine⟨?_,by simpa only[R]using g4,by simp only[Top];exact vE.of_clean _ f0⟩;rw[J8];simp only[ga.size,hd,mkV,if_true];rw[zCN ga h G' ps 0 (by simp) ghd]
  ·rename_i gf
   obtain⟨i,u,h1,h2,h3⟩:=zBD ps d 0 s _ hs;simp only[J7]at h3;simp at h3;subst h3;obtain⟨h4,h5,h6⟩:=h.slot s u (by grind);have gU:∀xs,u≠.tup xs:=by rintro xs rfl;grind[T.okTup]
   have hi:(ps.map zY.tree)[i]? =aB u:=by simp[h1,zY.tree]
   have hr:=zAG _ [] 0 i u g4 hi;simp only[J7]at hr;refine zG4 (G:=G) (by rw[J8];simp only[gf,if_false];exact(ga.ent s u h4).1) gU (by grind) (fun z=>?_) hr
   grind[pHd]
theorem zKQ(off:Nat):∀(vs:List Value)(i:Nat)(cs:Array Value)(k:Nat),off+i+vs.length≤cs.size→
  ((vs.zipIdx i).foldl (fun cs(x:Value×Nat)=>cs.setIfInBounds (off+x.2) x.1) cs)[k]? =if off+i≤k∧k<off+i+vs.length then vs[k-(off+i)]? else cs[k]?
 | [],i,cs,k,_=>by simp;omega
 |v::vs,i,cs,k,h=>by
  simp only[Jw]at h;simp only[List.zipIdx_cons,List.foldl_cons];rw[zKQ off vs (i+1) _ k (by simp;omega)]
  grind
theorem zFi{pv:zY→List Value}(place:Nat→Option (Nat×Nat)):∀(vs:List (Nat×Value))(qs:List (Nat×zY))(ps:List zY)(cs:Array Value),cs.toList=ps.flatMap pv→
  (∀i p,ps[i]? =aB p→place i=aB (((ps.take i).flatMap pv).length,(pv p).length))→
  vs.map (·.1)=qs.map (·.1)→(∀(j:Nat)(v:Nat×Value)(q:Nat×zY),vs[j]? =aB v→qs[j]? =aB q→v.2.cells.toList=pv q.2∧ ∃p,ps[q.1]? =aB p∧(pv p).length=(pv q.2).length)→
  ∃cs',Instr.fill place cs vs=aB cs'∧cs'.toList=(qs.foldl (fun ps q=>ps.set q.1 q.2) ps).flatMap pv
 | [],[],ps,cs,gK,_,_,_=>⟨cs,rfl,gK⟩
 | [],_::_,_,_,_,_,h,_=>by simp at h
 |_::_,[],_,_,_,_,h,_=>by simp at h
 |(i,v)::vs,(i',q)::qs,ps,cs,gK,eO,hi,hq=>by
  simp only[Jg,Q9.injEq]at hi;obtain⟨tx,hi⟩:=hi;subst tx;obtain⟨h1,p,h2,h3⟩:=hq 0 (i,v) (i,q) rfl rfl;dsimp only at h1 h2 h3;have bY:=eO i p h2;have gP:=(Jc.1 h2).1;have cW:ps=ps.take i++p::ps.drop (i+1):=by grind[Lh,G8]
  have gA:ps.set i q=ps.take i++q::ps.drop (i+1):=by grind
  have cP:v.cells.size=(pv p).length:=by grind
  have gC:cs.size=((ps.take i).flatMap pv).length+((pv p).length+((ps.drop (i+1)).flatMap pv).length):=by grind[Jy]
  have hH:(v.cells.zipIdx.foldl (fun cs(x:Value×Nat)=>cs.setIfInBounds (((ps.take i).flatMap pv).length+x.2) x.1) cs).toList=(ps.set i q).flatMap pv:=by
   rw[gA];simp only[Q8,L9,←h1];apply K8;intro k;rw[←Array.foldl_toList,K5,show v.cells.zipIdx.toList=v.cells.toList.zipIdx 0 from by simp,zKQ _ _ 0 cs k (by grind)];have ai:cs.toList=((ps.take i).flatMap pv)++(pv p++(ps.drop (i+1)).flatMap pv):=by grind
   have hvl2:v.cells.toList.length=(pv p).length:=by rw[h1,h3]
   rw[←K5,ai]
   grind
  have bZ:∀j p',(ps.set i q)[j]? =aB p'→place j=aB ((((ps.set i q).take j).flatMap pv).length,(pv p').length):=by
   intro j p' fc;have htk:(((ps.set i q).take j).flatMap pv).length=((ps.take j).flatMap pv).length:=by
    rw[gA]
    conv=>rhs;rw[cW]
    by_cases hj:j≤i
    ·grind
    ·rw[Q2,Q2]
     simp only[Q8,Jb]
     congr 1
     have:j-(ps.take i).length=(j-(ps.take i).length-1)+1:=by simp;omega
     grind
   grind
  have hq':∀(j:Nat)(x:Nat×Value)(y:Nat×zY),vs[j]? =aB x→qs[j]? =aB y→x.2.cells.toList=pv y.2∧ ∃p,(ps.set i q)[y.1]? =aB p∧(pv p).length=(pv y.2).length:=by
   intro j x y hx hy;obtain⟨h6,p',h7,h8⟩:=hq (j+1) x y (by grind) (by grind)
   grind
  obtain⟨cs',h4,h5⟩:=zFi place vs qs (ps.set i q) _ hH bZ hi hq'
  grind[Instr.fill]
theorem wS{t:TypeId}{it:TypeInfo}{fields:Array Field}{z:Value}{places:List (Nat×Nat)}(hi:P.info? t=aB it)(hu:P.underlying t=aB (.struct fields))(hz:it.zero=aB z)
  (hp:fields.toList.mapM (fun f=>(P.info? f.type).map fun i=>(f.offset,i.size))=aB places)(parts:List (Nat×Value)):P.built t parts=Instr.fill (places.toArray[·]?) z.cells parts:=by
 grind[Program.built]
theorem zIh{t e:TypeId}{n:Nat}{it ie:TypeInfo}{z:Value}(hi:P.info? t=aB it)(hu:P.underlying t=aB (.array n e))(hz:it.zero=aB z)
  (he:P.info? e=aB ie)(parts:List (Nat×Value)):P.built t parts=Instr.fill (fun i=>aB (i*ie.size,ie.size)) z.cells parts:=by
 grind[Program.built]
theorem zDJ{G:Gh}:(zs:List T)→(zs.map zY.zero).flatMap (tL G)=tO zs
 | []=>rfl
 |z::zs=>by simp[tL,tO,←zDJ (G:=G) zs]
theorem zN5(t:TypeId)(place:Nat→Option (Nat×Nat))(z:Value)(zs:List T)(pl:List (Nat×Operand))(qs:List (Nat×zY))(ps:List zY)(ho:o.op=.build t pl.toArray)(gb:o.dst=aB d)(hd:d<Γ.N)
  (hb:∀parts,P.built t parts=Instr.fill place z.cells parts)(hzv:tO zs=z.cells.toList)(hz:zAe zs=aD)(eO:∀i u,zs[i]? =aB u→place i=aB (T.sizes (zs.take i),u.size))
  (gL:qs.foldl (fun ps q=>ps.set q.1 q.2) (zs.map zY.zero)=ps)(gE:uG E d ps)(hix:pl.map (·.1)=qs.map (·.1))
  (hq:∀(j:Nat)(x:Nat×Operand)(q:Nat×zY),pl[j]? =aB x→qs[j]? =aB q→kQ E x.2 q.2∧q.2∈ps∧ ∃u,zs[q.1]? =aB u∧u.size=q.2.tree.size):
  xF P Γ o E (E.app ((d,aB (.agg (ps.map zY.tree)))::pWr d ps 0) ((d,0)::uX ps)):=by
 refine xF.value gb fun a w G ga=>?_
 obtain⟨G',gj⟩:=zQx ga gE hd;have gx:∀(us:List T),zAe us=aD→((us.map zY.zero).flatMap (tL G)).length=T.sizes us:=by grind[zDJ,zAH]
 obtain⟨cs',h1,h2⟩:=zFi (pv:=tL G) place (pl.map fun x=>(x.1,a.eval x.2)) qs (zs.map zY.zero) z.cells (by rw[zDJ,hzv]) (fun i p hp=>by
   rw[Jm]at hp;cases hu:zs[i]? with
   |none=>grind
   |some u=>
    simp[hu]at hp;subst hp;rw[eO i u hu,←G9,gx _ (zOks_take zs i hz),tL,wF u (zOks_get zs hz i u hu)])
  (by grind[Function.comp_def]) (fun j v q hv hqj=>by
   rw[Jm]at hv;cases hx:pl[j]? with
   |none=>grind
   |some x=>
    simp[hx]at hv;subst hv;obtain⟨h3,h4,u,h5,h6⟩:=hq j x q hx hqj;refine⟨zAr ga gE h4 h3,.zero u,by simp[h5],?_⟩;rw[tL,wF u (zOks_get zs hz _ u h5),h6];cases mw:q.2 with
    |slot s t=>
     rw[mw]at h4;obtain⟨_,_,h7⟩:=gE.slot s t h4;exact(wA t [] (by rintro xs rfl;grind[T.okTup])).symm
    |zero u'=>
     rw[mw]at h4;exact(wF u' (gE.zero u' h4)).symm)
 rw[gL]at h2;have h3:cs'=(ps.flatMap (tL G)).toArray:=by rw[←h2]
 refine⟨_,w,?_,G',gj⟩;have gp:=run_build (P:=P) w t (pl.map fun x=>(x.1,a.eval x.2)).toArray cs' (by grind);simp only[List.map_toArray,execOp,ho,Sem.run_bind]at gp ⊢
 simp_all
where
 zOks_get:(xs:List T)→zAe xs=aD→ ∀(i:Nat)(x:T),xs[i]? =aB x→x.zOk=aD
  | [],_,_,_,h=>by simp at h
  |y::ys,hk,i,x,h=>by
   simp only[zAe,J3]at hk;cases i with
   |zero=>grind
   |succ i=>exact zOks_get ys hk.2 i x (by grind)
 zOks_take:(xs:List T)→ ∀i,zAe xs=aD→zAe (xs.take i)=aD
  | [],i,_=>by simp[zAe]
  |y::ys,0,_=>by simp[zAe]
  |y::ys,i+1,hk=>by
   simp only[zAe,J3,K6]at hk ⊢
   exact⟨hk.1,zOks_take ys i hk.2⟩
end
end Go.Ab

namespace Go.Ab
open Go
mutual
def vR:T→T→Bool
 |.agg xs,.agg ys=>jT xs ys
 |.agg _,_=>aE
 |.tup _,_=>aE
 |_,.agg _=>aE
 |_,.tup _=>aE
 |.any,_|.lit _,_|.ro _,_|.same _ _,_|.addr _ _,_|.sub _ _ _ _ _,_|.sl _ _,_|.ptr _,_=>aD
def jT:List T→List T→Bool
 | [],[]=>aD
 |x::xs,y::ys=>vR x y&&jT xs ys
 | [],_::_=>aE
 |_::_,[]=>aE
end
mutual
theorem zBF:(x y:T)→vR x y=aD→x.size=y.size
 |.agg xs,.agg ys,h=>by simp only[vR]at h;simp only[T.size];exact zDk xs ys h
 |.agg _,.any,h|.agg _,.lit _,h|.agg _,.ro _,h|.agg _,.same _ _,h|.agg _,.addr _ _,h|.agg _,.sub _ _ _ _ _,h|.agg _,.sl _ _,h|.agg _,.ptr _,h|.agg _,.tup _,h=>by grind[vR]
 |.tup _,_,h=>by grind[vR]
 |.any,y,h|.lit _,y,h|.ro _,y,h|.same _ _,y,h|.addr _ _,y,h|.sub _ _ _ _ _,y,h|.sl _ _,y,h|.ptr _,y,h=>by cases y<;>simp[vR]at h<;>simp[T.size]
theorem zDk:(xs ys:List T)→jT xs ys=aD→T.sizes xs=T.sizes ys
 | [],[],_=>rfl
 |x::xs,y::ys,h=>by simp only[jT,J3]at h;simp only[T.sizes,zBF x y h.1,zDk xs ys h.2]
 | [],_::_,h=>by grind[jT]
 |_::_,[],h=>by grind[jT]
end
section
variable {G:Gh}{w:World}{s:Nat}
mutual
theorem zHn:(t:T)→ ∀(p:List Nat)(b o j:Nat),Loc G w s t p b o→j<t.size→ ∃y,G.lb b (o+j)=aB (aE,s,y++p)
 |.agg xs,p,b,o,j,h,hj=>by simp only[Loc,T.size]at h hj;exact zKR xs p 0 b o j h.2 hj
 |.any,p,b,o,j,h,hj|.lit _,p,b,o,j,h,hj|.ro _,p,b,o,j,h,hj|.same _ _,p,b,o,j,h,hj|.addr _ _,p,b,o,j,h,hj|.sub _ _ _ _ _,p,b,o,j,h,hj|.sl _ _,p,b,o,j,h,hj|.ptr _,p,b,o,j,h,hj=>by
  simp only[Loc,T.size]at h hj
  simp_all
 |.tup _,_,_,_,_,h,_=>by simp only[Loc]at h
theorem zKR:(xs:List T)→ ∀(p:List Nat)(i b o j:Nat),wD G w s xs p i b o→j<T.sizes xs→ ∃y,G.lb b (o+j)=aB (aE,s,y++p)
 | [],_,_,_,_,_,_,hj=>by grind[T.sizes]
 |x::xs,p,i,b,o,j,h,hj=>by
  simp only[wD,T.sizes]at h hj
  by_cases gP:j<x.size
  ·obtain⟨y,hy⟩:=zHn x (i::p) b o j h.1 gP
   exact⟨y++[i],by grind⟩
  ·obtain⟨y,hy⟩:=zKR xs p (i+1) b (o+x.size) (j-x.size) h.2 (by omega)
   grind
end
mutual
theorem zN6{G':Gh}{w':World}:(u u0:T)→ ∀(p:List Nat)(b o:Nat),vR u u0=aD→(∀y,u.inT y.reverse=aD→G'.ad s (y++p)=G.ad s (y++p))→
  (∀b o y,G.lb b o=aB (aE,s,y++p)→G'.lb b o=aB (aE,s,y++p))→(∀j v,(vals G' s u p)[j]? =aB v→zV w' b (o+j)=aB v)→Loc G w s u0 p b o→Loc G' w' s u p b o
 |.agg xs,.agg ys,p,b,o,h,ha,hl,hc,h0=>by
  simp only[Loc,vR]at h h0 ⊢
  refine⟨by have:=ha [] rfl;grind,zKS xs ys p 0 b o h (fun i x hx y hy=>?_) (by omega) (by grind[vals]) h0.2⟩
  grind[Gk,T.inT]
 |.agg _,.any,_,_,_,h,_,_,_,_|.agg _,.lit _,_,_,_,h,_,_,_,_|.agg _,.ro _,_,_,_,h,_,_,_,_|.agg _,.same _ _,_,_,_,h,_,_,_,_|.agg _,.addr _ _,_,_,_,h,_,_,_,_|.agg _,.sub _ _ _ _ _,_,_,_,h,_,_,_,_|.agg _,.sl _ _,_,_,_,h,_,_,_,_|.agg _,.ptr _,_,_,_,h,_,_,_,_|.agg _,.tup _,_,_,_,h,_,_,_,_=>by grind[vR]
 |.tup _,_,_,_,_,h,_,_,_,_=>by grind[vR]
 |.any,u0,p,b,o,h,ha,hl,hc,h0|.lit _,u0,p,b,o,h,ha,hl,hc,h0|.ro _,u0,p,b,o,h,ha,hl,hc,h0|.same _ _,u0,p,b,o,h,ha,hl,hc,h0|.addr _ _,u0,p,b,o,h,ha,hl,hc,h0|.sub _ _ _ _ _,u0,p,b,o,h,ha,hl,hc,h0|.sl _ _,u0,p,b,o,h,ha,hl,hc,h0|.ptr _,u0,p,b,o,h,ha,hl,hc,h0=>by have h1:=xW (by cases u0<;>simp[vR]at h<;>rfl) h0;have h2:=ha [] rfl;rw[Js]at h2;simp only[Loc];exact⟨h2.trans h1.1,by simp_all,by simpa using hc 0 (G'.hd s p) (by simp[vals])⟩
theorem zKS{G':Gh}{w':World}:(xs ys:List T)→ ∀(p:List Nat)(j b o:Nat),jT xs ys=aD→(∀i x,xs[i]? =aB x→ ∀y,x.inT y.reverse=aD→G'.ad s (y++((j+i)::p))=G.ad s (y++((j+i)::p)))→
  (∀b o y,G.lb b o=aB (aE,s,y++p)→G'.lb b o=aB (aE,s,y++p))→(∀i v,(zR G' s xs p j)[i]? =aB v→zV w' b (o+i)=aB v)→wD G w s ys p j b o→wD G' w' s xs p j b o
 | [],[],_,_,_,_,_,_,_,_,_=>by simp only[wD]
 |x::xs,y::ys,p,j,b,o,h,ha,hl,hc,h0=>by
  simp only[jT,J3,wD]at h h0 ⊢
  have hs:=zBF x y h.1;have gU:∀zs,x≠.tup zs:=by rintro zs rfl;grind[vR]
  refine⟨zN6 x y (j::p) b o h.1 (fun z hz=>by simpa using ha 0 x (by simp) z hz) (fun b o z hz=>by have:=hl b o (z++[j]) (by grind);grind) (fun i v hv=>hc i v ?_) h0.1,
   zKS xs ys p (j+1) b (o+x.size) h.2 (fun i z hz=>by have:=ha (i+1) z (by grind);grind) hl (fun i v hv=>?_) (by grind)⟩
  ·grind[zR]
  ·have:=hc (x.size+i) v (by
    grind[zR,wA])
   grind
 | [],_::_,_,_,_,_,h,_,_,_,_=>by grind[jT]
 |_::_,[],_,_,_,_,h,_,_,_,_=>by grind[jT]
end
end
def zE9(p:zY)(q:List Nat)(s:Nat)(z:List Nat):Option (List Nat):=
 match p with
 |.slot s0 t=>if tN t&&s0==s then aB (z++q)else aC
 |.zero _=>aC
def sHd(G:Gh)(p:zY)(y:List Nat):Value:=
 match p with
 |.slot s _=>G.hd s y
 |.zero u=>qK (zhd u y.reverse)
def sWr(r:Nat)(q:List Nat):zY→Wr
 |.slot s t=>if tN t then[(s,aB (cpT r t q))]else[]
 |.zero _=>[]
def Gh.st(G:Gh)(r:Nat)(q:List Nat)(p:zY):Gh where
 hd s z:=if s=r∧q<:+z then sHd G p (z.take (z.length-q.length))else G.hd s z
 ad s z:=if s=r∧q<:+z∧p.tree.inT (z.take (z.length-q.length)).reverse=aE then(match p with
  |.slot s0 _=>G.ad s0 (z.take (z.length-q.length))
  |.zero _=>default)else G.ad s z
 lb b o:=match G.lb b o with
  |some (fl,s,z)=>(match zE9 p q s z with
   |some z'=>aB (fl,r,z')
   |none=>aB (fl,s,z))
  |none=>aC
 ow b:=match G.ow b with
  |some (s,z)=>(match zE9 p q s z with
   |some z'=>aB (r,z')
   |none=>aB (s,z))
  |none=>aC
mutual
theorem zIi{Γ:Ctx}{G:Gh}{w:World}(hm:Mem Γ G w){s:Nat}:(t:T)→ ∀(p:List Nat)(v:Value),v∈vals G s t p→v.oneCell'=aD
 |.agg xs,p,v,h=>by simp only[vals]at h;exact zCh hm xs p 0 v h
 |.any,p,v,h|.lit _,p,v,h|.ro _,p,v,h|.same _ _,p,v,h|.addr _ _,p,v,h|.sub _ _ _ _ _,p,v,h|.sl _ _,p,v,h|.ptr _,p,v,h|.tup _,p,v,h=>by simp only[vals,List.mem_singleton]at h;rw[h];exact hm.one s p
theorem zCh{Γ:Ctx}{G:Gh}{w:World}(hm:Mem Γ G w){s:Nat}:(xs:List T)→ ∀(p:List Nat)(j:Nat)(v:Value),v∈zR G s xs p j→v.oneCell'=aD
 | [],_,_,_,h=>by grind[zR]
 |x::xs,p,j,v,h=>by
  simp only[zR,Kd]at h;rcases h with h|h
  ·exact zIi hm x _ v h
  ·exact zCh hm xs p _ v h
end
mutual
theorem zDK:(u:T)→u.zOk=aD→ ∀v∈uV u,v.oneCell'=aD
 |.lit v,h,x,hx=>by simp only[uV,List.mem_singleton]at hx;rw[hx];exact h
 |.sl _ _,_,x,hx=>by simp only[uV,List.mem_singleton]at hx;rw[hx];rfl
 |.agg xs,h,x,hx=>by simp only[T.zOk]at h;simp only[uV]at hx;exact zFj xs h x hx
 |.any,h,_,_|.ro _,h,_,_|.same _ _,h,_,_|.addr _ _,h,_,_|.sub _ _ _ _ _,h,_,_|.ptr _,h,_,_|.tup _,h,_,_=>by grind[T.zOk]
theorem zFj:(xs:List T)→zAe xs=aD→ ∀v∈tO xs,v.oneCell'=aD
 | [],_,_,h=>by grind[tO]
 |x::xs,h,v,hv=>by
  simp only[zAe,J3]at h;simp only[tO,Kd]at hv;rcases hv with hv|hv
  ·exact zDK x h.1 v hv
  ·exact zFj xs h.2 v hv
end
theorem zIj(y q:List Nat):(y++q).take ((y++q).length-q.length)=y:=by simp
theorem zJ9{Γ:Ctx}{G G':Gh}{w':World}{s d:Nat}{q:List Nat}{t:T}{v:Option Value}(hv:v=aB (mkV G s t []))(gU:∀xs,t≠.tup xs)(hs:∀p,G'.hd s p=G.hd s p)(cG:∀z,G'.hd d (z++q)=G.hd s z)
  (hr:R Γ.St G' w' d t q):Ent Γ G' w' v s (cpT d t q):=by
 have hz:∀z,G'.hd s (z++[])=G'.hd d (z++q):=by grind
 refine⟨?_,?_,sC d t q⟩
 ·rw[hv,zAq (G:=G') (G':=G') t q [] gU hz,kF G s t [] gU,zBf t [] q (fun z=>by rw[cG,Jf])]
 ·exact zCH (G:=G') (G':=G') (fun _=>rfl) t q [] hz gU (yF.triv (fun _ _=>⟨rfl,rfl⟩) _) hr
section
variable {P:Program}{Γ:Ctx}{E:Env}{o:Oper}
theorem qL:(f:List Nat)→ ∀(t u:T),zQ t→zQ u→zQ (t.set f u)
 | [],t,u,_,hu=>by grind[T.set]
 |i::f,t,u,ht,hu=>by
  cases t with
  |sl k xs=>
   simp only[T.set];split
   ·rename_i x hx
    simp only[zQ,yF]at ht ⊢
    exact sets_clean xs i _ ht (qL f x u (vH xs ht i x hx) hu)
   ·exact ht
  |agg xs=>
   simp only[T.set];split
   ·rename_i x hx
    simp only[zQ,yF]at ht ⊢
    exact sets_clean xs i _ ht (qL f x u (vH xs ht i x hx) hu)
   ·exact ht
  |tup xs=>
   simp only[T.set];split
   ·rename_i x hx
    simp only[zQ,yF]at ht ⊢
    exact sets_clean xs i _ ht (qL f x u (vH xs ht i x hx) hu)
   ·exact ht
  |ptr t=>
   simp only[T.set];split
   ·simp only[zQ,yF]at ht ⊢
    exact qL f t u ht hu
   ·exact ht
  |_=>grind[T.set]
where sets_clean:(xs:List T)→ ∀(i:Nat)(y:T),yI xs→zQ y→yI (xs.set i y)
 | [],_,_,_,_=>by grind
 |x::xs,0,y,h,hy=>by simp only[L6,yI,yP]at h ⊢;grind
 |x::xs,i+1,y,h,hy=>by simp only[Kh,yI,yP]at h ⊢;exact⟨h.1,sets_clean xs i y h.2 hy⟩
theorem zG5(T':TypeId)(ti:TypeInfo)(x y:Operand)(r:Nat)(q:List Nat)(tr u0:T)(p:zY)(ho:o.op=.store T' x y)(gb:o.dst=aC)
  (hi:P.info? T'=aB ti)(gx:ti.size=p.tree.size)(pb:0<ti.size)(hx:zB0 Γ E x r q)(hr:E r=aB tr)(bh:tr.single=aD)(hg:tr.get q.reverse=aB u0)(hl:tr.locd q.reverse=aD)
  (ez:vR p.tree u0=aD)(hy:kQ E y p)(gL:uG E r [p]):
  xF P Γ o E (E.app ((r,aB (tr.set q.reverse p.tree))::sWr r q p) ((r,q.length)::uX [p])):=by
 refine xF.skip gb fun a w G ga=>?_
 have hm:=ga.mem;have pE:=hx a w G ga;obtain⟨e3,e4,e5⟩:=ga.ent r _ hr;have pR:q≠[]:=by rintro rfl;simp[T.locd]at hl
 obtain⟨i0,f0,bU⟩:∃i f,q.reverse=i::f:=by
  cases h:q.reverse with
  |nil=>exact absurd (by simpa using h) pR
  |cons i f=>exact⟨i,f,rfl⟩
 have mm:∀v:T,(tr.set q.reverse v).single=aD∧zQ tr:=by
  intro v;rw[bU]at hg ⊢
  cases tr with
  |sl k xs=>exact⟨by simp only[T.set];split<;>rfl,by simpa only[Top,zQ,yF]using e5⟩
  |ptr t=>exact⟨by simp only[T.set];split<;>rfl,by simpa only[Top,zQ,yF]using e5⟩
  |agg xs=>simp[T.single]at bh
  |tup xs=>simp[T.single]at bh
  |_=>simp[T.get]at hg
 obtain⟨b,ob,cs,et,fW,gD,ag⟩:=(zBA q.reverse tr u0 [] e4 hg).2 hl;simp only[rp,Kk,Jf]at fW;have hru0:=(zBA q.reverse tr u0 [] e4 hg).1;have eI:=zCJ fW;have hsu:=zBF _ _ ez;have hc:=zAr ga gL (by simp) hy;have ch:(a.eval y).cells.size=p.tree.size:=by
  rw[←Jy,hc];cases p with
  |slot s t=>obtain⟨_,_,h3⟩:=gL.slot s t (by simp);exact wA t [] (by rintro xs rfl;simp[T.okTup]at h3)
  |zero u=>exact wF u (gL.zero u (by simp))
 have gk:∀v∈(a.eval y).cells.toList,v.oneCell'=aD:=by
  rw[hc];intro v hv;cases p with
  |slot s t=>exact zIi hm t [] v hv
  |zero u=>exact zDK u (gL.zero u (by simp)) v hv
 generalize hw':w.setRow b (cs.toList.take ob++(a.eval y).cells.toList++cs.toList.drop (ob+(a.eval y).cells.toList.length)).toArray=w'
 have hH:w'.heap[b]? =aB (.cells (cs.toList.take ob++(a.eval y).cells.toList++cs.toList.drop (ob+(a.eval y).cells.toList.length)).toArray et (0,0)):=by rw[←hw'];exact setRow_heap w b cs _ et _ gD
 have gy:∀b',b'≠b→w'.heap[b']? =w.heap[b']?:=fun b' h=>by rw[←hw'];exact setRow_other w b b' _ h
 have gI:w'.heap.size=w.heap.size:=by rw[←hw'];exact size_setRow w b _
 have gC:(a.eval y).cells.toList.length=u0.size:=by rw[Jy,ch,hsu]
 have ei:∀k,zV w' b k=if ob≤k∧k<ob+u0.size then(tL G p)[k-ob]? else zV w b k:=by
  intro k;simp only[zV,World.cell?,hH,gD,Uc,Ls,if_false];rw[←hc,←gC]at*
  rw[←K5,←K5 (xs:=cs)];simp only[];have gK:cs.toList.length=cs.size:=Jy ..
  generalize (a.eval y).cells.toList=V at*
  by_cases h1:k<ob
  ·rw[if_neg (by omega),Je,Jz (by simp;omega),Gz h1]
  ·by_cases h2:k<ob+V.length
   ·rw[if_pos ⟨by omega,h2⟩,Je,Ja (by simp;omega),Jz (by simp;omega)]
    congr 1;simp;omega
   ·rw[if_neg (by omega),Je,Ja (by simp;omega),Ja (by simp;omega),Kw]
    congr 1;simp;omega
 have eR:∀b' o' fl s z,G.lb b' o'=aB (fl,s,z)→ ¬(s=r∧q<:+z)→zV w' b' o'=zV w b' o':=by
  intro b' o' fl s z h1 h2
  by_cases hb:b'=b
  ·subst hb
   rw[ei];split
   ·rename_i h3
    obtain⟨y',h4⟩:=zHn u0 q b' ob (o'-ob) fW (by omega);rw[show ob+(o'-ob)=o' from by omega,h1]at h4;simp at h4;exact absurd ⟨h4.2.1,y',h4.2.2.symm⟩ h2
   ·rfl
  ·simp[zV,World.cell?,gy b' hb]
 have ee:Blk w w':=by
  intro b' cs' e' h1
  by_cases hb:b'=b
  ·subst hb
   rw[gD]at h1;simp at h1;obtain⟨rfl,rfl⟩:=h1;exact⟨_,hH,by simp;have:cs.toList.length=cs.size:=Jy ..;omega⟩
  ·exact⟨cs',by rw[gy b' hb];exact h1,rfl⟩
 generalize gj:G.st r q p=G'
 have ghd:∀y',G'.hd r (y'++q)=sHd G p y':=fun y'=>by rw[←gj];simp[Gh.st]
 have ghd':∀s z,¬(s=r∧q<:+z)→G'.hd s z=G.hd s z:=fun s z h=>by rw[←gj];simp only[Gh.st];rw[if_neg h]
 have gad:∀s z,¬(s=r∧q<:+z)→G'.ad s z=G.ad s z:=fun s z h=>by rw[←gj];simp only[Gh.st];rw[if_neg (fun h2=>h ⟨h2.1,h2.2.1⟩)]
 have gadf:∀y',p.tree.inT y'.reverse=aD→G'.ad r (y'++q)=G.ad r (y'++q):=fun y' h=>by rw[←gj];simp only[Gh.st,zIj];rw[if_neg (by simp[h])]
 have gadm:∀s0 t y',p=.slot s0 t→t.inT y'.reverse=aE→G'.ad r (y'++q)=G.ad s0 y':=fun s0 t y' h1 h2=>by subst h1;rw[←gj];simp only[Gh.st,zIj,zY.tree];rw[if_pos];simp[h2]
 have glb:∀b' o' fl s z,G.lb b' o'=aB (fl,s,z)→zE9 p q s z=aC→G'.lb b' o'=aB (fl,s,z):=fun b' o' fl s z h1 h2=>by rw[←gj];simp[Gh.st,h1,h2]
 have glbm:∀b' o' fl s z z',G.lb b' o'=aB (fl,s,z)→zE9 p q s z=aB z'→G'.lb b' o'=aB (fl,r,z'):=fun b' o' fl s z z' h1 h2=>by rw[←gj];simp[Gh.st,h1,h2]
 have gow:∀b' s z,G.ow b'=aB (s,z)→zE9 p q s z=aC→G'.ow b'=aB (s,z):=fun b' s z h1 h2=>by rw[←gj];simp[Gh.st,h1,h2]
 have gowm:∀b' s z z',G.ow b'=aB (s,z)→zE9 p q s z=aB z'→G'.ow b'=aB (r,z'):=fun b' s z z' h1 h2=>by rw[←gj];simp[Gh.st,h1,h2]
 have mA:∀s z,(∀n,(s,n)∉(r,q.length)::uX [p])→zE9 p q s z=aC:=by
  intro s z h;cases p with
  |zero u=>rfl
  |slot s0 t=>
   simp only[zE9];rw[if_neg];intro h2;simp only[J3,beq_iff_eq]at h2;obtain⟨h3,rfl⟩:=h2;exact h 1 (by simp[uX,yQ,h3])
 have fw:∀z,zE9 p q r z=aC:=by
  intro z;cases p with
  |zero u=>rfl
  |slot s0 t=>
   simp only[zE9];rw[if_neg];intro h2;simp only[J3,beq_iff_eq]at h2;obtain⟨h3,rfl⟩:=h2;have:=(Kf.1 gL.dist).1;simp[yQ,h3]at this
 have cz:∀s z,Off ((r,q.length)::uX [p]) s z→ ¬(s=r∧q<:+z):=by
  rintro s z h ⟨rfl,h2⟩
  have:=h q.length (by simp);have:=h2.length_le;omega
 have gn:kE ((r,q.length)::uX [p]) G w G' w':=by
  refine⟨fun s z h=>ghd' s z (cz s z h),fun s z h=>gad s z (cz s z h),fun b' o' fl s z _ h1 h2=>⟨glb b' o' fl s z h1 (mA s z h2),eR b' o' fl s z h1 ?_⟩,fun b' s z h1 h2=>gow b' s z h1 (mA s z h2),ee⟩
  rintro⟨rfl,_⟩
  exact h2 q.length (by simp)
 have pZ:zBB Γ w b:=by obtain⟨y',h4⟩:=zHn u0 q b ob 0 fW (by omega);exact hm.lb _ _ _ h4
 have gw:Mem Γ G' w':=by
  refine⟨fun s z=>?_,fun b' o' l hl=>?_,fun b' l hl=>?_,fun b' x' hG=>?_,fun b' h1 h2=>?_,by rw[gI];exact hm.sz,hm.bk.trans ee (by rw[←hw'];rfl) (by rw[←hw'];rfl)⟩
  ·by_cases h:s=r∧q<:+z
   ·obtain⟨rfl,y',rfl⟩:=h
    rw[ghd];unfold sHd;split
    ·exact hm.one _ _
    ·exact zAP _
   ·rw[ghd' s z h];exact hm.one s z
  ·have:∃l',G.lb b' o'=aB l':=by
    rw[←gj]at hl;simp only[Gh.st]at hl;split at hl
    ·exact⟨_,by assumption⟩
    ·cases hl
   obtain⟨l',pk⟩:=this;have:=hm.lb b' o' l' pk;exact⟨by rw[gI];exact this.1,this.2⟩
  ·have:∃l',G.ow b'=aB l':=by
    rw[←gj]at hl;simp only[Gh.st]at hl;split at hl
    ·exact⟨_,by assumption⟩
    ·cases hl
   obtain⟨l',pk⟩:=this;have:=hm.ow b' l' pk;exact⟨by rw[gI];exact this.1,this.2⟩
  ·have hb:b'≠b:=by rintro rfl;rw[pZ.2.2]at hG;cases hG
   rw[gy b' hb];exact hm.st b' x' hG
  ·have hb:b'≠b:=by
    rintro rfl
    rcases pZ.2.1 with h3|h3
    ·omega
    ·exact h2 h3
   rw[gy b' hb];exact hm.fr b' h1 h2
 have bD:Upd G w G' w' r q:=by refine⟨fun z h=>ghd' r z (fun h2=>h h2.2),fun z h=>gad r z (fun h2=>h h2.2),fun b' o' fl z h1 h=>⟨glb b' o' fl r z h1 (fw z),eR b' o' fl r z h1 (fun h2=>h h2.2)⟩,fun b' z h1 _=>gow b' r z h1 (fw z),ee⟩
 have pP:R Γ.St G' w' r p.tree q:=by
  cases hp:p with
  |zero u=>
   refine zHl u q (gL.zero u (by simp[hp])) (fun z=>by rw[ghd];simp[sHd,hp])
  |slot s0 t=>
   obtain⟨h1,h2,h3⟩:=gL.slot s0 t (by simp[hp]);have eM:=(ga.ent s0 t h1).2.1
   by_cases fF:tN t=aD
   ·have bL:s0≠r:=by
     rintro rfl
     have:=(Kf.1 gL.dist).1;simp[hp,yQ,fF]at this
    refine zIf t [] q h3 ⟨fun z=>by rw[ghd,Jf];simp[sHd,hp],fun z hz=>by rw[Jf];exact gadm s0 t z hp hz,fun b' o' fl z _ h4=>?_,fun b' z h4=>?_,ee⟩ (yF.mono (fun _ _=>False.elim) t h2) eM
    ·rw[Jf]at h4
     exact⟨glbm b' o' fl s0 z _ h4 (by simp[zE9,hp,fF]),eR b' o' fl s0 z h4 (fun h5=>bL h5.1)⟩
    ·rw[Jf]at h4
     exact gowm b' s0 z _ h4 (by simp[zE9,hp,fF])
   ·have hh:G'.hd r q=G.hd s0 []:=by have:=ghd [];rw[Js]at this;rw[this];simp[sHd,hp]
    cases t<;>simp[tN]at fF<;>simp only[R,zY.tree]at eM ⊢ <;>rw[hh]<;>exact eM
 have fk:vals G' r p.tree q=tL G p:=by
  cases hp:p with
  |zero u=>exact zDI u q (gL.zero u (by simp[hp])) (fun z=>by rw[ghd];simp[sHd,hp])
  |slot s0 t=>exact zA8 t [] q (fun z=>by rw[ghd];simp[sHd,hp])
 have mH:∀b' o',Loc G w r u0 q b' o'→Loc G' w' r p.tree q b' o':=by
  intro b' o' h1;have h2:b'=b∧o'=ob:=by have:=(zCJ h1).symm.trans eI;simp at this;exact this
  obtain⟨rfl,rfl⟩:=h2;refine zN6 p.tree u0 q b' o' ez (fun y' h=>gadf y' h) (fun b2 o2 y' h=>glb b2 o2 aE r _ h (fw _)) (fun j v hv=>?_) h1;rw[fk]at hv;have hj:=(Jc.1 hv).1;have eO:(tL G p).length=u0.size:=by rw[←hc,gC]
  rw[ei,if_pos ⟨by omega,by omega⟩,show o'+j-o'=j from by omega];exact hv
 have mr:R Γ.St G' w' r (tr.set q.reverse p.tree) []:=by
  have fM:rp q.reverse []=q:=by simp[rp]
  refine zEX q.reverse tr p.tree u0 [] (by rw[fM];exact bD) e4 hg hsu (yF.mono (fun _ _=>False.elim) tr (mm .any).2) (by rw[fM];exact mH) (by rw[fM];exact pP)
 have gG:=run_storeCells_at P b ob et (a.eval y).cells.toList 0 cs w gD (by omega) gk;simp only[Uz]at gG;rw[hw']at gG;refine⟨w',?_,G',vK ga rfl gn gw ?_ ?_⟩
 ·have bF:(a.eval y).cells.size=ti.size:=by rw[ch,gx]
  simp[execOp,ho,pE,eI,Instr.storeAt,uR,storeVar,sizeOf,typeInfo,hi,bF,gG]
 ·intro s hs
  simp only[Wr.find]at hs;split at hs
  ·cases hs
  ·rename_i gf
   refine⟨fun n hn=>?_,rfl⟩;simp only[Jl,Uq.injEq]at hn;rcases hn with⟨h1,_⟩|hn
   ·exact gf h1.symm
   ·cases p with
    |zero u=>simp[uX,yQ]at hn
    |slot s0 t=>
     by_cases fF:tN t=aD
     ·simp[uX,yQ,fF]at hn
      simp[sWr,fF,Wr.find,hn.1.symm]at hs
     ·simp[uX,yQ,fF]at hn
 ·intro s t hs
  simp only[Wr.find]at hs;split at hs
  ·rename_i he
   subst he;simp at hs;subst hs;refine⟨?_,mr,Top.of_clean _ (qL _ _ _ (mm .any).2 ?_)⟩
   ·rw[e3,yR (mm p.tree).1,yR bh]
    congr 1
    exact(ghd' r [] (fun h=>pR (by simpa using h.2))).symm
   ·cases p with
    |zero u=>exact(zAQ u (gL.zero u (by simp))).1
    |slot s0 t=>exact(gL.slot s0 t (by simp)).2.1
  ·rename_i gf
   cases hp:p with
   |zero u=>simp[sWr,hp,Wr.find]at hs
   |slot s0 t0=>
    by_cases fF:tN t0=aD
    ·simp only[sWr,hp,fF,if_true,Wr.find]at hs
     split at hs
     ·rename_i he
      subst he;simp at hs;subst hs;obtain⟨h1,h2,h3⟩:=gL.slot s0 t0 (by simp[hp]);refine zJ9 (G:=G) (ga.ent s0 t0 h1).1 (by rintro xs rfl;simp[T.okTup]at h3) (fun z=>ghd' s0 z (fun h=>gf h.1.symm)) (fun z=>by rw[ghd];simp[sHd,hp]) (by rw[hp]at pP;exact pP)
     ·cases hs
    ·simp[sWr,hp,fF,Wr.find]at hs
theorem zN7(T':TypeId)(ti:TypeInfo)(x y:Operand)(r:Nat)(q:List Nat)(tr u0:T)(p:zY)(ho:o.op=.store T' x y)(gb:o.dst=aC)
  (hi:P.info? T'=aB ti)(gx:ti.size=p.tree.size)(pb:0<ti.size)(hx:opT E x=aB (.addr r q))(hr:E r=aB tr)(bh:tr.single=aD)(hg:tr.get q.reverse=aB u0)(hl:tr.locd q.reverse=aD)
  (ez:vR p.tree u0=aD)(hy:kQ E y p)(gL:uG E r [p]):
  xF P Γ o E (E.app ((r,aB (tr.set q.reverse p.tree))::sWr r q p) ((r,q.length)::uX [p])):=
 by grind[zG5,zB0.addr]
end
end Go.Ab

namespace Go.Ab
open Go
section
variable {G G':Gh}{s:Nat}
theorem zJA(xs:List T):∀(p:List Nat)(j:Nat),(∀k,j≤k→ ∀z,G'.hd s (z++(k::p))=G.hd s (z++(k::p)))→zR G' s xs p j=zR G s xs p j:=by
 induction xs with
 |nil=>grind[zR]
 |cons z zs ih=>
  intro p j h;simp only[zR];rw[zA8 z (j::p) (j::p) (h j (Ji _)),ih p (j+1) (by grind)]
theorem zMm(xs:List T):∀(p:List Nat)(j i:Nat)(x y:T),xs[i]? =aB x→(∀k,k≠j+i→ ∀z,G'.hd s (z++(k::p))=G.hd s (z++(k::p)))→
  vals G' s y ((j+i)::p)=vals G s x ((j+i)::p)→zR G' s (xs.set i y) p j=zR G s xs p j:=by
 induction xs with
 |nil=>simp
 |cons z zs ih=>
  intro p j i x y h hz hy;cases i with
  |zero=>
   grind[zR,zJA]
  |succ i=>
   simp only[Kh,zR];rw[zA8 z (j::p) (j::p) (hz j (by omega)),ih p (j+1) i x y (by grind) (by grind) (by grind)]
theorem zIk:(f:List Nat)→ ∀(t u u0:T)(p:List Nat),t.get f=aB u0→u0.single=aD→u.single=aD→(∀z,(rp f p<:+z→z=rp f p)→G'.hd s z=G.hd s z)→vals G' s (t.set f u) p=vals G s t p
 | [],t,u,u0,p,hg,h0,h1,hh=>by simp[T.get]at hg;subst hg;have:G'.hd s p=G.hd s p:=hh p (by simp[rp]);simp only[T.set];cases t<;>simp[T.single]at h0<;>cases u<;>simp[T.single]at h1<;>simp[vals,this]
 |i::f,t,u,u0,p,hg,h0,h1,hh=>by
  rw[zA6]at hh;have hp:G'.hd s p=G.hd s p:=by grind[jS]
  cases t with
  |agg xs=>
   simp only[T.get]at hg;cases hx:xs[i]? with
   |none=>grind
   |some x=>
    rw[hx]at hg;simp only[T.set,hx,vals];refine zMm xs p 0 i x _ hx (by grind[qH]) ?_;rw[J7];exact zIk f x u u0 (i::p) hg h0 h1 hh
  |tup xs=>
   grind[T.set,vals]
  |sl k xs=>grind[T.set,vals]
  |ptr t=>grind[T.set,vals]
  |_=>grind[T.get]
theorem zIl(f:List Nat)(t u u0:T)(p:List Nat)(hg:t.get f=aB u0)(h0:u0.single=aD)(h1:u.single=aD)(hh:∀z,(rp f p<:+z→z=rp f p)→G'.hd s z=G.hd s z)(gU:∀xs,t≠.tup xs):
  uW G' s (t.set f u) p=uW G s t p:=by
 have h:=zIk f t u u0 p hg h0 h1 hh;cases f with
 |nil=>
  simp[T.get]at hg;subst hg;have:G'.hd s p=G.hd s p:=hh p (by simp[rp]);simp only[T.set];cases t<;>simp[T.single]at h0<;>cases u<;>simp[T.single]at h1<;>simp[uW,this]
 |cons i f=>
  rw[zA6]at hh;have hp:G'.hd s p=G.hd s p:=by grind[jS]
  cases t with
  |agg xs=>
   grind[T.set,vals,uW]
  |tup xs=>grind
  |sl k xs=>grind[T.set,uW]
  |ptr t=>grind[T.set,uW]
  |_=>grind[T.get]
theorem zMn(xs:List T):∀(p:List Nat)(j:Nat),(∀k,j≤k→ ∀z,G'.hd s (z++(k::p))=G.hd s (z++(k::p)))→kD G' s xs p j=kD G s xs p j:=by
 induction xs with
 |nil=>grind[kD]
 |cons z zs ih=>
  intro p j h;simp only[kD];rw[zBf z (j::p) (j::p) (h j (Ji _)),ih p (j+1) (by grind)]
theorem zN8(xs:List T):∀(p:List Nat)(j i:Nat)(x y:T),xs[i]? =aB x→(∀k,k≠j+i→ ∀z,G'.hd s (z++(k::p))=G.hd s (z++(k::p)))→
  uW G' s y ((j+i)::p)=uW G s x ((j+i)::p)→kD G' s (xs.set i y) p j=kD G s xs p j:=by
 induction xs with
 |nil=>simp
 |cons z zs ih=>
  intro p j i x y h hz hy;cases i with
  |zero=>
   grind[kD,zMn]
  |succ i=>
   simp only[Kh,kD];rw[zBf z (j::p) (j::p) (hz j (by omega)),ih p (j+1) i x y (by grind) (by grind) (by grind)]
def wC:T→Bool
 |.tup xs=>xs.all fun x=>match x with
  |.tup _=>aE
  |_=>aD
 |_=>aD
theorem zKT(f:List Nat)(t u u0:T)(p:List Nat)(hg:t.get f=aB u0)(h0:u0.single=aD)(h1:u.single=aD)(hh:∀z,(rp f p<:+z→z=rp f p)→G'.hd s z=G.hd s z)(cH:wC t=aD):
  mkV G' s (t.set f u) p=mkV G s t p:=by
 by_cases ht:∃xs,t=.tup xs
 ·obtain⟨xs,rfl⟩:=ht
  cases f with
  |nil=>grind[T.get,T.single]
  |cons i f=>
   rw[zA6]at hh;simp only[T.get]at hg;cases hx:xs[i]? with
   |none=>grind
   |some x=>
    rw[hx]at hg;simp only[T.set,hx,mkV];rw[zN8 xs p 0 i x _ hx (fun k hk z=>hh _ (fun h=>absurd h (qH (by omega) z)))];rw[J7];refine zIl f x u u0 (i::p) hg h0 h1 hh ?_
    rintro ys rfl
    simp only[wC]at cH;have:=Jt.1 cH _ (Kx hx)
    grind
 ·have gU:∀xs,t≠.tup xs:=by grind
  rw[kF G s t p gU,←zIl f t u u0 p hg h0 h1 hh gU];refine kF G' s _ p ?_
  rintro xs ew
  cases f with
  |nil=>grind[T.set,T.single]
  |cons i f=>cases t<;>simp only[T.set]at ew<;>first|grind|grind|cases ew
end
theorem zEK:(f:List Nat)→ ∀(t u:T),Top t→zQ u→Top (t.set f u)
 | [],t,u,_,hu=>by grind[T.set,Top.of_clean]
 |i::f,t,u,ht,hu=>by
  cases t with
  |sl k xs=>
   refine Top.of_clean _ (qL (i::f) _ u (by simpa only[Top,zQ,yF]using ht) hu)
  |ptr t=>exact Top.of_clean _ (qL (i::f) _ u (by simpa only[Top,zQ,yF]using ht) hu)
  |agg xs=>
   simp only[T.set];split
   ·rename_i x hx
    simp only[Top]at ht ⊢
    exact tops_set xs i _ ht (zEK f x u (tops_get xs ht i x hx) hu)
   ·exact ht
  |tup xs=>
   simp only[T.set];split
   ·rename_i x hx
    simp only[Top]at ht ⊢
    exact tops_set xs i _ ht (zEK f x u (tops_get xs ht i x hx) hu)
   ·exact ht
  |_=>grind[T.set]
where
 tops_set:(xs:List T)→ ∀(i:Nat)(y:T),vE xs→Top y→vE (xs.set i y)
  | [],_,_,_,_=>by simp[vE]
  |x::xs,0,y,h,hy=>by simp only[L6,vE]at h ⊢;grind
  |x::xs,i+1,y,h,hy=>by simp only[Kh,vE]at h ⊢;exact⟨h.1,tops_set xs i y h.2 hy⟩
 tops_get:(xs:List T)→vE xs→ ∀(i:Nat)(x:T),xs[i]? =aB x→Top x
  | [],_,_,_,h=>by simp at h
  |y::ys,hk,i,x,h=>by
   simp only[vE]at hk;cases i with
   |zero=>grind
   |succ i=>exact tops_get ys hk.2 i x (by grind)
def Gh.tr(G:Gh)(d:Nat)(g:List Nat)(r:Nat)(p:List Nat):Gh where
 hd s z:=if s=d∧g<:+z then G.hd r (z.take (z.length-g.length)++p)else G.hd s z
 ad s z:=if s=d∧g<:+z∧z≠g then G.ad r (z.take (z.length-g.length)++p)else G.ad s z
 lb b o:=match G.lb b o with
  |some (fl,s,z)=>if s=r∧p<:+z∧(fl=aD∨z≠p)then aB (fl,d,z.take (z.length-p.length)++g)else aB (fl,s,z)
  |none=>aC
 ow b:=match G.ow b with
  |some (s,z)=>if s=r∧p<:+z then aB (d,z.take (z.length-p.length)++g)else aB (s,z)
  |none=>aC
theorem zEt{t:T}(h:t.single=aD):t.size=1:=by cases t<;>simp[T.single]at h<;>simp[T.size]
theorem zFk{Γ:Ctx}{E:Env}{G:Gh}{tmps:Array Value}{w:World}(ga:Rep Γ E G tmps w)(d:Nat)(g:List Nat)(r:Nat)(p:List Nat)(td tr u v0:T)(hd:E d=aB td)(hg:td.get g.reverse=aB v0)(mh:v0.single=aD)(gW:G.hd d g=G.hd r p)(hr:E r=aB tr)
  (hp:tr.get p.reverse=aB u)(hu:u.single=aD)(ex:zQ u)(gS:d≠r)(pd:td.okB [(d,g.length+1),(r,p.length+1)]=aD)(fT:tr.okB [(d,g.length+1),(r,p.length+1)]=aD)(fI:wC td=aD)(eG:wC tr=aD):
  Rep Γ (E.app [(d,aB (td.set g.reverse u)),(r,aB (if p=[]then .same d g else tr.set p.reverse .any))] [(d,g.length+1),(r,p.length+1)]) (G.tr d g r p) tmps w∧ ∀s z,¬(s=d∧g<:+z∧z≠g)→(G.tr d g r p).hd s z=G.hd s z:=by
 obtain⟨d1,d2,d3⟩:=ga.ent d td hd;obtain⟨r1,r2,r3⟩:=ga.ent r tr hr;have hm:=ga.mem;have pP:=(zBA p.reverse tr u [] r2 hp).1;simp only[rp,Kk,Jf]at pP;have gD:Blk w w:=fun b cs e' h=>⟨cs,h,rfl⟩
 generalize gj:G.tr d g r p=G'
 have ghd:∀z,G'.hd d (z++g)=G.hd r (z++p):=fun z=>by rw[←gj];simp[Gh.tr]
 have ghd0:∀s z,¬(s=d∧g<:+z∧z≠g)→G'.hd s z=G.hd s z:=by
  intro s z h;rw[←gj];simp only[Gh.tr]
  by_cases h2:s=d∧g<:+z
  ·have h3:z=g:=by
    rcases Decidable.em (z=g)with e|e
    ·exact e
    ·exact absurd ⟨h2.1,h2.2,e⟩ h
   subst h3;rw[if_pos h2,h2.1];simpa using gW.symm
  ·rw[if_neg h2]
 have gad0:∀s z,¬(s=d∧g<:+z∧z≠g)→G'.ad s z=G.ad s z:=fun s z h=>by rw[←gj];simp only[Gh.tr];rw[if_neg h]
 have gad:∀z,z≠[]→G'.ad d (z++g)=G.ad r (z++p):=fun z h=>by rw[←gj];simp only[Gh.tr];rw[if_pos (by simpa using h)];simp
 have glb0:∀b o fl s z,G.lb b o=aB (fl,s,z)→ ¬(s=r∧p<:+z∧(fl=aD∨z≠p))→G'.lb b o=aB (fl,s,z):=fun b o fl s z h1 h2=>by rw[←gj];simp only[Gh.tr,h1];rw[if_neg h2]
 have glb:∀b o fl z,G.lb b o=aB (fl,r,z++p)→(fl=aD∨z≠[])→G'.lb b o=aB (fl,d,z++g):=fun b o fl z h1 h2=>by rw[←gj];simp only[Gh.tr,h1];rw[if_pos (by simpa using h2)];simp
 have gow0:∀b s z,G.ow b=aB (s,z)→ ¬(s=r∧p<:+z)→G'.ow b=aB (s,z):=fun b s z h1 h2=>by rw[←gj];simp only[Gh.tr,h1];rw[if_neg h2]
 have gow:∀b z,G.ow b=aB (r,z++p)→G'.ow b=aB (d,z++g):=fun b z h1=>by rw[←gj];simp only[Gh.tr,h1];rw[if_pos (by simp)];simp
 have gH:∀s z,Off [(d,g.length+1),(r,p.length+1)] s z→ ¬(s=d∧g<:+z∧z≠g):=by
  rintro s z h ⟨rfl,⟨y,rfl⟩,h3⟩
  have:=h (g.length+1) (by simp);have:y=[]:=Jr (by simp at this;omega);exact h3 (by simp[this])
 have gn:kE [(d,g.length+1),(r,p.length+1)] G w G' w:=by
  refine⟨fun s z h=>ghd0 s z (gH s z h),fun s z h=>gad0 s z (gH s z h),fun b o fl s z _ h1 h2=>⟨glb0 b o fl s z h1 ?_,rfl⟩,fun b s z h1 h2=>gow0 b s z h1 ?_,gD⟩
  ·rintro⟨rfl,_⟩;exact h2 (p.length+1) (by simp)
  ·rintro⟨rfl,_⟩;exact h2 (p.length+1) (by simp)
 have gw:Mem Γ G' w:=by
  refine⟨fun s z=>?_,fun b o l hl=>?_,fun b l hl=>?_,hm.st,hm.fr,hm.sz,hm.bk⟩
  ·rw[←gj]
   simp only[Gh.tr];split
   ·exact hm.one _ _
   ·exact hm.one _ _
  ·have:∃l',G.lb b o=aB l':=by
    rw[←gj]at hl;simp only[Gh.tr]at hl;split at hl
    ·exact⟨_,by assumption⟩
    ·cases hl
   obtain⟨l',pk⟩:=this;exact hm.lb b o l' pk
  ·have:∃l',G.ow b=aB l':=by
    rw[←gj]at hl;simp only[Gh.tr]at hl;split at hl
    ·exact⟨_,by assumption⟩
    ·cases hl
   obtain⟨l',pk⟩:=this;exact hm.ow b l' pk
 have fM:∀q:List Nat,rp q.reverse []=q:=fun q=>by simp[rp]
 have hud:R Γ.St G' w d u g:=by
  refine zAc (G:=G) (w:=w) (s:=r) (p:=p) ⟨⟨ghd,gad,fun b o f z hz _ hl=>⟨glb b o f z hl (.inr hz),rfl⟩,fun b z _ hl=>gow b z hl,gD⟩,fun b o _ hl=>⟨by simpa using glb b o aD [] (by simpa using hl) (.inl rfl),rfl⟩,fun b hl=>by simpa using gow b [] (by simpa using hl)⟩ u
   (yF.mono (fun _ _=>False.elim) u ex) pP
 have mi:Upd G w G' w d g:=⟨fun z h=>ghd0 d z (fun h2=>h h2.2.1),fun z h=>gad0 d z (fun h2=>h h2.2.1),fun b o f z h1 _=>⟨glb0 b o f d z h1 (fun h2=>gS h2.1),rfl⟩,fun b z h1 _=>gow0 b d z h1 (fun h2=>gS h2.1),gD⟩;have mI:∀b o,Loc G w d v0 g b o→Loc G' w d u g b o:=by intro b o h1;obtain⟨h2,h3,h4⟩:=xW mh h1;have h5:G'.ad d g=⟨b,o,aC⟩∧G'.lb b o=aB (aE,d,g)∧zV w b o=aB (G'.hd d g):=⟨(gad0 d g (fun h=>h.2.2 rfl)).trans h2,glb0 b o aE d g h3 (fun h=>gS h.1),by rw[h4,ghd0 d g (fun h=>h.2.2 rfl)]⟩;cases u<;>simp[T.single]at hu<;>simpa only[Loc]using h5
 have mX:R Γ.St G' w d (td.set g.reverse u) []:=
  zEX g.reverse td u v0 [] (by rw[fM];exact mi) d2 hg (by rw[zEt mh,zEt hu]) (gn.keepR (zA7 td d3 pd)) (by rw[fM];exact mI) (by rw[fM];exact hud)
 have hVd:mkV G' d (td.set g.reverse u) []=mkV G d td []:=
  zKT g.reverse td u v0 [] hg mh hu (fun z hz=>ghd0 d z (fun h2=>h2.2.2 (by rw[fM]at hz;exact hz h2.2.1))) fI
 have hRr:p≠[]→R Γ.St G' w r (tr.set p.reverse .any) []:=by intro pT;refine zEX p.reverse tr .any u [] (by rw[fM];exact⟨fun z _=>ghd0 r z (fun h2=>gS h2.1.symm),fun z _=>gad0 r z (fun h2=>gS h2.1.symm),fun b o f z h1 h=>⟨glb0 b o f r z h1 (fun h2=>h h2.2.1),rfl⟩,fun b z h1 h=>gow0 b r z h1 (fun h2=>h h2.2),gD⟩) r2 hp (by cases u<;>simp[T.single]at hu<;>simp[T.size]) (gn.keepR (zA7 tr r3 fT)) ?_ (by simp only[R]);rw[fM];intro b o h1;obtain⟨h2,h3,h4⟩:=xW hu h1;simp only[Loc];exact⟨(gad0 r p (fun h=>gS h.1.symm)).trans h2,glb0 b o aE r p h3 (by simp),by rw[h4,ghd0 r p (fun h=>gS h.1.symm)]⟩
 have hVr:p≠[]→mkV G' r (tr.set p.reverse .any) []=mkV G r tr []:=fun _=>
  zKT p.reverse tr .any u [] hp hu rfl (fun z _=>ghd0 r z (fun h2=>gS h2.1.symm)) eG
 refine⟨vK ga rfl gn gw ?_ ?_,ghd0⟩
 ·intro s hs
  simp only[Wr.find]at hs;split at hs
  ·cases hs
  ·rename_i h1
   split at hs
   ·cases hs
   ·rename_i h2
    refine⟨fun n hn=>?_,rfl⟩;simp only[Jl,Uq.injEq,List.not_mem_nil,or_false]at hn;rcases hn with⟨e,_⟩|⟨e,_⟩
    ·exact h1 e.symm
    ·exact h2 e.symm
 ·intro s t hs
  simp only[Wr.find]at hs;split at hs
  ·rename_i he
   subst he;simp at hs;subst hs;exact⟨by rw[d1,hVd],mX,zEK _ _ _ d3 ex⟩
  ·split at hs
   ·rename_i he
    subst he;simp at hs
    by_cases pT:p=[]
    ·rw[if_pos pT]at hs
     subst hs;subst pT;simp[T.get]at hp;subst hp;refine⟨?_,?_,by simp[Top]⟩
     ·rw[r1,yR hu,yR rfl,ghd0 r [] (fun h=>gS h.1.symm)]
     ·simp only[R]
      rw[ghd0 r [] (fun h=>gS h.1.symm)];have:=ghd [];simpa using this.symm
    ·rw[if_neg pT]at hs
     subst hs;exact⟨by rw[r1,hVr pT],hRr pT,zEK _ _ _ r3 (by simp[zQ,yF])⟩
   ·cases hs
theorem zJB{Γ:Ctx}{E:Env}{a:Act}{w:World}(h:Sim Γ E a w)(d:Nat)(g:List Nat)(r:Nat)(p:List Nat)(td tr u:T)(hd:E d=aB td)(hg:td.get g.reverse=aB (.same r p))(hr:E r=aB tr)
  (hp:tr.get p.reverse=aB u)(hu:u.single=aD)(ex:zQ u)(gS:d≠r)(pd:td.okB [(d,g.length+1),(r,p.length+1)]=aD)(fT:tr.okB [(d,g.length+1),(r,p.length+1)]=aD)(fI:wC td=aD)(eG:wC tr=aD):
  Sim Γ (E.app [(d,aB (td.set g.reverse u)),(r,aB (if p=[]then .same d g else tr.set p.reverse .any))] [(d,g.length+1),(r,p.length+1)]) a w:=by
 obtain⟨ed,G,ga⟩:=h;have gW:=(zBA g.reverse td _ [] (ga.ent d td hd).2.1 hg).1;simp only[rp,Kk,Jf,R]at gW;exact⟨ed,_,(zFk ga d g r p td tr u _ hd hg rfl gW hr hp hu ex gS pd fT fI eG).1⟩
end Go.Ab

namespace Go.Ab
open Go
theorem zHo{St:Stb}{G:Gh}{w:World}{s:Nat}{k:Nat}:(xs:List T)→ ∀(p:List Nat)(j b o:Nat),(∀i x,xs[i]? =aB x→Loc G w s x ((j+i)::p) b (o+i*k)∧x.size=k∧R St G w s x ((j+i)::p))→RL St G w s xs p j b o k
 | [],_,_,_,_,_=>by simp only[RL]
 |x::xs,p,j,b,o,h=>by
  obtain⟨h1,h2,h3⟩:=h 0 x (by simp);simp only[RL];refine⟨⟨by simpa using h1,h2⟩,by simpa using h3,zHo xs p (j+1) b (o+k) (fun i y hy=>?_)⟩;have:=h (i+1) y (by simpa using hy)
  rwa [show j+(i+1)=j+1+i from by omega,show o+(i+1)*k=o+k+i*k from by rw[Lt];omega]at this
theorem qM{St:Stb}{G:Gh}{w:World}{s:Nat}{k:Nat}:(xs:List T)→ ∀(p:List Nat)(j b o:Nat),RL St G w s xs p j b o k→wD G w s xs p j b o
 | [],_,_,_,_,_=>by simp only[wD]
 |x::xs,p,j,b,o,h=>by simp only[RL]at h;simp only[wD];exact⟨h.1.1,qM xs p (j+1) b (o+x.size) (by rw[h.1.2];exact h.2.2)⟩
theorem zAT{St:Stb}{G:Gh}{w:World}{s:Nat}{k:Nat}:(xs:List T)→ ∀(p:List Nat)(j b o:Nat),RL St G w s xs p j b o k→RF St G w s xs p j∧ ∀x∈xs,x.size=k
 | [],_,_,_,_,_=>by simp[RF]
 |x::xs,p,j,b,o,h=>by simp only[RL]at h;obtain⟨h1,h2⟩:=zAT xs p (j+1) b (o+k) h.2.2;exact⟨by simp only[RF];exact⟨h.2.1,h1⟩,fun y hy=>by rcases Jl.1 hy with rfl|hy;exact h.1.2;exact h2 y hy⟩
section
variable {G:Gh}{w:World}{G':Gh}{w':World}{s s':Nat}
mutual
theorem zFl:(t:T)→ ∀(p p':List Nat)(b o:Nat),(∀z,G'.hd s' (z++p')=G.hd s (z++p))→(∀z,G'.ad s' (z++p')=G.ad s (z++p))→
  (∀b o z,G.lb b o=aB (aE,s,z++p)→G'.lb b o=aB (aE,s',z++p')∧zV w' b o=zV w b o)→Loc G w s t p b o→Loc G' w' s' t p' b o
 |.agg xs,p,p',b,o,hh,ha,hl,h=>by
  simp only[Loc]at h ⊢
  exact⟨by have:=ha [];simp at this;rw[this];exact h.1,zG6 xs p p' 0 b o hh ha hl h.2⟩
 |.any,p,p',b,o,hh,ha,hl,h|.lit _,p,p',b,o,hh,ha,hl,h|.ro _,p,p',b,o,hh,ha,hl,h|.same _ _,p,p',b,o,hh,ha,hl,h|.addr _ _,p,p',b,o,hh,ha,hl,h|.sub _ _ _ _ _,p,p',b,o,hh,ha,hl,h|.sl _ _,p,p',b,o,hh,ha,hl,h|.ptr _,p,p',b,o,hh,ha,hl,h=>by
  simp only[Loc]at h ⊢
  have h1:=hl b o [] (by simpa using h.2.1);have h2:=ha [];have h3:=hh [];simp only[Js]at h1 h2 h3;exact⟨h2.trans h.1,h1.1,by rw[h1.2,h.2.2,h3]⟩
 |.tup _,_,_,_,_,_,_,_,h=>by simp only[Loc]at h
theorem zG6:(xs:List T)→ ∀(p p':List Nat)(j b o:Nat),(∀z,G'.hd s' (z++p')=G.hd s (z++p))→(∀z,G'.ad s' (z++p')=G.ad s (z++p))→
  (∀b o z,G.lb b o=aB (aE,s,z++p)→G'.lb b o=aB (aE,s',z++p')∧zV w' b o=zV w b o)→wD G w s xs p j b o→wD G' w' s' xs p' j b o
 | [],_,_,_,_,_,_,_,_,_=>by simp only[wD]
 |x::xs,p,p',j,b,o,hh,ha,hl,h=>by
  simp only[wD]at h ⊢
  exact⟨zFl x (j::p) (j::p') b o (fun z=>by have:=hh (z++[j]);simpa using this) (fun z=>by have:=ha (z++[j]);simpa using this) (fun b o z hz=>by have:=hl b o (z++[j]) (by simpa using hz);simpa using this) h.1,
   zG6 xs p p' (j+1) b _ hh ha hl h.2⟩
end
end
theorem zDl(G:Gh)(s:Nat):∀(xs us:List T)(p:List Nat)(j:Nat),zR G s (xs++us) p j=zR G s xs p j++zR G s us p (j+xs.length)
 | [],us,p,j=>by simp[zR]
 |x::xs,us,p,j=>by simp[zR,zDl G s xs us p (j+1),Lf,Q0 1]
theorem zDm:∀(xs us:List T),T.sizes (xs++us)=T.sizes xs+T.sizes us
 | [],us=>by simp[T.sizes]
 |x::xs,us=>by simp[T.sizes,zDm xs us,Lf]
theorem zC6:∀(xs us:List T),zW xs=aD→zW us=aD→zW (xs++us)=aD
 | [],us,_,h=>h
 |x::xs,us,h,h'=>by
  simp only[zW,J3,Hn]at h ⊢
  exact⟨h.1,zC6 xs us h.2 h'⟩
theorem zC7:∀(xs us:List T),yI xs→yI us→yI (xs++us)
 | [],us,_,h=>h
 |x::xs,us,h,h'=>by
  simp only[yI,yP,Hn]at h ⊢
  exact⟨h.1,zC7 xs us h.2 h'⟩
theorem jU{St:Stb}{G:Gh}{w:World}{s:Nat}{k:Nat}:(xs:List T)→ ∀(p:List Nat)(j b o:Nat),wD G w s xs p j b o→zW xs=aD
 | [],_,_,_,_,_=>rfl
 |x::xs,p,j,b,o,h=>by simp only[wD]at h;simp only[zW,J3];exact⟨one x (j::p) b o h.1,jU (St:=St) (k:=k) xs p (j+1) b _ h.2⟩
where
 one:(t:T)→ ∀(p:List Nat)(b o:Nat),Loc G w s t p b o→t.okTup=aD
  |.agg xs,p,b,o,h=>by simp only[Loc]at h;simp only[T.okTup];exact jU (St:=St) (k:=k) xs p 0 b o h.2
  |.tup _,_,_,_,h=>by simp only[Loc]at h
  |.any,_,_,_,_|.lit _,_,_,_,_|.ro _,_,_,_,_|.same _ _,_,_,_,_|.addr _ _,_,_,_,_|.sub _ _ _ _ _,_,_,_,_|.sl _ _,_,_,_,_|.ptr _,_,_,_,_=>rfl
section
variable {P:Program}
structure zFm (P:Program) (t2:TypeId) (e:TypeId) (ti:TypeInfo) (xv:Value) (m:Nat) (nv:List Value) (w:World):Prop where
 arg:(∃e2 xa c,P.underlying t2=aB (.slice e2)∧xv=.slice xa m c∧ ∀w2:World,w2.heap=w.heap→(Builtin.firstCells ti.size m (.slice xa m c)).run P w2=.ok nv.toArray w2)∨
  ∃k2 k3 z,P.underlying t2=aB (.int k2)∧xv=.int k3 (m:Int)∧ti.zero=aB z∧nv.toArray=Builtin.zeroCells z.cells m∧m*ti.bytes≤2 ^ 47∧z.cells.size=ti.size
theorem zDn{t t2 ty e:TypeId}{ti:TypeInfo}{xv:Value}{m:Nat}{nv:List Value}{w w':World}(ht:P.underlying t=aB (.slice e))(hi:P.info? e=aB ti)
  (hx:zFm P t2 e ti xv m nv w)(hm:m≤68719476736){base:Option Addr}{n cap:Nat}(gM:n+m≤cap)
  (gG:(if let aB a:=base then storeCells (a.add (n*ti.size)) nv else pure ():Sem Unit).run P w=.ok () w'):
  (Builtin.append_ #[t,t2] ty #[.slice base n cap,xv]).run P w=.ok (.slice base (n+m) cap) w':=by
 rcases hx.arg with⟨e2,xa,c,h1,rfl,h2⟩|⟨k2,k3,z,h1,rfl,h2,h3,h4,h5⟩
 ·have h2:=h2 w rfl
  cases base with
  |none=>
   simp at gG;subst gG;simp[Builtin.append_,run_underlying ht,run_underlying h1,sizeOf,typeInfo,hi,Builtin.lenOf,gM,h2]
  |some a=>
   simp only at gG;simp[Builtin.append_,run_underlying ht,run_underlying h1,sizeOf,typeInfo,hi,Builtin.lenOf,gM,h2,gG]
 ·have cN:IntKind.i64.wrap (m:Int)=m:=by rw[IntKind.wrap_i64];omega
  have pJ:¬(281474976710656<(m:Int)*(ti.bytes:Int)):=by
   have:((m*ti.bytes:Nat):Int)≤2 ^ 47:=by exact_mod_cast h4
   rw[Qd]at this;omega
  have eP:¬((m:Int)<0):=by omega
  have pU:nv=(Builtin.zeroCells z.cells m).toList:=by rw[←h3]
  by_cases hz:m*ti.size=0
  ·have pe:nv=[]:=by
    apply Jr;rw[pU];simp[Builtin.zeroCells,h5,hz]
   subst pe;cases base with
   |none=>
    simp at gG;subst gG;simp[Builtin.append_,run_underlying ht,run_underlying h1,sizeOf,typeInfo,hi,asInt,asIntOf,cN,pJ,eP,gM,hz]
   |some a=>
    simp only[storeCells,Sem.run_pure]at gG;cases gG;simp[Builtin.append_,run_underlying ht,run_underlying h1,sizeOf,typeInfo,hi,asInt,asIntOf,cN,pJ,eP,gM,hz,storeCells]
  ·cases base with
   |none=>
    simp at gG;subst gG;simp[Builtin.append_,run_underlying ht,run_underlying h1,sizeOf,typeInfo,zeroValue,hi,h2,asInt,asIntOf,cN,pJ,eP,gM]
   |some a=>
    simp only[pU]at gG;simp[Builtin.append_,run_underlying ht,run_underlying h1,sizeOf,typeInfo,zeroValue,hi,h2,asInt,asIntOf,cN,pJ,eP,gM,hz,gG]
theorem zHp{t t2 ty e:TypeId}{ti:TypeInfo}{z xv:Value}{m:Nat}{nv olds:List Value}{w:World}(ht:P.underlying t=aB (.slice e))(hi:P.info? e=aB ti)(hz:ti.zero=aB z)
  (hx:zFm P t2 e ti xv m nv w){base:Option Addr}{n cap:Nat}(gR:cap<n+m)(fh:n+m≤68719476736)(hb:ti.bytes≤2048)
  (gy:∀w2:World,w2.heap=w.heap→(Builtin.firstCells ti.size n (.slice base n cap)).run P w2=.ok olds.toArray w2):
  (Builtin.append_ #[t,t2] ty #[.slice base n cap,xv]).run P w=.ok (.slice (aB ⟨w.heap.size,0,aC⟩) (n+m) (grownCap w (n+m) cap e))
    (w.drew.alloc (.cells ((olds++nv).toArray++Builtin.zeroCells z.cells (grownCap w (n+m) cap e-(n+m))) e)):=by
 have hn:¬(n+m≤cap):=by omega
 have pH:¬(9223372036854775807<((n:Int)+(m:Int))):=by omega
 have ag:=growslice_fits (need:=n+m) (old:=cap) (bytes:=ti.bytes) gR (H0 (Gv fh hb) (by decide));have pI:¬(281474976710656<Builtin.nextslicecap (n+m) cap*ti.bytes):=by omega
 have ho:=gy w.drew rfl;rcases hx.arg with⟨e2,xa,c,h1,rfl,h2⟩|⟨k2,k3,z',h1,rfl,h2,h3,h4,h5⟩
 ·have h2:=h2 w.drew rfl
  simp[Builtin.append_,run_underlying ht,run_underlying h1,sizeOf,typeInfo,zeroValue,hi,hz,Builtin.lenOf,hn,pH,pI,Question.forced,h2,ho,newRow,grownCap]
  congr 2
  apply Qn;simp
 ·have cN:IntKind.i64.wrap (m:Int)=m:=by rw[IntKind.wrap_i64];omega
  have pJ:¬(281474976710656<(m:Int)*(ti.bytes:Int)):=by
   have:((m*ti.bytes:Nat):Int)≤2 ^ 47:=by exact_mod_cast h4
   rw[Qd]at this;omega
  have eP:¬((m:Int)<0):=by omega
  have pU:nv=(Builtin.zeroCells z'.cells m).toList:=by rw[←h3]
  rw[hz]at h2;simp at h2;subst h2
  by_cases pK:m*ti.size=0
  ·have pe:nv=[]:=by
    apply Jr;rw[pU];simp[Builtin.zeroCells,h5,pK]
   subst pe;simp[Builtin.append_,run_underlying ht,run_underlying h1,sizeOf,typeInfo,zeroValue,hi,hz,asInt,asIntOf,cN,pJ,eP,hn,pH,pI,Question.forced,pK,ho,newRow,grownCap]
  ·simp[Builtin.append_,run_underlying ht,run_underlying h1,sizeOf,typeInfo,zeroValue,hi,hz,asInt,asIntOf,cN,pJ,eP,hn,pH,pI,Question.forced,pK,ho,newRow,grownCap,←h3]
   congr 2
   apply Qn;simp
end
def zCO(s0:Nat)(y:Option Nat)(n:Nat)(s:Nat)(z:List Nat):Option (List Nat):=
 if s=s0 then aB z else if y=aB s then(match z.getLast? with
  |some j=>aB (z.dropLast++[n+j])
  |none=>aC)else aC
def Gh.ip(G:Gh)(d s0:Nat)(y:Option Nat)(b n k oa:Nat)(us:List T)(f2:Nat→List Nat→Value)(gS:Value):Gh where
 hd s z:=if s=d then(match z.getLast? with
  |some i=>if i<n then G.hd s0 z else f2 (i-n) z.dropLast
  |none=>gS)else G.hd s z
 ad s z:=if s=d then(match z.getLast? with
  |some i=>if i<n then G.ad s0 z else if(T.agg us).inT ((i-n)::z.dropLast.reverse)then⟨b,oa+(T.agg us).offT ((i-n)::z.dropLast.reverse),aC⟩else(match y with
   |some y=>G.ad y (z.dropLast++[i-n])
   |none=>default)
  |none=>default)else G.ad s z
 lb b' o:=if b'=b∧oa≤o∧o<oa+us.length*k then(match zBC us [] n (o-oa)with
  |some p=>aB (aE,d,p)
  |none=>aC)else match G.lb b' o with
  |some (fl,s,z)=>(match zCO s0 y n s z with
   |some z'=>aB (fl,d,z')
   |none=>aB (fl,s,z))
  |none=>aC
 ow b':=match G.ow b' with
  |some (s,z)=>(match zCO s0 y n s z with
   |some z'=>aB (d,z')
   |none=>aB (s,z))
  |none=>aC
def aWr(d s0:Nat)(y:Option Nat)(k:Nat)(ts:List T):Wr:=(d,aB (.sl k ts))::(s0,aB .any)::(match y with
 |some y=>[(y,aB .any)]
 |none=>[])
def zA2(d s0:Nat)(y:Option Nat):Chg:=(d,0)::(s0,1)::(match y with
 |some y=>[(y,1)]
 |none=>[])
structure zFn (Γ:Ctx) (E:Env) (G:Gh) (d s0:Nat) (y:Option Nat) (k n:Nat) (us:List T) (f2:Nat→List Nat→Value) (nv:List Value):Prop where
 size:∀u∈us,u.size=k
 tup:zW us=aD
 clean:yI us
 one:∀j z,(f2 j z).oneCell'=aD
 len:nv.length=us.length*k
 slot:∀y',y=aB y'→y'≠d∧y'≠s0∧E y'=aB (.sl k us)∧ ∀j z,f2 j z=G.hd y' (z++[j])
 none:y=aC→ ∀(j:Nat) u,us[j]? =aB u→ ∀(G2:Gh)(w2:World),(∀z,G2.hd d (z++[n+j])=f2 j z)→R Γ.St G2 w2 d u [n+j]
 vals:∀(G2:Gh),(∀j z,G2.hd d (z++[n+j])=f2 j z)→ ∀(o:Nat)(v:Value),(zR G2 d us [] n)[o]? =aB v→nv[o]? =aB v
theorem zIm{G G2:Gh}{s d:Nat}:(xs:List T)→ ∀(p:List Nat)(j:Nat),(∀i,i<xs.length→ ∀z,G2.hd d (z++((j+i)::p))=G.hd s (z++((j+i)::p)))→zR G2 d xs p j=zR G s xs p j
 | [],_,_,_=>by simp only[zR]
 |x::xs,p,j,h=>by
  simp only[zR];have ih:zR G2 d xs p (j+1)=zR G s xs p (j+1):=zIm xs p (j+1) (fun i hi z=>by rw[show j+1+i=j+(i+1)from by omega];exact h (i+1) (by simpa using hi) z)
  rw[zA8 x (j::p) (j::p) (by simpa using h 0 (by simp)),ih]
theorem zGn(z:List Nat):z=[]∨ ∃y i,z=y++[i]:=by
 rcases List.eq_nil_or_concat z with h|⟨y,i,h⟩
 ·exact .inl h
 ·exact .inr ⟨y,i,by simpa using h⟩
section
variable {P:Program}{Γ:Ctx}{E:Env}{d:Nat}
theorem zBh{G:Gh}{a:Act}{w:World}(ga:Rep Γ E G a.tmps w)(hd:d<Γ.N){t t2 ty e:TypeId}{ti:TypeInfo}{z:Value}{k:Nat}(ht:P.underlying t=aB (.slice e))(hi:P.info? e=aB ti)(hz:ti.zero=aB z)
  (hk:ti.size=k)(_hk0:0<k)(eK:z.cells.size=k)(hb:ti.bytes≤2048){s0:Nat}{y:Option Nat}{xs us:List T}{f2:Nat→List Nat→Value}{nv:List Value}(ef:E s0=aB (.sl k xs))(ey:s0≠d)
  (hn:zFn Γ E G d s0 y k xs.length us f2 nv){xv:Value}(hx:zFm P t2 e ti xv us.length nv w)(gk:∀v∈nv,v.oneCell'=aD)(fh:xs.length+us.length≤68719476736):
  ∃v w',(Builtin.append_ #[t,t2] ty #[G.hd s0 [],xv]).run P w=.ok v w'∧ ∃G',Rep Γ (E.app (aWr d s0 y k (xs++us)) (zA2 d s0 y)) G' (a.tmps.setIfInBounds d v) w':=by
 have hm:=ga.mem;obtain⟨e1,e2,e3⟩:=ga.ent s0 _ ef;simp only[Top]at e3;simp only[R]at e2;have cV:T.sizes us=us.length*k:=xP us hn.size;have fin:∀(G':Gh)(w':World)(v:Value),kE (zA2 d s0 y) G w G' w'→Mem Γ G' w'→G'.hd d []=v→R Γ.St G' w' d (.sl k (xs++us)) []→(∀s p,s≠d→G'.hd s p=G.hd s p)→
   Rep Γ (E.app (aWr d s0 y k (xs++us)) (zA2 d s0 y)) G' (a.tmps.setIfInBounds d v) w':=by
  intro G' w' v gn gw hdv mX hother;refine vK ga (by simp) gn gw ?_ ?_
  ·intro s hs
   have gf:s≠d:=by rintro rfl;simp[aWr,Wr.find]at hs
   have fd:s≠s0:=by rintro rfl;simp[aWr,Wr.find,gf.symm]at hs
   have tj:∀y',y=aB y'→s≠y':=by
    rintro y' rfl rfl
    simp[aWr,Wr.find,gf.symm,fd.symm]at hs
   refine⟨fun n' hn'=>?_,by rw[J8];simp[gf.symm]⟩;simp only[zA2,Jl,Uq.injEq]at hn';rcases hn' with⟨h1,_⟩|⟨h1,_⟩|hn'
   ·exact gf h1
   ·exact fd h1
   ·cases y with
    |none=>simp at hn'
    |some y'=>simp at hn';exact tj y' rfl hn'.1
  ·intro s t' hs
   by_cases h1:s=d
   ·subst h1
    simp[aWr,Wr.find]at hs;subst hs;refine⟨?_,mX,by simp only[Top];exact zC7 xs us e3 hn.clean⟩;rw[J8];simp[ga.size,hd,mkV,hdv]
   ·have h3:t'=.any∧(s=s0∨y=aB s):=by
     simp only[aWr,Wr.find]at hs;rw[if_neg (fun h=>h1 h.symm)]at hs;split at hs
     ·rename_i h2;simp at hs;exact⟨hs.symm,.inl h2.symm⟩
     ·cases y with
      |none=>simp[Wr.find]at hs
      |some y'=>
       simp only[Wr.find]at hs;split at hs
       ·rename_i h2;simp at hs;exact⟨hs.symm,.inr (by rw[h2])⟩
       ·cases hs
    obtain⟨rfl,h3⟩:=h3;refine⟨?_,by simp only[R],by simp[Top]⟩;rw[J8];simp only[Ne.symm h1,if_false,mkV];rw[hother s [] h1];rcases h3 with rfl|h3
    ·exact e1
    ·obtain⟨_,_,h4,_⟩:=hn.slot s h3
     exact(ga.ent s _ h4).1
 have fx:∀s p,(∀n',(s,n')∉zA2 d s0 y)→zCO s0 y xs.length s p=aC:=by
  intro s p h;have h1:s≠s0:=fun e=>h 1 (by simp[zA2,e])
  have h2:y≠aB s:=fun e=>h 1 (by simp[zA2,e])
  simp[zCO,h1,h2]
 by_cases gM:∃a' c,G.hd s0 []=.slice a' xs.length c∧xs.length+us.length≤c
 ·
  obtain⟨a',c,hh,gM⟩:=gM;rcases e2 with⟨rfl,a1,h1⟩|⟨b,o0,cap,cs,et,h1,h2,h3,h4,h5,h6,h7,h8⟩
  ·rw[h1]at hh
   simp at hh;obtain⟨rfl,rfl⟩:=hh;have eJ:us=[]:=Jr (by simp only[Hi]at gM;omega);subst eJ;have pU:nv=[]:=Jr (by have:=hn.len;simp at this;simp[this]);subst pU;have gp:=zDn (P:=P) (t:=t) (ty:=ty) (w':=w) ht hi hx (by simp) (base:=a1) (n:=0) (cap:=0) (by simp) (by cases a1<;>rfl);refine⟨.slice a1 0 0,w,by rw[h1];exact gp,G.put d (fun _=>.slice a1 0 0),fin _ w _ ?_ (hm.put rfl d _ (fun _=>rfl)) (by rw[Gh.put_self]) (by simp[R,Gh.put]) (fun s p h=>G.put_other _ p h)⟩;have:=G.put_keep (w:=w) (w':=w) rfl d (fun _=>.slice a1 0 0);exact⟨fun s p h=>this.hd s p (fun n hn=>h n (by simp at hn;simp[zA2,hn])),fun s p h=>this.ad s p (fun n hn=>h n (by simp at hn;simp[zA2,hn])),fun b o f s p h0 h1 h2=>this.lb b o f s p h0 h1 (fun n hn=>h2 n (by simp at hn;simp[zA2,hn])),fun b s p h1 h2=>this.ow b s p h1 (fun n hn=>h2 n (by simp at hn;simp[zA2,hn])),this.blk⟩
  ·rw[h1]at hh
   simp at hh;obtain⟨rfl,rfl⟩:=hh;have hmk0:us.length*k+xs.length*k≤cap*k:=by rw[←Hu];exact Ke _ (by omega)
   have te:∀o,o0+(xs.length*k+us.length*k)≤o→o0+xs.length*k≤o:=fun o h=>by omega
   generalize hoa:o0+xs.length*k=oa at h7 te
   have hmk':oa+us.length*k≤o0+cap*k:=by omega
   have hmk:us.length*k+oa≤cs.size:=by omega
   generalize hw':w.setRow b (cs.toList.take (oa)++nv++cs.toList.drop (oa+nv.length)).toArray=w'
   have hH:w'.heap[b]? =aB (.cells (cs.toList.take (oa)++nv++cs.toList.drop (oa+nv.length)).toArray et (0,0)):=by rw[←hw'];exact setRow_heap w b cs _ et _ h2
   have gy:∀b',b'≠b→w'.heap[b']? =w.heap[b']?:=fun b' h=>by rw[←hw'];exact setRow_other w b b' _ h
   have gI:w'.heap.size=w.heap.size:=by rw[←hw'];exact size_setRow w b _
   have hcsl:cs.toList.length=cs.size:=Jy ..;have fC:=hn.len;have ei:∀i,zV w' b i=if oa≤i∧i<oa+us.length*k then nv[i-oa]? else zV w b i:=by
    intro i;simp only[zV,World.cell?,hH,h2,Uc,Ls,if_false];rw[←K5,←K5 (xs:=cs)];simp only[]
    by_cases g1:i<oa
    ·rw[if_neg (by omega),Je,Jz (by simp;omega),Gz g1]
    ·by_cases g2:i<oa+us.length*k
     ·rw[if_pos ⟨by omega,g2⟩,Je,Ja (by simp;omega),Jz (by simp;omega)]
      congr 1;simp;omega
     ·rw[if_neg (by omega),Je,Ja (by simp;omega),Ja (by simp;omega),Kw]
      congr 1;simp;omega
   have gF:∀b' o fl s p,G.lb b' o=aB (fl,s,p)→(fl,s,p)≠(aD,s0,[])→ ¬(b'=b∧oa≤o∧o<oa+us.length*k):=by
    rintro b' o fl s p g1 g2 ⟨rfl,g3,g4⟩
    rw[h7 o g3 (by omega)]at g1;simp at g1;exact g2 (by simp[←g1.1,←g1.2.1,←g1.2.2])
   have ev:∀b' o,¬(b'=b∧oa≤o∧o<oa+us.length*k)→zV w' b' o=zV w b' o:=by
    intro b' o g
    by_cases ej:b'=b
    ·subst ej
     rw[ei,if_neg (fun g2=>g ⟨rfl,g2⟩)]
    ·simp[zV,World.cell?,gy b' ej]
   have fD:((cs.toList.take (oa)++nv++cs.toList.drop (oa+nv.length)).toArray).size=cs.size:=by simp;omega
   have ee:Blk w w':=by
    intro b' cs' e' g1
    by_cases ej:b'=b
    ·subst ej
     rw[h2]at g1;simp at g1;obtain⟨rfl,rfl⟩:=g1;exact⟨_,hH,fD⟩
    ·exact⟨cs',by rw[gy b' ej];exact g1,rfl⟩
   generalize gj:G.ip d s0 y b xs.length k oa us f2 (.slice (aB ⟨b,o0,aC⟩) (xs.length+us.length) cap)=G'
   have ghdr:G'.hd d []=.slice (aB ⟨b,o0,aC⟩) (xs.length+us.length) cap:=by rw[←gj];simp[Gh.ip]
   have ghd1:∀i z,i<xs.length→G'.hd d (z++[i])=G.hd s0 (z++[i]):=fun i z g=>by rw[←gj];simp[Gh.ip,g]
   have ghd2:∀j z,G'.hd d (z++[xs.length+j])=f2 j z:=fun j z=>by rw[←gj];simp[Gh.ip,show¬xs.length+j<xs.length from by omega]
   have ghd0:∀s z,s≠d→G'.hd s z=G.hd s z:=fun s z g=>by rw[←gj];simp[Gh.ip,g]
   have gad0:∀s z,s≠d→G'.ad s z=G.ad s z:=fun s z g=>by rw[←gj];simp[Gh.ip,g]
   have gad1:∀i z,i<xs.length→G'.ad d (z++[i])=G.ad s0 (z++[i]):=fun i z g=>by rw[←gj];simp[Gh.ip,g]
   have gad2:∀j f,(T.agg us).inT (j::f)=aD→G'.ad d (f.reverse++[xs.length+j])=⟨b,oa+(T.agg us).offT (j::f),aC⟩:=fun j f g=>by rw[←gj];simp[Gh.ip,g,show¬xs.length+j<xs.length from by omega]
   have gad3:∀y' j z,y=aB y'→(T.agg us).inT (j::z.reverse)=aE→G'.ad d (z++[xs.length+j])=G.ad y' (z++[j]):=fun y' j z g1 g2=>by rw[←gj];simp[Gh.ip,g1,g2,show¬xs.length+j<xs.length from by omega]
   have glb2:∀i p,i<us.length*k→zBC us [] xs.length i=aB p→G'.lb b (oa+i)=aB (aE,d,p):=fun i p g1 g2=>by rw[←gj];simp only[Gh.ip];rw[if_pos (by simp;omega),show oa+i-oa=i from by omega,g2]
   have glb0:∀b' o fl s p,G.lb b' o=aB (fl,s,p)→ ¬(b'=b∧oa≤o∧o<oa+us.length*k)→zCO s0 y xs.length s p=aC→G'.lb b' o=aB (fl,s,p):=fun b' o fl s p g1 g2 g3=>by rw[←gj];simp only[Gh.ip];rw[if_neg g2,g1];simp[g3]
   have glb1:∀b' o fl s p p',G.lb b' o=aB (fl,s,p)→ ¬(b'=b∧oa≤o∧o<oa+us.length*k)→zCO s0 y xs.length s p=aB p'→G'.lb b' o=aB (fl,d,p'):=fun b' o fl s p p' g1 g2 g3=>by rw[←gj];simp only[Gh.ip];rw[if_neg g2,g1];simp[g3]
   have gow0:∀b' s p,G.ow b'=aB (s,p)→zCO s0 y xs.length s p=aC→G'.ow b'=aB (s,p):=fun b' s p g1 g2=>by rw[←gj];simp[Gh.ip,g1,g2]
   have gow1:∀b' s p p',G.ow b'=aB (s,p)→zCO s0 y xs.length s p=aB p'→G'.ow b'=aB (d,p'):=fun b' s p p' g1 g2=>by rw[←gj];simp[Gh.ip,g1,g2]
   have eD:∀p,zCO s0 y xs.length s0 p=aB p:=fun p=>by simp[zCO]
   have cx:∀y' z j,y=aB y'→y'≠s0→zCO s0 y xs.length y' (z++[j])=aB (z++[xs.length+j]):=fun y' z j g1 g2=>by simp[zCO,g1,g2]
   have gf:∀s p,Off (zA2 d s0 y) s p→s≠d:=fun s p h e=>absurd (h 0 (by simp[zA2,e])) (by simp)
   have gn:kE (zA2 d s0 y) G w G' w':=by
    refine⟨fun s p h=>ghd0 s p (gf s p h),fun s p h=>gad0 s p (gf s p h),fun b' o fl s p _ g1 g2=>?_,fun b' s p g1 g2=>gow0 b' s p g1 (fx s p g2),ee⟩;have hs:s≠s0:=fun e=>g2 1 (by simp[zA2,e])
    have g3:=gF b' o fl s p g1 (by simp[hs]);exact⟨glb0 b' o fl s p g1 g3 (fx s p g2),ev b' o g3⟩
   have pZ:=hm.ow b _ h6;have gw:Mem Γ G' w':=by
    refine⟨fun s z=>?_,fun b' o' l hl=>?_,fun b' l hl=>?_,fun b' x' hG=>?_,fun b' g1 g2=>?_,by rw[gI];exact hm.sz,hm.bk.trans ee (by rw[←hw'];rfl) (by rw[←hw'];rfl)⟩
    ·by_cases g:s=d
     ·subst g
      rcases zGn z with rfl|⟨z',i,rfl⟩
      ·rw[ghdr];rfl
      ·by_cases g1:i<xs.length
       ·rw[ghd1 i z' g1];exact hm.one _ _
       ·have:=ghd2 (i-xs.length) z'
        rw[show xs.length+(i-xs.length)=i from by omega]at this;rw[this];exact hn.one _ _
     ·rw[ghd0 s z g];exact hm.one _ _
    ·have:zBB Γ w b':=by
      rw[←gj]at hl;simp only[Gh.ip]at hl;split at hl
      ·rename_i g;rw[g.1];exact pZ
      ·split at hl
       ·rename_i g;exact hm.lb _ _ _ g
       ·cases hl
     exact⟨by rw[gI];exact this.1,this.2⟩
    ·have:zBB Γ w b':=by
      rw[←gj]at hl;simp only[Gh.ip]at hl;split at hl
      ·rename_i g;exact hm.ow _ _ g
      ·cases hl
     exact⟨by rw[gI];exact this.1,this.2⟩
    ·have ej:b'≠b:=by rintro rfl;rw[pZ.2.2]at hG;cases hG
     rw[gy b' ej];exact hm.st b' x' hG
    ·have ej:b'≠b:=by
      rintro rfl
      rcases pZ.2.1 with g3|g3
      ·omega
      ·exact g2 g3
     rw[gy b' ej];exact hm.fr b' g1 g2
   have pj:wD G' w' d us [] xs.length b (oa):=by
    refine zEJ us [] xs.length b (oa) hn.tup (fun i x hG f hf=>?_) (fun i p' g1 g2=>glb2 i p' (by omega) g2) (fun i v hv=>?_)
    ·have:=gad2 i f (by simp only[T.inT,hG];exact hf)
     simpa[T.offT,hG]using this
    ·have g1:=hn.vals G' ghd2 i v hv
     have g2:=(Jc.1 g1).1;rw[ei,if_pos ⟨by omega,by omega⟩,show oa+i-oa=i from by omega];exact g1
   have mX:R Γ.St G' w' d (.sl k (xs++us)) []:=by
    simp only[R];rw[ghdr];refine .inr ⟨b,o0,cap,_,et,by simp,hH,by simp;omega,h4,by rw[fD];exact h5,gow1 b s0 [] [] h6 (eD []),?_,zHo _ _ _ _ _ (fun i x hG=>?_)⟩
    ·intro o g1 g2
     rw[Jb,Hu]at g1;exact glb1 b o aD s0 [] [] (h7 o (by omega) g2) (by omega) (eD [])
    ·rw[K4]at hG
     simp only[J7];split at hG
     ·rename_i gP
      obtain⟨g1,g2,g3⟩:=qG xs [] 0 b o0 k i x h8 hG;simp only[J7]at g1 g3;have pW:∀b' o fl z,G.lb b' o=aB (fl,s0,z++[i])→G'.lb b' o=aB (fl,d,z++[i])∧zV w' b' o=zV w b' o:=fun b' o fl z g=>by have g4:=gF b' o fl s0 _ g (by simp);exact⟨glb1 b' o fl s0 _ _ g g4 (eD _),ev b' o g4⟩
      refine⟨zFl x [i] [i] b _ (fun z=>ghd1 i z gP) (fun z=>gad1 i z gP) (fun b' o z g=>pW b' o aE z g) g1,g2,?_⟩;refine zAc (G:=G) (w:=w) (s:=s0) (p:=[i]) ⟨⟨fun z=>ghd1 i z gP,fun z _=>gad1 i z gP,fun b' o f z _ _ g=>pW b' o f z g,fun b' z _ g=>gow1 b' s0 _ _ g (eD _),ee⟩,fun b' o _ g=>?_,fun b' g=>gow1 b' s0 _ _ g (eD _)⟩ x (yF.mono (fun _ _=>False.elim) x (vH xs e3 i x hG)) g3;have:=pW b' o aD [] (by simpa using g);simpa using this
     ·rename_i hge
      obtain⟨j,rfl⟩:∃j,i=xs.length+j:=⟨i-xs.length,by omega⟩;rw[show xs.length+j-xs.length=j from by omega]at hG;have g1:=zDi us [] xs.length b (oa) j x pj hG;rw[show T.sizes (us.take j)=j*k from by rw[xP _ (fun u hu=>hn.size u (List.mem_of_mem_take hu)),K7,Qs (by have:=(Jc.1 hG).1;omega)],show oa+j*k=o0+(xs.length+j)*k from by rw[Hu];omega]at g1
      refine⟨g1,hn.size x (Kx hG),?_⟩;cases hy:y with
      |none=>exact hn.none hy j x hG G' w' (fun z=>ghd2 j z)
      |some y'=>
       obtain⟨y1,y2,y3,y4⟩:=hn.slot y' hy;obtain⟨_,y5,_⟩:=ga.ent y' _ y3;simp only[R]at y5;rcases y5 with⟨rfl,_⟩|⟨b2,o2,cap2,cs2,et2,_,_,_,_,_,_,_,y6⟩
       ·simp at hG
       ·obtain⟨_,_,y7⟩:=qG us [] 0 b2 o2 k j x y6 hG
        simp only[J7]at y7;refine zIf x [j] [xs.length+j] (zCf.okTups_get us hn.tup j x hG) ⟨fun z=>by rw[ghd2,y4],fun z g=>gad3 y' j z hy (by simp only[T.inT,hG];exact g),fun b' o fl z _ g=>?_,fun b' z g=>gow1 b' y' _ _ g (cx y' z j hy y2),ee⟩ (yF.mono (fun _ _=>False.elim) x (vH us hn.clean j x hG)) y7;have g4:=gF b' o fl y' _ g (by simp[y2]);exact⟨glb1 b' o fl y' _ _ g g4 (cx y' z j hy y2),ev b' o g4⟩
   have gG:=run_storeCells_at P b (oa) et nv 0 cs w h2 (by omega) gk;simp only[Uz]at gG;rw[hw']at gG;have gp:=zDn (P:=P) (t:=t) (ty:=ty) (w':=w') ht hi hx (by omega) (base:=aB ⟨b,o0,aC⟩) gM (by simp only[hk,wZ,hoa];exact gG);refine⟨_,w',by rw[h1];exact gp,G',fin G' w' _ gn gw ghdr mX ghd0⟩
 ·
  have mV:∃a' c,G.hd s0 []=.slice a' xs.length c∧ ∀w2:World,w2.heap=w.heap→(Builtin.firstCells ti.size xs.length (.slice a' xs.length c)).run P w2=.ok (zR G s0 xs [] 0).toArray w2:=by
   rcases e2 with⟨rfl,a1,h1⟩|⟨b,o0,cap,cs,et,h1,h2,h3,h4,h5,h6,h7,h8⟩
   ·exact⟨a1,0,h1,fun w2 _=>by cases a1<;>simp[Builtin.firstCells,loadCells,loadCellsFrom,zR]⟩
   ·refine⟨_,_,h1,fun w2 mf=>?_⟩
    have hl:=qM xs [] 0 b o0 h8;refine run_firstCells_some (P:=P) w2 ti.size xs.length ⟨b,o0,aC⟩ _ _ _ ?_ (fun j v hv=>?_)
    ·rw[xJ,hk]
     exact xP xs (zAT xs [] 0 b o0 h8).2
    ·have:=zAk xs [] 0 b o0 hl j v hv
     rw[wZ];simp only[zV]at this;simpa[World.cell?,mf]using this
  obtain⟨a',c,hh,gy⟩:=mV;have ew:zW xs=aD∧(∀x∈xs,x.size=k)∧ ∀i x,xs[i]? =aB x→R Γ.St G w s0 x [i]:=by
   rcases e2 with⟨rfl,a1,h1⟩|⟨b,o0,cap,cs,et,h1,h2,h3,h4,h5,h6,h7,h8⟩
   ·simp[zW]
   ·refine⟨jU (St:=Γ.St) (k:=k) xs [] 0 b o0 (qM xs [] 0 b o0 h8),(zAT xs [] 0 b o0 h8).2,fun i x hG=>?_⟩
    have:=(qG xs [] 0 b o0 k i x h8 hG).2.2;simpa using this
  have gR:c<xs.length+us.length:=by
   rcases K2 c (xs.length+us.length)with g|g
   ·exact g
   ·exact absurd ⟨a',c,hh,g⟩ gM
  have gp:=zHp (P:=P) (t:=t) (ty:=ty) ht hi hz hx gR fh hb gy;have hge:=grownCap_ge w (xs.length+us.length) c e;have bt:=grownCap_le_maxLen w (xs.length+us.length) c e (by simp only[maxLen];omega)
  generalize grownCap w (xs.length+us.length) c e=cap' at gp hge bt
  generalize hw':w.drew.alloc (.cells ((zR G s0 xs [] 0++nv).toArray++Builtin.zeroCells z.cells (cap'-(xs.length+us.length))) e)=w' at gp
  have hwh:w'.heap=w.heap.push (.cells ((zR G s0 xs [] 0++nv).toArray++Builtin.zeroCells z.cells (cap'-(xs.length+us.length))) e):=by rw[←hw'];rfl
  have ck:T.sizes xs=xs.length*k:=xP xs ew.2.1;obtain⟨g1,g2,g3,g4,g5⟩:=zCf hm hwh d (xs++us) (fun i=>if i<xs.length then aB (s0,[i])else y.map fun y'=>(y',[i-xs.length])) (zCO s0 y xs.length) (fun i z=>if i<xs.length then G.hd s0 (z++[i])else f2 (i-xs.length) z) (.slice (aB ⟨w.heap.size,0,aC⟩) (xs.length+us.length) cap') ((zA2 d s0 y).tail)
   (zC6 xs us ew.1 hn.tup) (fun i z=>by split;exact hm.one _ _;exact hn.one _ _) rfl
   (fun i u x q z' hu hs=>by
    split at hs
    ·simp at hs;obtain⟨rfl,rfl⟩:=hs;simp[zCO]
    ·rename_i eF
     cases y with
     |none=>simp at hs
     |some y'=>
      simp at hs;obtain⟨rfl,rfl⟩:=hs;have:=(hn.slot y' rfl).2.1;simp[zCO,this,show xs.length+(i-xs.length)=i from by omega])
   (fun i u x q hu hs=>by
    rw[K4]at hu;split at hs
    ·rename_i gP
     rw[if_pos gP]at hu;simp at hs;obtain⟨rfl,rfl⟩:=hs;exact⟨fun z'=>by simp[gP],ew.2.2 i u hu,vH xs e3 i u hu,ey⟩
    ·rename_i eF
     rw[if_neg eF]at hu;cases hy:y with
     |none=>rw[hy]at hs;simp at hs
     |some y'=>
      rw[hy]at hs;simp at hs;obtain⟨rfl,rfl⟩:=hs;obtain⟨y1,y2,y3,y4⟩:=hn.slot y' hy;obtain⟨_,y5,_⟩:=ga.ent y' _ y3;simp only[R]at y5;refine⟨fun z'=>by simp[eF,y4],?_,vH us hn.clean _ u hu,y1⟩;rcases y5 with⟨rfl,_⟩|⟨b2,o2,cap2,cs2,et2,_,_,_,_,_,_,_,y6⟩
      ·simp at hu
      ·have:=(qG us [] 0 b2 o2 k _ u y6 hu).2.2
       simpa using this)
   (fun i u hu hs G2 w2 eh=>by
    rw[K4]at hu;split at hs
    ·cases hs
    ·rename_i eF
     rw[if_neg eF]at hu;cases hy:y with
     |some y'=>rw[hy]at hs;simp at hs
     |none=>
      have:=hn.none hy (i-xs.length) u hu G2 w2 (fun z'=>by rw[show xs.length+(i-xs.length)=i from by omega,eh,if_neg eF])
      rwa [show xs.length+(i-xs.length)=i from by omega]at this)
   (fun G2 eh o v hv=>by
    rw[zDl,J7]at hv;have h1:zR G2 d xs [] 0=zR G s0 xs [] 0:=zIm xs [] 0 (fun i gQ z'=>by rw[J7,eh,if_pos gQ]);rw[h1]at hv;have pW:(zR G s0 xs [] 0).length=xs.length*k:=by rw[xJ,ck]
    have tv:(zR G2 d us [] xs.length).length=us.length*k:=by rw[xJ,cV]
    have ho:o<xs.length*k+us.length*k:=by have:=(Jc.1 hv).1;rw[Jb]at this;omega
    have fC:=hn.len;rw[Array.getElem?_append_left (by simp;omega),List.getElem?_toArray];rw[K4]at hv ⊢
    split at hv
    ·rename_i gP;rw[if_pos gP];exact hv
    ·rename_i eF;rw[if_neg eF]
     exact hn.vals G2 (fun j z'=>by rw[eh,if_neg (by omega),show xs.length+j-xs.length=j from by omega]) _ v hv)
   (fun s p h=>fx s p (by simpa[zA2]using h)) (ho:=by rw[←hw'];rfl) (hq:=by rw[←hw'];rfl)
  refine⟨_,w',by rw[hh];exact gp,_,fin _ w' _ (by simpa[zA2]using g1) g2 (by simp[Gh.nb]) ?_ (fun s p h=>by simp[Gh.nb,h])⟩;simp only[R];refine .inr ⟨w.heap.size,0,cap',_,e,by simp[Gh.nb],g5,by simpa using hge,bt,?_,by simp[Gh.nb],?_,zN3 _ _ _ _ _ (fun x hG=>?_) g3 g4⟩
  ·have pW:(zR G s0 xs [] 0).length=xs.length*k:=by rw[xJ,ck]
   have fC:=hn.len;simp only[Array.size_append,Uw,Jb,size_zeroCells,eK,pW,fC,←Hu];rw[J7];exact Ke _ (by omega)
  ·intro o ho _
   rw[Jb,Hu]at ho;simp[Gh.nb,zCL (xs++us) [] 0 o (by rw[zDm];omega)]
  ·rcases Kd.1 hG with h|h
   ·exact ew.2.1 x h
   ·exact hn.size x h
end
end Go.Ab

namespace Go.Ab
open Go
mutual
def T.flat:T→Bool
 |.lit _|.ro _=>aD
 |.agg xs=>kZ xs
 |.any|.same _ _|.addr _ _|.sub _ _ _ _ _|.sl _ _|.ptr _|.tup _=>aE
def kZ:List T→Bool
 | []=>aD
 |x::xs=>x.flat&&kZ xs
end
section
variable {St:Stb}{G G2:Gh}{w w2:World}{s d:Nat}
mutual
theorem zHq:(t:T)→ ∀(p p':List Nat),t.flat=aD→(∀z,G2.hd d (z++p')=G.hd s (z++p))→R St G w s t p→R St G2 w2 d t p'
 |.lit _,p,p',_,h,hr=>by have:=h [];simp only[Js]at this;simp only[R]at hr ⊢;rw[this];exact hr
 |.ro _,p,p',_,h,hr=>by have:=h [];simp only[Js]at this;simp only[R]at hr ⊢;rw[this];exact hr
 |.agg xs,p,p',hf,h,hr=>by simp only[R,T.flat]at hr hf ⊢;exact zKU xs p p' 0 hf h hr
 |.any,_,_,hf,_,_|.same _ _,_,_,hf,_,_|.addr _ _,_,_,hf,_,_|.sub _ _ _ _ _,_,_,hf,_,_|.sl _ _,_,_,hf,_,_|.ptr _,_,_,hf,_,_|.tup _,_,_,hf,_,_=>by simp[T.flat]at hf
theorem zKU:(xs:List T)→ ∀(p p':List Nat)(j:Nat),kZ xs=aD→(∀z,G2.hd d (z++p')=G.hd s (z++p))→RF St G w s xs p j→RF St G2 w2 d xs p' j
 | [],_,_,_,_,_,_=>by simp only[RF]
 |x::xs,p,p',j,hf,h,hr=>by
  simp only[RF,kZ,J3]at hr hf ⊢
  exact⟨zHq x (j::p) (j::p') hf.1 (fun z=>by have:=h (z++[j]);simpa using this) hr.1,zKU xs p p' (j+1) hf.2 h hr.2⟩
end
end
mutual
theorem zFo:(t:T)→t.flat=aD→zQ t∧t.okTup=aD
 |.lit _,_|.ro _,_=>by simp[zQ,yF,T.okTup]
 |.agg xs,h=>by simp only[T.flat]at h;simpa only[zQ,yF,T.okTup]using kH xs h
 |.any,h|.same _ _,h|.addr _ _,h|.sub _ _ _ _ _,h|.sl _ _,h|.ptr _,h|.tup _,h=>by simp[T.flat]at h
theorem kH:(xs:List T)→kZ xs=aD→yI xs∧zW xs=aD
 | [],_=>by simp[yI,yP,zW]
 |x::xs,h=>by simp only[kZ,J3]at h;simp only[yI,yP,zW,J3];exact⟨⟨(zFo x h.1).1,(kH xs h.2).1⟩,(zFo x h.1).2,(kH xs h.2).2⟩
end
theorem zG7:(xs:List T)→kZ xs=aD→ ∀(i:Nat)(x:T),xs[i]? =aB x→x.flat=aD
 | [],_,_,_,h=>by simp at h
 |y::ys,hk,i,x,h=>by
  simp only[kZ,J3]at hk;cases i with
  |zero=>simp at h;subst h;exact hk.1
  |succ i=>exact zG7 ys hk.2 i x (by simpa using h)
mutual
def zDL:T→Bool
 |.lit _=>aD
 |.sl _ xs=>zAU xs
 |.agg xs=>zAU xs
 |.ptr t=>zDL t
 |.any|.ro _|.same _ _|.addr _ _|.sub _ _ _ _ _|.tup _=>aE
def zAU:List T→Bool
 | []=>aD
 |x::xs=>zDL x&&zAU xs
end
theorem zIn:(ys:List T)→zAU ys=aD→ ∀u∈ys,∀xs,u≠.tup xs
 | [],_,_,h,_=>by simp at h
 |y::ys,hr,u,h,xs=>by
  simp only[zAU,J3]at hr;rcases Jl.1 h with rfl|h
  ·rintro rfl;simp[zDL]at hr
  ·exact zIn ys hr.2 u h xs
theorem zEu:(ys:List T)→(roT.roTs ys).length=ys.length
 | []=>rfl
 |y::ys=>by simp[roT.roTs,zEu ys]
theorem zFp{k:Nat}:(ys:List T)→(∀u∈ys,u.size=k)→(∀u∈ys,∀xs,u≠.tup xs)→ ∀u∈roT.roTs ys,u.size=k
 | [],_,_,u,h=>by simp[roT.roTs]at h
 |y::ys,h1,h2,u,h=>by
  simp only[roT.roTs,Jl]at h;rcases h with rfl|h
  ·rw[zDj y (h2 y (by simp))];exact h1 y (by simp)
  ·exact zFp ys (fun v hv=>h1 v (by simp[hv])) (fun v hv=>h2 v (by simp[hv])) u h
theorem zIo:(ys:List T)→ ∀(j:Nat)(u:T),(roT.roTs ys)[j]? =aB u→ ∃u0,ys[j]? =aB u0∧u=roT u0
 | [],_,_,h=>by simp[roT.roTs]at h
 |y::ys,j,u,h=>by
  cases j with
  |zero=>simp[roT.roTs]at h;exact⟨y,by simp,h.symm⟩
  |succ j=>
   obtain⟨u0,h1,h2⟩:=zIo ys j u (by simpa[roT.roTs]using h);exact⟨u0,by simpa using h1,h2⟩
theorem zKV{St:Stb}{G2:Gh}{d:Nat}:(ys:List T)→ ∀(cs':Array Value)(o' k n:Nat),RoL St ys cs' o' k→(∀u∈ys,u.size=k)→(∀j u,ys[j]? =aB u→ ∀z',G2.hd d (z'++[n+j])=qK (zCK u cs' (o'+j*k) z'.reverse))→
  ∀(i:Nat)(v:Value),(zR G2 d (roT.roTs ys) [] n)[i]? =aB v→cs'[o'+i]? =aB v
 | [],_,_,_,_,_,_,_,i,v,hv=>by simp[roT.roTs,zR]at hv
 |y::ys,cs',o',k,n,h,hs,hd,i,v,hv=>by
  simp only[RoL]at h;simp only[roT.roTs,zR]at hv;have gU:∀xs,y≠.tup xs:=by rintro xs rfl;simp only[RoC]at h;exact h.1
  have tf:∀xs,roT y≠.tup xs:=fun xs e=>by cases y<;>simp[roT]at e
  have hl:(vals G2 d (roT y) [n]).length=k:=by rw[wA _ _ tf,zDj y gU,hs y (by simp)]
  rw[K4]at hv;split at hv
  ·exact zFa y cs' o' [n] (fun z'=>by simpa using hd 0 y (by simp) z') h.1 i v hv
  ·have:=zKV ys cs' (o'+k) k (n+1) h.2 (fun u hu=>hs u (by simp[hu])) (fun j u hu z'=>by
    have:=hd (j+1) u (by simpa using hu) z'
    rwa [show n+(j+1)=n+1+j from by omega,show o'+(j+1)*k=o'+k+j*k from by rw[Lt];omega]at this) _ v hv
   rwa [hl,show o'+k+(i-k)=o'+i from by omega]at this
mutual
theorem zMo{G:Gh}(hg:∀s z,(G.hd s z).oneCell'=aD){s:Nat}:(t:T)→ ∀(p:List Nat)(v:Value),v∈vals G s t p→v.oneCell'=aD
 |.agg xs,p,v,h=>by simp only[vals]at h;exact zCP hg xs p 0 v h
 |.any,p,v,h|.lit _,p,v,h|.ro _,p,v,h|.same _ _,p,v,h|.addr _ _,p,v,h|.sub _ _ _ _ _,p,v,h|.sl _ _,p,v,h|.ptr _,p,v,h|.tup _,p,v,h=>by simp only[vals,List.mem_singleton]at h;rw[h];exact hg s p
theorem zCP{G:Gh}(hg:∀s z,(G.hd s z).oneCell'=aD){s:Nat}:(xs:List T)→ ∀(p:List Nat)(j:Nat)(v:Value),v∈zR G s xs p j→v.oneCell'=aD
 | [],_,_,_,h=>by simp[zR]at h
 |x::xs,p,j,v,h=>by
  simp only[zR,Kd]at h;rcases h with h|h
  ·exact zMo hg x _ v h
  ·exact zCP hg xs p _ v h
end
theorem zBG{G G2:Gh}{s d:Nat}:(us:List T)→ ∀(n j:Nat),(∀i z,G2.hd d (z++[n+i])=G.hd s (z++[j+i]))→zR G2 d us [] n=zR G s us [] j
 | [],_,_,_=>by simp only[zR]
 |x::xs,n,j,h=>by
  have ih:zR G2 d xs [] (n+1)=zR G s xs [] (j+1):=zBG xs (n+1) (j+1) (fun i z=>by rw[show n+1+i=n+(i+1)from by omega,show j+1+i=j+(i+1)from by omega];exact h (i+1) z)
  simp only[zR];rw[ih,zA8 x [j] [n] (by simpa using h 0)]
theorem zDo{G G2:Gh}{s d:Nat}:(us:List T)→ ∀(n j:Nat)(q:List Nat),(∀i z,G2.hd d (z++[n+i])=G.hd s (z++((j+i)::q)))→zR G2 d us [] n=zR G s us q j
 | [],_,_,_,_=>by simp only[zR]
 |x::xs,n,j,q,h=>by
  have ih:zR G2 d xs [] (n+1)=zR G s xs q (j+1):=zDo xs (n+1) (j+1) q (fun i z=>by rw[show n+1+i=n+(i+1)from by omega,show j+1+i=j+(i+1)from by omega];exact h (i+1) z)
  simp only[zR];rw[ih,zA8 x (j::q) [n] (by simpa using h 0)]
section
variable {P:Program}{Γ:Ctx}{E:Env}{o:Oper}{d:Nat}
theorem zKW{St:Stb}{G:Gh}{w:World}{r:Nat}{q:List Nat}{k:Nat}{us:List T}(h:R St G w r (.sl k us) q){size:Nat}(hk:size=k):
  ∃xa c,G.hd r q=.slice xa us.length c∧ ∀w2:World,w2.heap=w.heap→(Builtin.firstCells size us.length (.slice xa us.length c)).run P w2=.ok (zR G r us q 0).toArray w2:=by
 simp only[R]at h;rcases h with⟨rfl,a1,h1⟩|⟨b,o0,cap,cs,et,h1,h2,h3,h4,h5,h6,h7,h8⟩
 ·exact⟨a1,0,h1,fun w2 _=>by cases a1<;>simp[Builtin.firstCells,loadCells,loadCellsFrom,zR]⟩
 ·refine⟨_,_,h1,fun w2 mf=>?_⟩
  have hl:=qM us q 0 b o0 h8;refine run_firstCells_some (P:=P) w2 size us.length ⟨b,o0,aC⟩ _ _ _ ?_ (fun j v hv=>?_)
  ·rw[xJ,hk]
   exact xP us (zAT us q 0 b o0 h8).2
  ·have:=zAk us q 0 b o0 hl j v hv
   rw[wZ];simp only[zV]at this;simpa[World.cell?,mf]using this
theorem zAV{G:Gh}{a:Act}{w:World}(ga:Rep Γ E G a.tmps w){s:Nat}{t:T}(h:E s=aB t)(ht:t.single=aD):a.eval (.tmp s)=G.hd s []:=by rw[xD (ga.ent s t h).1,yR ht]
theorem zHr(t e:TypeId)(ti:TypeInfo)(z:Value)(k s0 y:Nat)(xs us:List T)(ho:o.op=.call { callee:=.builtin .append,args:=#[.tmp s0,.tmp y],argTypes:=#[t,t] })(gb:o.dst=aB d)(hd:d<Γ.N)
  (ht:P.underlying t=aB (.slice e))(hi:P.info? e=aB ti)(hz:ti.zero=aB z)(hk:ti.size=k)(er:0<k)(eK:z.cells.size=k)(hb:ti.bytes≤2048)
  (ef:E s0=aB (.sl k xs))(hy:E y=aB (.sl k us))(ey:s0≠d)(hyd:y≠d)(bc:y≠s0)(fh:xs.length+us.length≤68719476736):
  xF P Γ o E (E.app (aWr d s0 (aB y) k (xs++us)) (zA2 d s0 (aB y))):=by
 refine xF.value gb fun a w G ga=>?_
 obtain⟨_,y2,y3⟩:=ga.ent y _ hy;simp only[Top]at y3;obtain⟨xa,c,h1,h2⟩:=zKW (P:=P) y2 hk;have eJ:zW us=aD∧ ∀u∈us,u.size=k:=by
  simp only[R]at y2;rcases y2 with⟨rfl,_⟩|⟨b,o0,cap,cs,et,_,_,_,_,_,_,_,h8⟩
  ·simp[zW]
  ·exact⟨jU (St:=Γ.St) (k:=k) us [] 0 b o0 (qM us [] 0 b o0 h8),(zAT us [] 0 b o0 h8).2⟩
 have hn:zFn Γ E G d s0 (aB y) k xs.length us (fun j z'=>G.hd y (z'++[j])) (zR G y us [] 0):=
  ⟨eJ.2,eJ.1,y3,fun j z'=>ga.mem.one _ _,by rw[xJ];exact xP us eJ.2,fun y' hy'=>by simp at hy';subst hy';exact⟨hyd,bc,hy,fun _ _=>rfl⟩,fun h=>by simp at h,
   fun G2 eh o v hv=>by rw[←zBG us xs.length 0 (fun i z'=>by rw[eh,J7])];exact hv⟩
 obtain⟨v,w',gp,G',gj⟩:=zBh (P:=P) (ty:=o.type) ga hd ht hi hz hk er eK hb ef ey hn (xv:=a.eval (.tmp y)) ⟨.inl ⟨e,xa,c,ht,by rw[zAV ga hy rfl,h1],h2⟩⟩ (fun v hv=>zCh ga.mem us [] 0 v hv) fh;refine⟨v,w',?_,G',gj⟩;rw[←zAV ga ef rfl]at gp;simp[execOp,ho,resolve,invoke,builtin,gp]
theorem zHs(t e:TypeId)(ti:TypeInfo)(z:Value)(k s0:Nat)(y:Operand)(r:Nat)(q:List Nat)(xs us:List T)(ho:o.op=.call { callee:=.builtin .append,args:=#[.tmp s0,y],argTypes:=#[t,t] })(gb:o.dst=aB d)(hd:d<Γ.N)
  (ht:P.underlying t=aB (.slice e))(hi:P.info? e=aB ti)(hz:ti.zero=aB z)(hk:ti.size=k)(er:0<k)(eK:z.cells.size=k)(hb:ti.bytes≤2048)
  (ef:E s0=aB (.sl k xs))(hy:uL E y=aB (r,q,.sl k us))(hf:kZ us=aD)(ey:s0≠d)(fh:xs.length+us.length≤68719476736):
  xF P Γ o E (E.app (aWr d s0 aC k (xs++us)) (zA2 d s0 aC)):=by
 refine xF.value gb fun a w G ga=>?_
 obtain⟨y2,y1⟩:=sH ga hy rfl;obtain⟨xa,c,h1,h2⟩:=zKW (P:=P) y2 hk;have eJ:(∀u∈us,u.size=k)∧ ∀j u,us[j]? =aB u→R Γ.St G w r u (j::q):=by
  simp only[R]at y2;rcases y2 with⟨rfl,_⟩|⟨b,o0,cap,cs,et,_,_,_,_,_,_,_,h8⟩
  ·simp
  ·refine⟨(zAT us q 0 b o0 h8).2,fun j u hu=>?_⟩
   have:=(qG us q 0 b o0 k j u h8 hu).2.2;simpa using this
 have gC:=kH us hf;have hn:zFn Γ E G d s0 aC k xs.length us (fun j z'=>G.hd r (z'++(j::q))) (zR G r us q 0):=
  ⟨eJ.1,gC.2,gC.1,fun j z'=>ga.mem.one _ _,by rw[xJ];exact xP us eJ.1,fun y' hy'=>by simp at hy',
   fun _ j u hu G2 w2 eh=>zHq u (j::q) [xs.length+j] (zG7 us hf j u hu) (fun z'=>eh z') (eJ.2 j u hu),
   fun G2 eh o v hv=>by rw[←zDo us xs.length 0 q (fun i z'=>by rw[eh,J7])];exact hv⟩
 obtain⟨v,w',gp,G',gj⟩:=zBh (P:=P) (ty:=o.type) ga hd ht hi hz hk er eK hb ef ey hn (xv:=a.eval y) ⟨.inl ⟨e,xa,c,ht,by rw[y1,h1],h2⟩⟩ (fun v hv=>zCh ga.mem us q 0 v hv) fh;refine⟨v,w',?_,G',gj⟩;rw[←zAV ga ef rfl]at gp;simp[execOp,ho,resolve,invoke,builtin,gp]
mutual
theorem zN9:(u:T)→zDL u=aD→(roT u).flat=aD
 |.agg xs,h=>by simp only[zDL]at h;simp only[roT,T.flat];exact zDM xs h
 |.lit _,_|.sl _ _,_|.ptr _,_=>by simp[roT,T.flat]
 |.any,h|.ro _,h|.same _ _,h|.addr _ _,h|.sub _ _ _ _ _,h|.tup _,h=>by simp[zDL]at h
theorem zDM:(xs:List T)→zAU xs=aD→kZ (roT.roTs xs)=aD
 | [],_=>by simp[roT.roTs,kZ]
 |x::xs,h=>by simp only[zAU,J3]at h;simp only[roT.roTs,kZ,J3];exact⟨zN9 x h.1,zDM xs h.2⟩
end
theorem zHt(t e:TypeId)(ti:TypeInfo)(z:Value)(k s0:Nat)(y:Operand)(r:Nat)(q:List Nat)(xs ys:List T)(ho:o.op=.call { callee:=.builtin .append,args:=#[.tmp s0,y],argTypes:=#[t,t] })(gb:o.dst=aB d)(hd:d<Γ.N)
  (ht:P.underlying t=aB (.slice e))(hi:P.info? e=aB ti)(hz:ti.zero=aB z)(hk:ti.size=k)(er:0<k)(eK:z.cells.size=k)(hb:ti.bytes≤2048)
  (ef:E s0=aB (.sl k xs))(hy:uL E y=aB (r,q,.ro (.sl k ys)))(hro:zAU ys=aD)(bc:∀u∈ys,u.size=k)(ey:s0≠d)(fh:xs.length+ys.length≤68719476736):
  xF P Γ o E (E.app (aWr d s0 aC k (xs++roT.roTs ys)) (zA2 d s0 aC)):=by
 refine xF.value gb fun a w G ga=>?_
 obtain⟨y2,y1⟩:=sH ga hy rfl;obtain⟨xa,c,h1,h2,h3,h4⟩:=zCe y2;have hf:=zDM ys hro;have gC:=kH _ hf;have gc:(roT.roTs ys).length=ys.length:=zEu ys;have gx:∀u∈roT.roTs ys,u.size=k:=zFp ys bc (fun u hu=>zIn ys hro u hu);obtain⟨cs',o',h5,h6⟩:∃(cs':Array Value)(o':Nat),RoL Γ.St ys cs' o' k∧(ys≠[]→ ∃b et fr,xa=aB ⟨b,o',aC⟩∧Γ.St b=aB (.cells cs' et fr)):=by
  by_cases gf:ys=[]
  ·subst gf;exact⟨#[],0,by simp[RoL],fun h=>absurd rfl h⟩
  ·obtain⟨b,o',cs',et,fr,h5,h6,h7⟩:=h4 gf
   exact⟨cs',o',h7,fun _=>⟨b,et,fr,h5,h6⟩⟩
 let f2:Nat→List Nat→Value:=fun j z'=>match ys[j]? with
  |some u=>qK (zCK u cs' (o'+j*k) z'.reverse)
  |none=>.bool aE
 have hf2:∀j u,ys[j]? =aB u→ ∀z',f2 j z'=qK (zCK u cs' (o'+j*k) z'.reverse):=fun j u hu z'=>by simp[f2,hu]
 let G0:Gh:={ G with hd:=fun s z'=>if s=d then(match z'.getLast? with
  |some j=>f2 j z'.dropLast
  |none=>.bool aE)else G.hd s z' }
 have hG0:∀j z',G0.hd d (z'++[j])=f2 j z':=fun j z'=>by simp[G0]
 have fk:∀(G2:Gh)(n:Nat),(∀j z',G2.hd d (z'++[n+j])=f2 j z')→ ∀(i:Nat)(v:Value),(zR G2 d (roT.roTs ys) [] n)[i]? =aB v→cs'[o'+i]? =aB v:=by intro G2 n eh i v hv;exact zKV ys cs' o' k n h5 bc (fun j u hu z'=>by rw[eh,hf2 j u hu]) i v hv
 have mJ:∀w2:World,w2.heap=w.heap→(Builtin.firstCells ti.size ys.length (.slice xa ys.length c)).run P w2=.ok (zR G0 d (roT.roTs ys) [] 0).toArray w2:=by
  intro w2 mf
  by_cases gf:ys=[]
  ·subst gf
   cases xa<;>simp[Builtin.firstCells,loadCells,loadCellsFrom,roT.roTs,zR]
  ·obtain⟨b,et,fr,rfl,h7⟩:=h6 gf
   refine run_firstCells_some (P:=P) w2 ti.size ys.length ⟨b,o',aC⟩ _ _ _ ?_ (fun j v hv=>?_)
   ·rw[xJ,hk,xP _ gx,gc]
   ·have:=fk G0 0 (fun j z'=>by rw[J7];exact hG0 j z') j v hv
    rw[wZ];have h8:=ga.mem.st b _ h7;simp[World.cell?,mf,h8,this]
 have cy:∀j z',(f2 j z').oneCell'=aD:=fun j z'=>by
  dsimp only[f2];split
  ·exact zAP _
  ·rfl
 have hn:zFn Γ E G d s0 aC k xs.length (roT.roTs ys) f2 (zR G0 d (roT.roTs ys) [] 0):=by
  refine⟨gx,gC.2,gC.1,cy,by rw[xJ];exact xP _ gx,fun y' hy'=>by simp at hy',fun _ j u hu G2 w2 eh=>?_,fun G2 eh i v hv=>?_⟩
  ·obtain⟨u0,bg,rfl⟩:=zIo ys j u hu
   exact zNy u0 cs' (o'+j*k) [xs.length+j] (fun z'=>by rw[eh z',hf2 j u0 bg]) (zEI ys cs' o' k j u0 h5 bg)
  ·rw[←zBG (roT.roTs ys) xs.length 0 (fun i z'=>by rw[eh,J7];exact(hG0 i z').symm)]
   exact hv
 have mC:∀v∈zR G0 d (roT.roTs ys) [] 0,v.oneCell'=aD:=by
  intro v hv;refine zCP (fun s z'=>?_) _ [] 0 v hv;simp only[G0];split
  ·split
   ·exact cy _ _
   ·rfl
  ·exact ga.mem.one _ _
 have pC:zFm P t e ti (a.eval y) (roT.roTs ys).length (zR G0 d (roT.roTs ys) [] 0) w:=⟨.inl ⟨e,xa,c,ht,by rw[y1,h1,gc],by rw[gc];exact mJ⟩⟩;obtain⟨v,w',gp,G',gj⟩:=zBh (P:=P) (ty:=o.type) ga hd ht hi hz hk er eK hb ef ey hn pC mC (by rw[gc];exact fh);refine⟨v,w',?_,G',gj⟩;rw[←zAV ga ef rfl]at gp;simp[execOp,ho,resolve,invoke,builtin,gp]
end
end Go.Ab

namespace Go.Ab
open Go
theorem zEv:(us:List T)→tO us=us.flatMap uV
 | []=>rfl
 |u::us=>by simp[tO,zEv us]
theorem zBH(u:T)(h:u.zOk=aD):∀m,zAe (J1 m u)=aD
 |0=>rfl
 |m+1=>by simp[Kv,zAe,h,zBH u h m]
section
variable {P:Program}{Γ:Ctx}{E:Env}{o:Oper}{d:Nat}
theorem zFq(t t2 e:TypeId)(k2:IntKind)(ti:TypeInfo)(z:Value)(u:T)(k s0:Nat)(y:Operand)(kd:IntKind)(m:Nat)(xs:List T)(ho:o.op=.call { callee:=.builtin .append,args:=#[.tmp s0,y],argTypes:=#[t,t2] })(gb:o.dst=aB d)(hd:d<Γ.N)
  (ht:P.underlying t=aB (.slice e))(fm:P.underlying t2=aB (.int k2))(hi:P.info? e=aB ti)(hz:ti.zero=aB z)(hk:ti.size=k)(er:0<k)(hb:ti.bytes≤2048)(hu:u.zOk=aD)(hv:uV u=z.cells.toList)(eJ:u.size=k)
  (ef:E s0=aB (.sl k xs))(hy:opT E y=aB (.lit (.int kd m)))(ey:s0≠d)(fh:xs.length+m≤68719476736):
  xF P Γ o E (E.app (aWr d s0 aC k (xs++J1 m u)) (zA2 d s0 aC)):=by
 refine xF.value gb fun a w G ga=>?_
 have eK:z.cells.size=k:=by grind[wF]
 have hzo:=zBH u hu m;have gC:=zBg _ hzo
 let f2:Nat→List Nat→Value:=fun _ z'=>qK (zhd u z'.reverse)
 have hnvl:((Builtin.zeroCells z.cells m).toList).length=m*k:=by grind[Builtin.zeroCells]
 have hn:zFn Γ E G d s0 aC k xs.length (J1 m u) f2 (Builtin.zeroCells z.cells m).toList:=by
  refine⟨by grind,gC.2,gC.1,fun _ _=>zAP _,by grind,by simp,fun _ j x hx G2 w2 eh=>?_,fun G2 eh i v eY=>?_⟩
  ·grind[zHl]
  ·have h1:zR G2 d (J1 m u) [] xs.length=tO (J1 m u):=by grind[zCM]
   rw[h1,zEv]at eY;obtain⟨h2,h3⟩:=zHm uV u k (by grind) er m i v eY
   grind[Builtin.zeroCells]
 have gk:∀v∈(Builtin.zeroCells z.cells m).toList,v.oneCell'=aD:=by
  intro v eY;simp only[Builtin.zeroCells,Array.toList_map,Array.toList_range,Jd,Jq]at eY;obtain⟨i,gQ,rfl⟩:=eY
  grind[Nat.mod_lt,zDK]
 have pC:zFm P t2 e ti (a.eval y) (J1 m u).length (Builtin.zeroCells z.cells m).toList w:=by
  refine⟨.inr ⟨k2,kd,z,fm,?_,hz,by simp,?_,by omega⟩⟩
  ·rw[(yL ga hy).1];simp
  ·simp only[Ju]
   exact H0 (Gv (show m≤68719476736 by omega) hb) (by decide)
 obtain⟨v,w',gp,G',gj⟩:=zBh (P:=P) (ty:=o.type) ga hd ht hi hz hk er eK hb ef ey hn pC gk (by grind);refine⟨v,w',?_,G',gj⟩;rw[←zAV ga ef rfl]at gp;simp[execOp,ho,resolve,invoke,builtin,gp]
end
end Go.Ab

namespace Go.Ab
open Go
def zIp(G:Gh)(nd:List (Nat×List Nat×T)):Value:=
 match nd with
 | [x]=>uW G x.1 x.2.2 x.2.1
 |nd=>.tuple (nd.map fun x=>uW G x.1 x.2.2 x.2.1).toArray
def FnC(P:Program)(f:FuncId)(us:List T)(res:List T)(rws:List (Nat×T)):Prop:=
 ∀(St:Stb)(W:Nat→Prop)(w:World)(G:Gh)(vs:Array Value),vs.size=us.length→
  (∀(i:Nat) u,us[i]? =aB u→vs[i]? =aB (mkV G i u [])∧R St G w i u [])→Mem ⟨St,W,w,0⟩ G w→
  Calls P f vs w fun e w'=> ∃(S':Stb)(G':Gh)(nd:List (Nat×List Nat×T)),zCw St S' W w.heap.size∧e=.returned (zIp G' nd)∧Mem ⟨S',W,w,0⟩ G' w'∧nd.map (·.2.2)=res∧
   (∀x∈nd,R S' G' w' x.1 x.2.2 x.2.1∧us.length≤x.1)∧(nd.map (·.1)).Nodup∧
   ∀i u',(i,u')∈rws→R S' G' w' i u' []∧ ∃u,us[i]? =aB u∧mkV G' i u' []=mkV G i u []
mutual
def wW:T→Bool
 |.ro _=>aE
 |.sl _ xs|.agg xs|.tup xs=>vB xs
 |.ptr t=>wW t
 |.any|.lit _|.same _ _|.addr _ _|.sub _ _ _ _ _=>aD
def vB:List T→Bool
 | []=>aD
 |x::xs=>wW x&&vB xs
end
section
variable {St St':Stb}{G:Gh}{w:World}{s:Nat}
mutual
theorem zMp:(t:T)→ ∀(p:List Nat),wW t=aD→R St G w s t p→R St' G w s t p
 |.ro _,_,h,_=>by simp[wW]at h
 |.sl k xs,p,h,hr=>by
  simp only[wW,R]at h hr ⊢
  rcases hr with hr|⟨b,o0,cap,cs,e,h1,h2,h3,h4,h5,h6,h7,h8⟩
  ·exact .inl hr
  ·exact .inr ⟨b,o0,cap,cs,e,h1,h2,h3,h4,h5,h6,h7,zSv xs p 0 b o0 k h h8⟩
 |.agg xs,p,h,hr|.tup xs,p,h,hr=>by simp only[wW,R]at h hr ⊢;exact zSw xs p 0 h hr
 |.ptr t,p,h,hr=>by
  simp only[wW,R]at h hr ⊢
  obtain⟨b,cs,e,h1,h2,h3,h6,h4,h5⟩:=hr;exact⟨b,cs,e,h1,h2,h3,h6,h4,zMp t _ h h5⟩
 |.any,_,_,hr|.lit _,_,_,hr|.same _ _,_,_,hr|.addr _ _,_,_,hr|.sub _ _ _ _ _,_,_,hr=>by first|(simp only[R];done)|simpa only[R]using hr
theorem zSv:(xs:List T)→ ∀(p:List Nat)(i b o k:Nat),vB xs=aD→RL St G w s xs p i b o k→RL St' G w s xs p i b o k
 | [],_,_,_,_,_,_,_=>by simp only[RL]
 |x::xs,p,i,b,o,k,h,hr=>by
  simp only[vB,J3,RL]at h hr ⊢
  exact⟨hr.1,zMp x _ h.1 hr.2.1,zSv xs p (i+1) b _ k h.2 hr.2.2⟩
theorem zSw:(xs:List T)→ ∀(p:List Nat)(i:Nat),vB xs=aD→RF St G w s xs p i→RF St' G w s xs p i
 | [],_,_,_,_=>by simp only[RF]
 |x::xs,p,i,h,hr=>by
  simp only[vB,J3,RF]at h hr ⊢
  exact⟨zMp x _ h.1 hr.1,zSw xs p (i+1) h.2 hr.2⟩
end
end
section
variable {St St':Stb} (h:∀b x,St b=aB x→St' b=aB x)
 include h
mutual
theorem vW:(t:T)→ ∀(cs:Array Value)(o:Nat),RoC St t cs o→RoC St' t cs o
 |.sl k xs,cs,o,hr=>by
  simp only[RoC]at hr ⊢
  obtain⟨a,c,h1,h2,h3,h4⟩:=hr;refine⟨a,c,h1,h2,h3,fun gf=>?_⟩;obtain⟨b,o',cs',e,fr,h5,h6,h7⟩:=h4 gf;exact⟨b,o',cs',e,fr,h5,h b _ h6,zIq xs cs' o' k h7⟩
 |.agg xs,cs,o,hr=>by simp only[RoC]at hr ⊢;exact zIr xs cs o hr
 |.ptr t,cs,o,hr=>by
  simp only[RoC]at hr ⊢
  obtain⟨b,o',cs',e,fr,h5,h6,h7⟩:=hr;exact⟨b,o',cs',e,fr,h5,h b _ h6,vW t cs' o' h7⟩
 |.ro u,cs,o,hr=>by
  simp only[RoC]at hr ⊢
  obtain⟨f,vs,h1,h2,h3⟩:=hr;exact⟨f,vs,h1,h2,vW u _ _ h3⟩
 |.any,_,_,hr|.lit _,_,_,hr|.same _ _,_,_,hr|.addr _ _,_,_,hr|.sub _ _ _ _ _,_,_,hr|.tup _,_,_,hr=>by first|(simp only[RoC]at hr;done)|simpa only[RoC]using hr
theorem zIq:(xs:List T)→ ∀(cs:Array Value)(o k:Nat),RoL St xs cs o k→RoL St' xs cs o k
 | [],_,_,_,_=>by have _:=h;simp only[RoL]
 |x::xs,cs,o,k,hr=>by simp only[RoL]at hr ⊢;exact⟨vW x cs o hr.1,zIq xs cs _ k hr.2⟩
theorem zIr:(xs:List T)→ ∀(cs:Array Value)(o:Nat),RoF St xs cs o→RoF St' xs cs o
 | [],_,_,_=>by have _:=h;simp only[RoF]
 |x::xs,cs,o,hr=>by simp only[RoF]at hr ⊢;exact⟨vW x cs o hr.1,zIr xs cs _ hr.2⟩
end
end
section
variable {St St':Stb}{G:Gh}{w:World}{s:Nat} (h:∀b x,St b=aB x→St' b=aB x)
 include h
mutual
theorem zHu:(t:T)→ ∀(p:List Nat),R St G w s t p→R St' G w s t p
 |.ro t,_,hr=>by simp only[R]at hr ⊢;exact vW h t _ _ hr
 |.sl k xs,p,hr=>by
  simp only[R]at hr ⊢
  rcases hr with hr|⟨b,o0,cap,cs,e,h1,h2,h3,h4,h5,h6,h7,h8⟩
  ·exact .inl hr
  ·exact .inr ⟨b,o0,cap,cs,e,h1,h2,h3,h4,h5,h6,h7,zKX xs p 0 b o0 k h8⟩
 |.agg xs,p,hr|.tup xs,p,hr=>by simp only[R]at hr ⊢;exact zKY xs p 0 hr
 |.ptr t,p,hr=>by
  simp only[R]at hr ⊢
  obtain⟨b,cs,e,h1,h2,h3,h6,h4,h5⟩:=hr;exact⟨b,cs,e,h1,h2,h3,h6,h4,zHu t _ h5⟩
 |.any,_,hr|.lit _,_,hr|.same _ _,_,hr|.addr _ _,_,hr|.sub _ _ _ _ _,_,hr=>by first|(simp only[R];done)|simpa only[R]using hr
theorem zKX:(xs:List T)→ ∀(p:List Nat)(i b o k:Nat),RL St G w s xs p i b o k→RL St' G w s xs p i b o k
 | [],_,_,_,_,_,_=>by have _:=h;simp only[RL]
 |x::xs,p,i,b,o,k,hr=>by simp only[RL]at hr ⊢;exact⟨hr.1,zHu x _ hr.2.1,zKX xs p (i+1) b _ k hr.2.2⟩
theorem zKY:(xs:List T)→ ∀(p:List Nat)(i:Nat),RF St G w s xs p i→RF St' G w s xs p i
 | [],_,_,_=>by have _:=h;simp only[RF]
 |x::xs,p,i,hr=>by simp only[RF]at hr ⊢;exact⟨zHu x _ hr.1,zKY xs p (i+1) hr.2⟩
end
end
mutual
def strip:T→T
 |.lit v=>.lit v
 |.ro u=>if u.single then u else .any
 |.sl k xs=>.sl k (xQ xs)
 |.agg xs=>.agg (xQ xs)
 |.ptr t=>.ptr (strip t)
 |.any|.same _ _|.addr _ _|.sub _ _ _ _ _|.tup _=>.any
def xQ:List T→List T
 | []=>[]
 |x::xs=>strip x::xQ xs
end
theorem jV:(xs:List T)→(xQ xs).length=xs.length
 | []=>rfl
 |x::xs=>by simp[xQ,jV xs]
mutual
theorem zCQ:(t:T)→(strip t).size=t.size
 |.agg xs=>by simp only[strip,T.size];exact zEw xs
 |.ro u=>by
  simp only[strip];split
  ·rename_i h;cases u<;>simp[T.single]at h<;>simp[T.size]
  ·simp[T.size]
 |.lit _|.sl _ _|.ptr _|.any|.same _ _|.addr _ _|.sub _ _ _ _ _|.tup _=>by simp[strip,T.size]
theorem zEw:(xs:List T)→T.sizes (xQ xs)=T.sizes xs
 | []=>rfl
 |x::xs=>by simp only[xQ,T.sizes,zCQ x,zEw xs]
end
theorem sP{St:Stb}{u:T}(hu:u.single=aD){v:Value}{cs:Array Value}{o:Nat}(h:RoC St u #[v] 0)(hc:cs[o]? =aB v):RoC St u cs o:=by
 cases u<;>simp[T.single]at hu<;>simp only[RoC]at h ⊢ <;>simp at h<;>first
  |exact⟨v,hc,h⟩
  |(obtain⟨rfl,h2⟩:=h;exact⟨hc,h2⟩)
  |(obtain⟨f,vs,rfl,h2⟩:=h;exact⟨f,vs,hc,h2⟩)
  |(obtain⟨a,c,rfl,h2⟩:=h;exact⟨a,c,hc,by simpa using h2⟩)
  |(obtain⟨b,o',rfl,h2⟩:=h;obtain⟨cs',⟨e,f1,f2,h3⟩,h4⟩:=h2;exact⟨b,o',cs',e,(f1,f2),hc,h3,h4⟩)
section
variable {St Sc:Stb}{G:Gh}{w:World}{s:Nat} (gk:∀s p,(G.hd s p).oneCell'=aD) (gY:∀b x,St b=aB x→Sc b=aB x) (gZ:∀b,(∃y,G.ow b=aB (s,y))→Sc b=w.heap[b]?)
 include gk gY gZ
mutual
theorem frz:(t:T)→ ∀(p:List Nat)(b o:Nat)(cs:Array Value)(e:TypeId)(fr:Nat×Nat),w.heap[b]? =aB (.cells cs e fr)→Loc G w s t p b o→R St G w s t p→RoC Sc (strip t) cs o
 |.agg xs,p,b,o,cs,e,fr,hb,hl,hr=>by simp only[Loc,R,strip,RoC]at hl hr ⊢;exact zUK xs p 0 b o cs e fr hb hl.2 hr
 |.tup _,_,_,_,_,_,_,_,hl,_=>by have _:=gZ;simp only[Loc]at hl
 |.any,p,b,o,cs,e,fr,hb,hl,hr|.same _ _,p,b,o,cs,e,fr,hb,hl,hr|.addr _ _,p,b,o,cs,e,fr,hb,hl,hr|.sub _ _ _ _ _,p,b,o,cs,e,fr,hb,hl,hr=>by have h1:=(xW rfl hl).2.2;simp only[zV,World.cell?,hb]at h1;simp only[strip,RoC];exact⟨_,by simpa using h1,gk s p⟩
 |.lit v,p,b,o,cs,e,fr,hb,hl,hr=>by
  have h1:=(xW rfl hl).2.2;simp only[zV,World.cell?,hb]at h1;simp only[strip,RoC,R]at hr ⊢
  exact⟨by rw[←hr];simpa using h1,by rw[←hr];exact gk s p⟩
 |.ro u,p,b,o,cs,e,fr,hb,hl,hr=>by
  have h1:=(xW rfl hl).2.2;simp only[zV,World.cell?,hb]at h1;simp only[strip,R]at hr ⊢
  split
  ·rename_i hu
   exact sP hu (vW gY u _ _ hr) (by simpa using h1)
  ·simp only[RoC];exact⟨_,by simpa using h1,gk s p⟩
 |.sl k xs,p,b,o,cs,e,fr,hb,hl,hr=>by have h1:=(xW rfl hl).2.2;simp only[zV,World.cell?,hb]at h1;exact sP rfl (zIs (.sl k xs) p rfl hr) (by simpa using h1)
 |.ptr t,p,b,o,cs,e,fr,hb,hl,hr=>by have h1:=(xW rfl hl).2.2;simp only[zV,World.cell?,hb]at h1;exact sP rfl (zIs (.ptr t) p rfl hr) (by simpa using h1)
theorem zUK:(xs:List T)→ ∀(p:List Nat)(j b o:Nat)(cs:Array Value)(e:TypeId)(fr:Nat×Nat),w.heap[b]? =aB (.cells cs e fr)→wD G w s xs p j b o→RF St G w s xs p j→RoF Sc (xQ xs) cs o
 | [],_,_,_,_,_,_,_,_,_,_=>by have _:=gk;have _:=gY;have _:=gZ;simp only[xQ,RoF]
 |x::xs,p,j,b,o,cs,e,fr,hb,hl,hr=>by
  simp only[wD,RF,xQ,RoF]at hl hr ⊢
  exact⟨frz x _ b o cs e fr hb hl.1 hr.1,by rw[zCQ];exact zUK xs p (j+1) b _ cs e fr hb hl.2 hr.2⟩
theorem zUL:(xs:List T)→ ∀(p:List Nat)(i b o k:Nat)(cs:Array Value)(e:TypeId)(fr:Nat×Nat),w.heap[b]? =aB (.cells cs e fr)→RL St G w s xs p i b o k→RoL Sc (xQ xs) cs o k
 | [],_,_,_,_,_,_,_,_,_,_=>by have _:=gk;have _:=gY;have _:=gZ;simp only[xQ,RoL]
 |x::xs,p,i,b,o,k,cs,e,fr,hb,hr=>by
  simp only[RL,xQ,RoL]at hr ⊢
  exact⟨frz x _ b o cs e fr hb hr.1.1 hr.2.1,zUL xs p (i+1) b _ k cs e fr hb hr.2.2⟩
theorem zIs:(t:T)→ ∀(p:List Nat),t.single=aD→R St G w s t p→RoC Sc (strip t) #[G.hd s p] 0
 |.agg _,_,h,_|.tup _,_,h,_=>by simp[T.single]at h
 |.any,p,_,_|.same _ _,p,_,_|.addr _ _,p,_,_|.sub _ _ _ _ _,p,_,_=>by simp only[strip,RoC];exact⟨_,by simp,gk s p⟩
 |.lit v,p,_,hr=>by simp only[strip,RoC,R]at hr ⊢;exact⟨by simp[hr],by rw[←hr];exact gk s p⟩
 |.ro u,p,_,hr=>by
  simp only[strip,R]at hr ⊢
  split
  ·exact vW gY u _ _ hr
  ·simp only[RoC];exact⟨_,by simp,gk s p⟩
 |.sl k xs,p,_,hr=>by
  simp only[strip,R,RoC]at hr ⊢
  rw[jV];rcases hr with⟨rfl,a,h1⟩|⟨b,o0,cap,cs,e,h1,h2,h3,h4,h5,h6,h7,h8⟩
  ·exact⟨a,0,by simp[h1],by simp,by simp[maxLen],fun h=>by simp[xQ]at h⟩
  ·exact⟨aB ⟨b,o0,aC⟩,cap,by simp[h1],h3,h4,fun _=>⟨b,o0,cs,e,(0,0),rfl,by rw[gZ b ⟨_,h6⟩];exact h2,zUL xs p 0 b o0 k cs e (0,0) h2 h8⟩⟩
 |.ptr t,p,_,hr=>by
  simp only[strip,R,RoC]at hr ⊢
  obtain⟨b,cs,e,h1,h2,h3,h6,h4,h5⟩:=hr;exact⟨b,0,cs,e,(0,0),by simp[h1],by rw[gZ b ⟨_,h6⟩];exact h2,frz t _ b 0 cs e (0,0) h2 h4 h5⟩
end
end
end Go.Ab

namespace Go.Ab
open Go
mutual
def clo(E:Env):T→T
 |.agg ts=>.agg (zBi E ts)
 |.lit v=>.lit v
 |.ro u=>.ro u
 |.same r q=>match sG E 4 r q with
  |some (_,_,.ro u)=>.ro u
  |some (_,_,.lit v)=>.lit v
  |some (_,_,t)=>if t.single then .ro (strip t)else .any
  |none=>.any
 |.sub r q k lo hi=>match sG E 4 r q with
  |some (_,_,.sl k' xs)=>if k=k'∧lo≤hi∧hi≤xs.length then .ro (.sl k (((xQ xs).drop lo).take (hi-lo)))else .any
  |_=>.any
 |.sl k xs=>.ro (strip (.sl k xs))
 |.ptr t=>.ro (strip (.ptr t))
 |.any|.addr _ _|.tup _=>.any
def zBi(E:Env):List T→List T
 | []=>[]
 |x::xs=>clo E x::zBi E xs
end
mutual
def tU(E:Env)(rs:List Nat)(s:Nat):T→Bool
 |.agg ts=>zAs E rs s ts
 |.same r q|.sub r q _ _ _=>match sG E 4 r q with
  |some (r',_,_)=> !rs.contains r'
  |none=>aD
 |.sl _ _|.ptr _=> !rs.contains s
 |.lit _|.ro _|.any|.addr _ _=>aD
 |.tup _=>aE
def zAs(E:Env)(rs:List Nat)(s:Nat):List T→Bool
 | []=>aD
 |x::xs=>tU E rs s x&&zAs E rs s xs
end
theorem zQy{St:Stb}{k:Nat}{xs:List T}{v:Value}{lo hi:Nat}(h:RoC St (.sl k xs) #[v] 0)(h1:lo≤hi)(h2:hi≤xs.length):RoC St (.sl k ((xs.drop lo).take (hi-lo))) #[zAN v k lo hi] 0:=by
 simp only[RoC]at h ⊢
 obtain⟨a',c,g4,g5,g6,g7⟩:=h;have hv:v=.slice a' xs.length c:=by grind
 subst hv;have gc:((xs.drop lo).take (hi-lo)).length=hi-lo:=by simp;omega
 refine⟨if c=lo then a' else a'.map (·.add (lo*k)),c-lo,by grind[zAN],by omega,by omega,?_⟩;intro gf;have pf:xs≠[]:=by grind
 obtain⟨b,o',cs',e',fr,rfl,h3,h4⟩:=g7 pf;have gC:c≠lo:=by grind
 grind[wZ,zFc,zFb]
section
variable {Γ:Ctx}{E:Env}{G Gc:Gh}{a:Act}{w:World}{Sc:Stb}{rs:List Nat}{s i:Nat} (ga:Rep Γ E G a.tmps w) (gY:∀b x,Γ.St b=aB x→Sc b=aB x) (gZ:∀r,r∉rs→ ∀b,(∃y,G.ow b=aB (r,y))→Sc b=w.heap[b]?) (gB:∀z,Gc.hd i z=G.hd s z)
 include ga gY gZ gB
mutual
theorem zSx:(t:T)→ ∀(p:List Nat),tU E rs s t=aD→R Γ.St G w s t p→R Sc Gc w i (clo E t) p
 |.agg ts,p,h,hr=>by simp only[tU,clo,R]at h hr ⊢;exact zNA ts p 0 h hr
 |.tup _,_,h,_=>by grind[tU]
 |.lit v,p,_,hr=>by simp only[clo,R]at hr ⊢;grind
 |.ro u,p,_,hr=>by simp only[clo,R]at hr ⊢;grind[vW]
 |.any,_,_,_|.addr _ _,_,_,_=>by simp only[clo,R]
 |.sl k xs,p,h,hr=>by
  simp only[tU,Hl,Ld,decide_eq_false_iff_not]at h;have:=zIs (fun s p=>ga.mem.one s p) gY (gZ s h) (.sl k xs) p rfl hr;simp only[clo,R]
  grind
 |.ptr t,p,h,hr=>by
  simp only[tU,Hl,Ld,decide_eq_false_iff_not]at h;have:=zIs (fun s p=>ga.mem.one s p) gY (gZ s h) (.ptr t) p rfl hr;simp only[clo,R]
  grind
 |.same r q,p,h,hr=>by
  simp only[tU,clo,R]at h hr ⊢
  cases hf:sG E 4 r q with
  |none=>simp only[R]
  |some x=>
   obtain⟨r',q',t⟩:=x;simp only[hf,Hl,Ld,decide_eq_false_iff_not]at h;obtain⟨h1,h2,_⟩:=zCd ga 4 r q r' q' t hf;have h3:Gc.hd i p=G.hd r' q':=by grind
   by_cases hs:t.single=aD
   ·have h4:=zIs (fun s p=>ga.mem.one s p) gY (gZ r' h) t q' hs h1
    cases t with
    |ro u=>simp only[R]at h1 ⊢;grind[vW]
    |lit v=>simp only[R]at h1 ⊢;grind
    |agg _=>grind[T.single]
    |tup _=>grind[T.single]
    |_=>simp only[hs,if_true,R];grind
   ·cases t<;>simp[T.single]at hs<;>simp[T.single,R]
 |.sub r q k lo hi,p,h,hr=>by
  simp only[tU,clo,R]at h hr ⊢
  cases hf:sG E 4 r q with
  |none=>simp only[R]
  |some x=>
   obtain⟨r',q',t⟩:=x;simp only[hf,Hl,Ld,decide_eq_false_iff_not]at h;obtain⟨h1,h2,_⟩:=zCd ga 4 r q r' q' t hf;cases t with
   |sl k' xs=>
    simp only[];split
    ·rename_i hc
     obtain⟨rfl,fI,eG⟩:=hc;have h4:=zIs (fun s p=>ga.mem.one s p) gY (gZ r' h) (.sl k xs) q' rfl h1;simp only[strip]at h4;simp only[R]
     grind[zQy,jV]
    ·simp only[R]
   |_=>simp only[R]
theorem zNA:(ts:List T)→ ∀(p:List Nat)(j:Nat),zAs E rs s ts=aD→RF Γ.St G w s ts p j→RF Sc Gc w i (zBi E ts) p j
 | [],_,_,_,_=>by have _:=ga;have _:=gY;have _:=gZ;have _:=gB;simp only[zBi,RF]
 |x::xs,p,j,h,hr=>by
  simp only[zAs,J3,zBi,RF]at h hr ⊢
  exact⟨zSx x _ h.1 hr.1,zNA xs p (j+1) h.2 hr.2⟩
end
end
section
variable {E:Env}{G Gc:Gh}{rs:List Nat}{s i:Nat}
theorem zFr(t:T)(h:t.single=aD):(clo E t).single=aD:=by cases t<;>simp[T.single]at h<;>simp only[clo]<;>first|rfl|(split<;>first|rfl|(split<;>rfl))
mutual
theorem zNB(gB:∀z,Gc.hd i z=G.hd s z):(t:T)→ ∀(p:List Nat),tU E rs s t=aD→vals Gc i (clo E t) p=vals G s t p
 |.agg ts,p,h=>by simp only[tU,clo,vals]at h ⊢;exact zDN gB ts p 0 h
 |.tup _,_,h=>by grind[tU]
 |.lit _,p,_|.ro _,p,_|.any,p,_|.addr _ _,p,_|.sl _ _,p,_|.ptr _,p,_|.same _ _,p,_|.sub _ _ _ _ _,p,_=>by
  have h1:∀u:T,u.single=aD→vals Gc i u p=[G.hd s p]:=fun u hu=>by cases u<;>simp[T.single]at hu<;>simp[vals,gB]
  rw[h1 _ (zFr _ rfl)];simp[vals]
theorem zDN(gB:∀z,Gc.hd i z=G.hd s z):(ts:List T)→ ∀(p:List Nat)(j:Nat),zAs E rs s ts=aD→zR Gc i (zBi E ts) p j=zR G s ts p j
 | [],_,_,_=>by rfl
 |x::xs,p,j,h=>by simp only[zAs,J3]at h;simp only[zBi,zR];rw[zNB gB x _ h.1,zDN gB xs p _ h.2]
end
theorem zHv(gB:∀z,Gc.hd i z=G.hd s z)(t:T)(h:tU E rs s t=aD):mkV Gc i (clo E t) []=mkV G s t []:=by
 cases t with
 |agg ts=>grind[tU,clo,mkV,zDN]
 |tup _=>grind[tU]
 |_=>rw[yR (zFr _ rfl),yR rfl,gB]
end
end Go.Ab
